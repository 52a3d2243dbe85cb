import PyProof.Rows.All
import Wide.All
import OpenK.AllK
import Wide.FinOn
import HandS.ForMost
import HandS.Deep
import HandS.TupAny
import HandS.Steps
import HandS.Style
import HandS.NoneIn
import HandS.Small
import HandS.IsInst
import HandS.SortInts
import HandS.Conv
import HandS.Zip
import KE.GoesMore
import KE.GoesZip
import HandS.SortKw
import HandS.More
import KE.SortData
import HandS.Codes
import HandS.SetFor
import KE.KDictList
import PySem.Challenge.RW_planassize_k41_kinds_exactly_by_own_maps
set_option Elab.async false
set_option autoImplicit false
set_option linter.all false
set_option maxRecDepth 100000
namespace AL
open PySem L2
/-! AL1: data by value (D), the relation between values and data under a set of owned addresses, the owned environment. -/
inductive D where
  | non | bl (b : Bool) | int (i : Int) | str (x : Str) | tup (l : List D) | lst (l : List D) | dic (l m : List D) | dit (l m : List D) | obj (C : Addr) (ns : List Str) (l : List D) | scr (l : List D)
/-- a key of a dict as data -/
def kD : Key → D
  | .inl i => .int i
  | .inr x => .str x
abbrev Fg := PySem.W.Frag
abbrev Ad := Addr → Prop
def KTup (K : Fg) (a : Addr) (us : List V) : Prop := ∃ (o : Obj) (its : Array Value) (n : Nat), K.lookup a = some o ∧ o.cls = .type "tuple" ∧ o.data = .seq its n ∧ its.size ≤ sizeLine ∧ Vals us its.toList
/-- a list or tuple that stays: no owned one -/
def SL (H : Hp) (P : Ad) (a : Addr) (us : List V) : Prop := H a = some (.lst us) ∧ ¬ P a ∧ us.length ≤ sizeLine
def ST (K : Fg) (H : Hp) (P : Ad) (a : Addr) (us : List V) : Prop := (Rd H a (.tup us) ∧ ¬ P a ∧ us.length ≤ sizeLine) ∨ KTup K a us
/-- a list that is read alone (the script) -/
def SS (K : Fg) (H : Hp) (P : Ad) (a : Addr) (us : List V) : Prop := us.length ≤ sizeLine ∧ ((Rd H a (.lst us) ∧ ¬ P a) ∨ ∃ (o : Obj) (its : Array Value) (n : Nat), K.lookup a = some o ∧ o.cls = .type "list" ∧ o.dict = none ∧ o.data = .seq its n ∧ its.size ≤ sizeLine ∧ Vals us its.toList)
theorem SS.sq {K : Fg} {H : Hp} {P : Ad} {a : Addr} {us : List V} (h : SS K H P a us) : SqL K H a us := h.2.imp And.left id
theorem SL.sq {K : Fg} {H : Hp} {P : Ad} {a : Addr} {us : List V} (h : SL H P a us) : SqL K H a us := .of h.1
theorem ST.len {K : Fg} {H : Hp} {P : Ad} {a : Addr} {us : List V} (h : ST K H P a us) : us.length ≤ sizeLine := by
  rcases h with h | ⟨o, its, n, _, _, _, z, r⟩
  · exact h.2.2
  · have e := r.length
    simp only [Array.length_toList] at e
    omega
theorem ST.sq {K : Fg} {H : Hp} {P : Ad} {a : Addr} {us : List V} (h : ST K H P a us) : SqT K H a us := h.imp And.left id
mutual
inductive RD (K : Fg) (H : Hp) (P : Ad) : V → D → Prop
  | non : RD K H P V.non D.non
  | bl (b : Bool) : RD K H P (V.bl b) (D.bl b)
  | int (i : Int) : RD K H P (V.int i) (D.int i)
  | str (x : Str) : RD K H P (V.str x) (D.str x)
  | tup {a : Addr} {us : List V} {ds : List D} : ST K H P a us → RDs K H P us ds → RD K H P (V.ref a) (D.tup ds)
  | lst {a : Addr} {us : List V} {ds : List D} : SL H P a us → RDs K H P us ds → RD K H P (V.ref a) (D.lst ds)
  | dK {a : Addr} {kvs : List (Key × V)} {ks vs : List D} : Rd H a (.dK kvs) → ¬ P a → ks = (kvs.map fun kv => kD kv.1) → RDs K H P (kvs.map (·.2)) vs → RD K H P (V.ref a) (D.dic ks vs)
  | dT {a : Addr} {kvs : List (List Key × V)} {ks vs : List D} : Rd H a (.dT kvs) → ¬ P a → ks = (kvs.map fun kv => D.tup (kv.1.map kD)) → RDs K H P (kvs.map (·.2)) vs → RD K H P (V.ref a) (D.dit ks vs)
  | obj {a C dx : Addr} {fs : List (Str × V)} {ns : List Str} {l : List D} : H a = some (.ins C dx fs) → ¬ P a → ns = fs.map (·.1) → RDs K H P (fs.map (·.2)) l → RD K H P (V.ref a) (D.obj C ns l)
  | scr {a : Addr} {us : List V} {ds : List D} : SS K H P a us → RDs K H P us ds → RD K H P (V.ref a) (D.scr ds)
  | hup {a : Addr} {us : List V} {ds : List D} : H a = some (.tup us) → ¬ P a → us.length ≤ sizeLine → RDs K H P us ds → RD K H P (V.ref a) (D.dit ds (.non :: ds))
inductive RDs (K : Fg) (H : Hp) (P : Ad) : List V → List D → Prop
  | nil : RDs K H P [] []
  | cons {v : V} {vs : List V} {d : D} {ds : List D} : RD K H P v d → RDs K H P vs ds → RDs K H P (v :: vs) (d :: ds)
end
def isD : HO → Bool
  | .dK _ => true
  | .dT _ => true
  | _ => false
/-- an object stays; a dict may have been locked -/
def KeepO (o : HO) (H' : Hp) (a : Addr) : Prop := H' a = some o ∨ ∃ od, isD o = true ∧ H' a = some (.frz od o)
theorem KeepO.trans {o : HO} {H1 H2 : Hp} {a : Addr} (h : KeepO o H1 a) (k : ∀ u, H1 a = some u → KeepO u H2 a) : KeepO o H2 a := by
  rcases h with h | ⟨od, d, h⟩
  · exact k _ h
  · rcases k _ h with q | ⟨_, d', _⟩
    · exact .inr ⟨od, d, q⟩
    · cases d'
theorem KeepO.some {o : HO} {H1 : Hp} {a : Addr} (h : KeepO o H1 a) : ∃ o', H1 a = some o' := by
  rcases h with h | ⟨od, d, h⟩
  · exact ⟨_, h⟩
  · exact ⟨_, h⟩
theorem KeepO.rd {o : HO} {H1 : Hp} {a : Addr} (h : KeepO o H1 a) : Rd H1 a o := by
  rcases h with h | ⟨od, d, h⟩
  · exact .inl h
  · exact .inr ⟨od, h⟩
theorem KeepO.eq {o : HO} {H1 : Hp} {a : Addr} (h : KeepO o H1 a) (n : isD o = false) : H1 a = Option.some o := by
  rcases h with h | ⟨od, d, h⟩
  · exact h
  · rw [n] at d; cases d
/-- what is kept: all that was tracked ahead but the owned P0; P2: the owned behind, old ones or new ones -/
structure Go (P0 P1 P2 : Ad) (H H' : Hp) : Prop where
  keep : ∀ a o, H a = some o → ¬ P0 a → KeepO o H' a
  new : ∀ a, P2 a → P1 a ∨ H a = none
section
variable {K : Fg} {P0 P1 P2 : Ad} {H H' : Hp}
theorem Go.rd {a : Addr} {u : HO} (g : Go P0 P1 P2 H H') (s : ∀ a, P0 a → P1 a) (h : Rd H a u) (n : ¬ P1 a) : Rd H' a u ∧ ¬ P2 a := by
  have n0 : ¬ P0 a := fun z => n (s a z)
  have e : ∃ o, H a = some o := by
    rcases h with h | ⟨o, h⟩
    · exact ⟨_, h⟩
    · exact ⟨_, h⟩
  refine ⟨?_, fun z => ?_⟩
  · rcases h with h | ⟨o, h⟩
    · exact (g.keep _ _ h n0).rd
    · exact .inr ⟨o, (g.keep _ _ h n0).eq rfl⟩
  · obtain ⟨o, e⟩ := e
    rcases g.new a z with z | z
    · exact n z
    · rw [e] at z; cases z
theorem Go.at {a : Addr} {u : HO} (g : Go P0 P1 P2 H H') (s : ∀ a, P0 a → P1 a) (h : H a = some u) (n : ¬ P1 a) (nd : isD u = false) : H' a = some u ∧ ¬ P2 a := by
  refine ⟨(g.keep _ _ h fun z => n (s a z)).eq nd, fun z => ?_⟩
  rcases g.new a z with z | z
  · exact n z
  · rw [h] at z; cases z
theorem Go.sl {a : Addr} {us : List V} (g : Go P0 P1 P2 H H') (s : ∀ a, P0 a → P1 a) (h : SL H P1 a us) : SL H' P2 a us := by
  have n0 : ¬ P0 a := fun z => h.2.1 (s a z)
  refine ⟨(g.keep _ _ h.1 n0).eq rfl, fun z => ?_, h.2.2⟩
  rcases g.new a z with z | z
  · exact h.2.1 z
  · rw [h.1] at z; cases z
theorem Go.st {a : Addr} {us : List V} (g : Go P0 P1 P2 H H') (s : ∀ a, P0 a → P1 a) (h : ST K H P1 a us) : ST K H' P2 a us := by
  rcases h with ⟨h, n, l⟩ | h
  · exact .inl ⟨(g.rd s h n).1, (g.rd s h n).2, l⟩
  · exact .inr h
theorem Go.ss {a : Addr} {us : List V} (g : Go P0 P1 P2 H H') (s : ∀ a, P0 a → P1 a) (h : SS K H P1 a us) : SS K H' P2 a us := ⟨h.1, h.2.imp (fun h => g.rd s h.1 h.2) id⟩
mutual
theorem RD.go (g : Go P0 P1 P2 H H') (s : ∀ a, P0 a → P1 a) : ∀ {v : V} {d : D}, RD K H P1 v d → RD K H' P2 v d
  | _, _, .non => .non
  | _, _, .bl b => .bl b
  | _, _, .int i => .int i
  | _, _, .str x => .str x
  | _, _, .tup h r => .tup (g.st s h) (RDs.go g s r)
  | _, _, .lst h r => .lst (g.sl s h) (RDs.go g s r)
  | _, _, .dK h n e r => .dK (g.rd s h n).1 (g.rd s h n).2 e (RDs.go g s r)
  | _, _, .dT h n e r => .dT (g.rd s h n).1 (g.rd s h n).2 e (RDs.go g s r)
  | _, _, .obj h n e r => .obj (g.at s h n rfl).1 (g.at s h n rfl).2 e (RDs.go g s r)
  | _, _, .scr h r => .scr (g.ss s h) (RDs.go g s r)
  | _, _, .hup h n l r => .hup (g.at s h n rfl).1 (g.at s h n rfl).2 l (RDs.go g s r)
theorem RDs.go (g : Go P0 P1 P2 H H') (s : ∀ a, P0 a → P1 a) : ∀ {vs : List V} {ds : List D}, RDs K H P1 vs ds → RDs K H' P2 vs ds
  | _, _, .nil => .nil
  | _, _, .cons h r => .cons (RD.go g s h) (RDs.go g s r)
end
end
section
variable {K : Fg} {P P' : Ad} {H : Hp}
theorem go_less (s : ∀ a, P' a → P a) : Go (fun _ => False) P P' H H := ⟨fun _ _ h _ => .inl h, fun a z => .inl (s a z)⟩
theorem RD.less {v : V} {d : D} (h : RD K H P v d) (s : ∀ a, P' a → P a) : RD K H P' v d := h.go (go_less s) fun _ z => z.elim
theorem RDs.less {vs : List V} {ds : List D} (h : RDs K H P vs ds) (s : ∀ a, P' a → P a) : RDs K H P' vs ds := h.go (go_less s) fun _ z => z.elim
theorem RDs.length : ∀ {vs : List V} {ds : List D}, RDs K H P vs ds → vs.length = ds.length
  | _, _, .nil => rfl
  | _, _, .cons _ r => congrArg Nat.succ (RDs.length r)
theorem RDs.get : ∀ {vs : List V} {ds : List D} {i : Nat} {d : D}, RDs K H P vs ds → ds[i]? = some d → ∃ v, vs[i]? = some v ∧ RD K H P v d
  | _, _, _, _, .nil, e => by simp at e
  | _, _, 0, _, .cons r _, e => by simp at e; subst e; exact ⟨_, rfl, r⟩
  | _, _, i + 1, d, .cons _ t, e => by
    obtain ⟨v, h1, h2⟩ := RDs.get (i := i) (d := d) t (by simpa using e)
    exact ⟨v, by simpa using h1, h2⟩
theorem RDs.getV : ∀ {vs : List V} {ds : List D} {i : Nat} {v : V}, RDs K H P vs ds → vs[i]? = some v → ∃ d, ds[i]? = some d ∧ RD K H P v d
  | _, _, _, _, .nil, e => by simp at e
  | _, _, 0, _, .cons r _, e => by simp at e; subst e; exact ⟨_, rfl, r⟩
  | _, _, i + 1, v, .cons _ t, e => by
    obtain ⟨d, h1, h2⟩ := RDs.getV (i := i) (v := v) t (by simpa using e)
    exact ⟨d, by simpa using h1, h2⟩
theorem RDs.append : ∀ {us vs : List V} {ds es : List D}, RDs K H P us ds → RDs K H P vs es → RDs K H P (us ++ vs) (ds ++ es)
  | _, _, _, _, .nil, s => s
  | _, _, _, _, .cons r t, s => .cons r (RDs.append t s)
theorem RDs.take : ∀ {us : List V} {ds : List D} (n : Nat), RDs K H P us ds → RDs K H P (us.take n) (ds.take n)
  | _, _, 0, _ => .nil
  | _, _, _ + 1, .nil => .nil
  | _, _, n + 1, .cons r t => .cons r (RDs.take n t)
theorem RDs.drop : ∀ {us : List V} {ds : List D} (n : Nat), RDs K H P us ds → RDs K H P (us.drop n) (ds.drop n)
  | _, _, 0, r => r
  | _, _, _ + 1, .nil => .nil
  | _, _, n + 1, .cons _ t => RDs.drop n t
theorem RDs.set {v : V} {d : D} (h : RD K H P v d) : ∀ {us : List V} {ds : List D} (n : Nat), RDs K H P us ds → RDs K H P (us.set n v) (ds.set n d)
  | _, _, _, .nil => .nil
  | _, _, 0, .cons _ t => .cons h t
  | _, _, n + 1, .cons r t => .cons r (RDs.set h n t)
theorem RDs.ints : ∀ (ns : List Int), RDs K H P (ns.map V.int) (ns.map D.int)
  | [] => .nil
  | n :: ns => .cons (.int n) (RDs.ints ns)
theorem RDs.strs : ∀ (ns : List Str), RDs K H P (ns.map V.str) (ns.map D.str)
  | [] => .nil
  | n :: ns => .cons (.str n) (RDs.strs ns)
theorem RDs.ofInts : ∀ {us : List V} {ns : List Int}, RDs K H P us (ns.map D.int) → us = ns.map V.int
  | _, [], .nil => rfl
  | _, n :: ns, .cons r t => by
    cases r
    rw [RDs.ofInts t]
    rfl
theorem RDs.ofBls : ∀ {us : List V} {ns : List Bool}, RDs K H P us (ns.map D.bl) → us = ns.map V.bl
  | _, [], .nil => rfl
  | _, n :: ns, .cons r t => by
    cases r
    rw [RDs.ofBls t]
    rfl
theorem RDs.ofStrs : ∀ {us : List V} {ns : List Str}, RDs K H P us (ns.map D.str) → us = ns.map V.str
  | _, [], .nil => rfl
  | _, n :: ns, .cons r t => by
    cases r
    rw [RDs.ofStrs t]
    rfl
/-- what an owned address holds -/
def RO (K : Fg) (H : Hp) (P : Ad) (p : Addr) : D → Prop
  | .lst ds => ∃ us, H p = some (.lst us) ∧ RDs K H P us ds ∧ us.length ≤ sizeLine
  | .dic ks vs => ∃ kvs, H p = some (.dK kvs) ∧ ks = (kvs.map fun kv => kD kv.1) ∧ RDs K H P (kvs.map (·.2)) vs
  | .dit ks vs => ∃ kvs, H p = some (.dT kvs) ∧ ks = (kvs.map fun kv => D.tup (kv.1.map kD)) ∧ RDs K H P (kvs.map (·.2)) vs
  | .obj C ns l => ∃ dx fs, H p = some (.ins C dx fs) ∧ ns = fs.map (·.1) ∧ RDs K H P (fs.map (·.2)) l
  | _ => False
theorem RO.able {p : Addr} : ∀ {d : D}, RO K H P p d → (match d with | .lst _ => true | .dic _ _ => true | .dit _ _ => true | .obj _ _ _ => true | _ => false) = true
  | .lst ds, _ => rfl
  | .dic ks vs, _ => rfl
  | .dit ks vs, _ => rfl
  | .obj C ns l, _ => rfl
theorem RO.some {p : Addr} : ∀ {d : D}, RO K H P p d → ∃ o, H p = some o ∧ Mut (some o)
  | .lst ds, ⟨us, h, _⟩ => ⟨_, h, trivial⟩
  | .dic ks vs, ⟨us, h, _⟩ => ⟨_, h, trivial⟩
  | .dit ks vs, ⟨us, h, _⟩ => ⟨_, h, trivial⟩
  | .obj C ns l, ⟨dx, fs, h, _⟩ => ⟨_, h, trivial⟩
theorem RO.go {P0 P1 P2 : Ad} {H' : Hp} {p : Addr} (g : Go P0 P1 P2 H H') (s : ∀ a, P0 a → P1 a) (hp : H' p = H p) : ∀ {d : D}, RO K H P1 p d → RO K H' P2 p d
  | .lst ds, ⟨us, h, r, l⟩ => ⟨us, hp.trans h, r.go g s, l⟩
  | .dic ks vs, ⟨us, h, e, r⟩ => ⟨us, hp.trans h, e, r.go g s⟩
  | .dit ks vs, ⟨us, h, e, r⟩ => ⟨us, hp.trans h, e, r.go g s⟩
  | .obj C ns l, ⟨dx, fs, h, e, r⟩ => ⟨dx, fs, hp.trans h, e, r.go g s⟩
theorem RO.less {p : Addr} {d : D} (h : RO K H P p d) (s : ∀ a, P' a → P a) : RO K H P' p d := h.go (go_less s) (fun _ z => z.elim) rfl
/-- an owned thing that is owned no more -/
theorem RO.rd {p : Addr} : ∀ {d : D}, RO K H P p d → ¬ P p → RD K H P (V.ref p) d
  | .lst ds, ⟨us, h, r, l⟩, n => .lst ⟨h, n, l⟩ r
  | .dic ks vs, ⟨us, h, e, r⟩, n => .dK (.inl h) n e r
  | .dit ks vs, ⟨us, h, e, r⟩, n => .dT (.inl h) n e r
  | .obj C ns l, ⟨dx, fs, h, e, r⟩, n => .obj h n e r
end

/-! ### the owned environment -/
inductive AV where
  | un | dat (d : D) | own (d : D)
abbrev AEnv := List AV
def Own (σ : St) (env : AEnv) (a : Addr) : Prop := ∃ (i : Nat) (d : D), env[i]? = some (.own d) ∧ σ[i]? = some (some (.ref a))
def Pw (Y : Ad) (σ : St) (env : AEnv) (a : Addr) : Prop := Y a ∨ Own σ env a
structure Rep (K : Fg) (Y : Ad) (H : Hp) (σ : St) (env : AEnv) : Prop where
  len : σ.length = env.length
  dat : ∀ (i : Nat) (d : D), env[i]? = some (.dat d) → ∃ v, σ[i]? = some (some v) ∧ RD K H (Pw Y σ env) v d
  own : ∀ (i : Nat) (d : D), env[i]? = some (.own d) → ∃ p, σ[i]? = some (some (.ref p)) ∧ ¬ Y p ∧ RO K H (Pw Y σ env) p d
  yim : ∀ a, Y a → ∃ o, H a = some o ∧ Mut (some o)
  inj : ∀ (i j : Nat) (d e : D) (p : Addr), env[i]? = some (.own d) → env[j]? = some (.own e) → σ[i]? = some (some (.ref p)) → σ[j]? = some (some (.ref p)) → i = j
theorem Rep.yin {K : Fg} {Y : Ad} {H : Hp} {σ : St} {env : AEnv} (R : Rep K Y H σ env) : ∀ a, Y a → ∃ o, H a = some o := fun a z => let ⟨o, h, _⟩ := R.yim a z; ⟨o, h⟩
def ownable : D → Bool
  | .lst _ => true
  | .dic _ _ => true
  | .dit _ _ => true
  | .obj _ _ _ => true
  | _ => false
/-- how a slot goes on within an expression -/
def Sh : Option AV → Option AV → Prop
  | some (.own _), some (.own _) => True
  | some (.own _), some (.dat d) => ownable d = true
  | some (.dat d), some (.dat e) => d = e
  | some .un, some .un => True
  | none, none => True
  | _, _ => False
theorem Sh.refl : ∀ a : Option AV, Sh a a
  | some (.own _) => trivial
  | some (.dat _) => rfl
  | some .un => trivial
  | none => trivial
theorem Sh.trans : ∀ {a b c : Option AV}, Sh a b → Sh b c → Sh a c
  | some (.own _), some (.own _), some (.own _), _, _ => trivial
  | some (.own _), some (.own _), some (.dat _), _, k => k
  | some (.own _), some (.dat d), some (.dat e), h, k => by
    have k' : d = e := k
    subst k'
    exact h
  | some (.dat _), some (.dat _), some (.dat _), h, k => Eq.trans h k
  | some .un, some .un, some .un, _, _ => trivial
  | none, none, none, _, _ => trivial
theorem Sh.back {a : Option AV} {d : D} (h : Sh a (some (.own d))) : ∃ e, a = some (.own e) := by
  match a, h with
  | some (.own e), _ => exact ⟨e, rfl⟩
structure Adv (σ : St) (Y : Ad) (env : AEnv) (H : Hp) (Y' : Ad) (env' : AEnv) (H' : Hp) : Prop where
  keep : ∀ a o, H a = some o → ¬ Own σ env a → KeepO o H' a
  ky : ∀ a, Y a → H' a = H a
  yu : ∀ a, Y a → Y' a
  yn : ∀ a, Y' a → Y a ∨ H a = none
  sh : ∀ i : Nat, Sh env[i]? env'[i]?
  live : ∀ a o, H a = some o → ∃ o', H' a = some o'
section
variable {K : Fg} {σ : St} {Y Y1 Y2 : Ad} {env env1 env2 : AEnv} {H H1 H2 : Hp}
theorem Adv.refl : Adv σ Y env H Y env H := ⟨fun _ _ h _ => .inl h, fun _ _ => rfl, fun _ h => h, fun _ h => .inl h, fun i => Sh.refl _, fun _ o h => ⟨o, h⟩⟩
theorem Adv.own (g : Adv σ Y env H Y1 env1 H1) {a : Addr} (h : Own σ env1 a) : Own σ env a := by
  obtain ⟨i, d, e, r⟩ := h
  have s := g.sh i
  rw [e] at s
  obtain ⟨e', z⟩ := s.back
  exact ⟨i, e', z, r⟩
theorem Adv.trans (g : Adv σ Y env H Y1 env1 H1) (k : Adv σ Y1 env1 H1 Y2 env2 H2) : Adv σ Y env H Y2 env2 H2 := by
  refine ⟨fun a o h n => (g.keep a o h n).trans fun u q => k.keep a u q fun z => n (g.own z), fun a h => (k.ky a (g.yu a h)).trans (g.ky a h), fun a h => k.yu a (g.yu a h), fun a h => ?_, fun i => (g.sh i).trans (k.sh i), fun a o h => ?_⟩
  · rcases k.yn a h with z | z
    · exact g.yn a z
    · cases q : H a with
      | none => exact .inr rfl
      | some o =>
        obtain ⟨o', w⟩ := g.live a o q
        rw [w] at z; cases z
  · obtain ⟨o', w⟩ := g.live a o h
    exact k.live a o' w
theorem Adv.go (g : Adv σ Y env H Y1 env1 H1) : Go (Own σ env) (Pw Y σ env) (Pw Y1 σ env1) H H1 := by
  refine ⟨g.keep, fun a h => ?_⟩
  rcases h with h | h
  · exact (g.yn a h).imp .inl id
  · exact .inl (.inr (g.own h))
theorem Adv.rd (g : Adv σ Y env H Y1 env1 H1) {v : V} {d : D} (h : RD K H (Pw Y σ env) v d) : RD K H1 (Pw Y1 σ env1) v d := h.go g.go fun _ z => .inr z
theorem Adv.rds (g : Adv σ Y env H Y1 env1 H1) {v : List V} {d : List D} (h : RDs K H (Pw Y σ env) v d) : RDs K H1 (Pw Y1 σ env1) v d := h.go g.go fun _ z => .inr z
/-- fewer borrowed addresses -/
theorem Rep.less (R : Rep K Y H σ env) (s : ∀ a, Y1 a → Y a) : Rep K Y1 H σ env := by
  have s2 : ∀ a, Pw Y1 σ env a → Pw Y σ env a := fun a h => h.imp (s a) id
  refine ⟨R.len, fun i d e => ?_, fun i d e => ?_, fun a h => R.yim a (s a h), R.inj⟩
  · obtain ⟨v, h, r⟩ := R.dat i d e
    exact ⟨v, h, r.less s2⟩
  · obtain ⟨p, h, n, r⟩ := R.own i d e
    exact ⟨p, h, fun z => n (s p z), r.less s2⟩

/-! ### what an expression gives -/
inductive RV where
  | dat (d : D) | at (i : Nat) | new (d : D)
def val (env : AEnv) : RV → Option D
  | .dat d => some d
  | .new d => some d
  | .at i => match env[i]? with
    | some (.own d) => some d
    | some (.dat d) => some d
    | _ => none
def ResOk (K : Fg) (H : Hp) (Y Y' : Ad) (σ : St) (env : AEnv) (v : V) : RV → Prop
  | .dat d => Y' = Y ∧ RD K H (Pw Y σ env) v d
  | .at i => Y' = Y ∧ σ[i]? = some (some v) ∧ ∃ d, env[i]? = some (.own d) ∨ env[i]? = some (.dat d)
  | .new d => ∃ p, v = .ref p ∧ (Y' = fun a => Y a ∨ a = p) ∧ ¬ Pw Y σ env p ∧ RO K H (Pw Y' σ env) p d
/-- the value as it is read now: its own node may be owned, its items are data -/
def RC (K : Fg) (H : Hp) (P : Ad) (v : V) (d : D) : Prop := RD K H P v d ∨ ∃ p, v = .ref p ∧ RO K H P p d
theorem RC.rd {P : Ad} {v : V} {d : D} (h : RC K H P v d) : RD K H (fun _ => False) v d := by
  rcases h with h | ⟨p, rfl, h⟩
  · exact h.less fun _ z => z.elim
  · exact (h.less (P' := fun _ => False) fun _ z => z.elim).rd fun z => z
theorem RC.less {P P' : Ad} {v : V} {d : D} (h : RC K H P v d) (s : ∀ a, P' a → P a) : RC K H P' v d := by
  rcases h with h | ⟨p, rfl, h⟩
  · exact .inl (h.less s)
  · exact .inr ⟨p, rfl, h.less s⟩
theorem ResOk.rc {v : V} (R : Rep K Y1 H σ env) : ∀ {r : RV}, ResOk K H Y Y1 σ env v r → ∃ d, val env r = some d ∧ RC K H (Pw Y1 σ env) v d
  | .dat d, ⟨e, h⟩ => by subst e; exact ⟨d, rfl, .inl h⟩
  | .new d, ⟨p, e, _, _, h⟩ => ⟨d, rfl, .inr ⟨p, e, h⟩⟩
  | .at i, ⟨e, h, d, q⟩ => by
    subst e
    rcases q with q | q
    · obtain ⟨p, h', _, r⟩ := R.own i d q
      rw [h] at h'; cases h'
      exact ⟨d, by simp [val, q], .inr ⟨p, rfl, r⟩⟩
    · obtain ⟨p, h', r⟩ := R.dat i d q
      rw [h] at h'; cases h'
      exact ⟨d, by simp [val, q], .inl r⟩
/-- a result waits while another part is evaluated -/
theorem ResOk.later {v : V} (g : Adv σ Y1 env1 H1 Y2 env2 H2) (R : Rep K Y2 H2 σ env2) : ∀ {r : RV}, ResOk K H1 Y Y1 σ env1 v r → ∃ d, val env2 r = some d ∧ RC K H2 (Pw Y2 σ env2) v d
  | .dat d, ⟨e, h⟩ => by subst e; exact ⟨d, rfl, .inl (g.rd h)⟩
  | .new d, ⟨p, e, ey, n, h⟩ => by
    refine ⟨d, rfl, .inr ⟨p, e, h.go g.go (fun _ z => .inr z) ?_⟩⟩
    exact g.ky p (by rw [ey]; exact .inr rfl)
  | .at i, ⟨e, h, d, q⟩ => by
    have s := g.sh i
    have R' := R
    rcases q with q | q
    · rw [q] at s
      match w : env2[i]?, s with
      | some (.own d'), _ =>
        obtain ⟨p, h', _, r⟩ := R.own i d' w
        rw [h] at h'; cases h'
        exact ⟨d', by simp [val, w], .inr ⟨p, rfl, r⟩⟩
      | some (.dat d'), _ =>
        obtain ⟨p, h', r⟩ := R.dat i d' w
        rw [h] at h'; cases h'
        exact ⟨d', by simp [val, w], .inl r⟩
    · rw [q] at s
      match w : env2[i]?, s with
      | some (.dat d'), _ =>
        obtain ⟨p, h', r⟩ := R.dat i d' w
        rw [h] at h'; cases h'
        exact ⟨d', by simp [val, w], .inl r⟩
end
end AL
namespace AL
open PySem L2
/-! AL2: the judgements over data (AE, AT, AA), results, operators. -/
section
variable {K : Fg} {σ : St} {Y Y' Y1 Y2 : Ad} {env env1 env2 : AEnv} {H H' H1 H2 : Hp}
/-- a heap that only grew -/
theorem Rep.grow (R : Rep K Y H σ env) (y : ∀ a, Y' a → Y a ∨ H a = none) (k : ∀ a o, H a = some o → H' a = some o) (yi : ∀ a, Y' a → ∃ o, H' a = some o ∧ Mut (some o)) : Rep K Y' H' σ env := by
  have g : Go (fun _ => False) (Pw Y σ env) (Pw Y' σ env) H H' := ⟨fun a o h _ => .inl (k a o h), fun a h => by
    rcases h with h | h
    · exact (y a h).imp .inl id
    · exact .inl (.inr h)⟩
  refine ⟨R.len, fun i d e => ?_, fun i d e => ?_, yi, R.inj⟩
  · obtain ⟨v, h, r⟩ := R.dat i d e
    exact ⟨v, h, r.go g fun _ z => z.elim⟩
  · obtain ⟨p, h, n, r⟩ := R.own i d e
    obtain ⟨o, q, _⟩ := r.some
    refine ⟨p, h, fun z => ?_, r.go g (fun _ z => z.elim) ((k _ _ q).trans q.symm)⟩
    rcases y p z with z | z
    · exact n z
    · rw [q] at z; cases z
theorem Adv.grow (R : Rep K Y H σ env) (k : ∀ a o, H a = some o → H' a = some o) (yu : ∀ a, Y a → Y' a) (y : ∀ a, Y' a → Y a ∨ H a = none) : Adv σ Y env H Y' env H' :=
  ⟨fun a o h _ => .inl (k a o h), fun a z => let ⟨o, q⟩ := R.yin a z; (k a o q).trans q.symm, yu, y, fun i => Sh.refl _, fun a o h => ⟨o, k a o h⟩⟩
theorem Adv.drop (g : Adv σ Y env H Y' env1 H') : Adv σ Y env H Y env1 H' := ⟨g.keep, g.ky, fun _ h => h, fun _ h => .inl h, g.sh, g.live⟩
theorem Adv.less (g : Adv σ Y env H Y' env1 H') (s : ∀ a, Y1 a → Y' a) (u : ∀ a, Y a → Y1 a) : Adv σ Y env H Y1 env1 H' := ⟨g.keep, g.ky, u, fun a h => g.yn a (s a h), g.sh, g.live⟩
theorem upd_keep {p : Addr} {o : HO} (n : H p = none) : ∀ a u, H a = some u → upd H p o a = some u := fun a u h => by
  rw [upd_ne (ne_of_none h n)]; exact h
theorem pw_less (s : ∀ a, Y1 a → Y a) : ∀ a, Pw Y1 σ env a → Pw Y σ env a := fun a h => h.imp (s a) id
end

abbrev AE' := AEnv → (RV → AEnv → Prop) → Prop
abbrev AT' := AEnv → (Bool → AEnv → Prop) → Prop
abbrev AA' := AEnv → (List RV → AEnv → Prop) → Prop
def Snd (K : Fg) (t : TE) (a : AE') : Prop := ∀ (Y : Ad) (H : Hp) (σ : St) (env : AEnv) (R : RV → AEnv → Prop) (Q : VK), Rep K Y H σ env → a env R →
  (∀ v H' env' r Y', Rep K Y' H' σ env' → Adv σ Y env H Y' env' H' → ResOk K H' Y Y' σ env' v r → R r env' → Q v H') → t σ H Q
def SndT (K : Fg) (t : TT) (a : AT') : Prop := ∀ (Y : Ad) (H : Hp) (σ : St) (env : AEnv) (R : Bool → AEnv → Prop) (Q : Bool → Hp → Prop), Rep K Y H σ env → a env R →
  (∀ b H' env', Rep K Y H' σ env' → Adv σ Y env H Y env' H' → R b env' → Q b H') → t σ H Q
/-- the arguments: data, or names of owned things that are lent -/
inductive ArgsOk (K : Fg) (H : Hp) (Y : Ad) (σ : St) (env : AEnv) : List V → List RV → Prop
  | nil : ArgsOk K H Y σ env [] []
  | cons {v : V} {vs : List V} {r : RV} {rs : List RV} : ResOk K H Y Y σ env v r → ArgsOk K H Y σ env vs rs → ArgsOk K H Y σ env (v :: vs) (r :: rs)
def SndA (K : Fg) (t : TA) (a : AA') : Prop := ∀ (Y : Ad) (H : Hp) (σ : St) (env : AEnv) (R : List RV → AEnv → Prop) (Q : List V → Hp → Prop), Rep K Y H σ env → a env R →
  (∀ vs H' env' rs, Rep K Y H' σ env' → Adv σ Y env H Y env' H' → ArgsOk K H' Y σ env' vs rs → R rs env' → Q vs H') → t σ H Q
def AE (X : Cx) (e : Expr) (a : AE') : Prop := ∃ t, PE X e t ∧ Snd X.K t a
def AT (X : Cx) (e : Expr) (a : AT') : Prop := ∃ t, PT X e t ∧ SndT X.K t a
def AW (X : Cx) (e : Expr) (a : AT') : Prop := ∃ t, PW X e t ∧ SndT X.K t a
def AA (X : Cx) (es : List Expr) (a : AA') : Prop := ∃ t, PA X es t ∧ SndA X.K t a
section
variable {K : Fg} {σ : St} {Y Y' Y1 Y2 : Ad} {env env1 env2 : AEnv} {H H' H1 H2 : Hp}
/-- no new thing: data or a lent name goes on -/
theorem ResOk.on {v : V} (g : Adv σ Y env1 H1 Y env2 H2) : ∀ {r : RV}, ResOk K H1 Y Y σ env1 v r → ResOk K H2 Y Y σ env2 v r
  | .dat d, ⟨e, h⟩ => ⟨rfl, g.rd h⟩
  | .at i, ⟨e, h, d, q⟩ => by
    refine ⟨rfl, h, ?_⟩
    have s := g.sh i
    rcases q with q | q
    · rw [q] at s
      match w : env2[i]?, s with
      | some (.own d'), _ => exact ⟨d', .inl rfl⟩
      | some (.dat d'), _ => exact ⟨d', .inr rfl⟩
    · rw [q] at s
      match w : env2[i]?, s with
      | some (.dat d'), _ => exact ⟨d', .inr rfl⟩
  | .new d, ⟨p, _, ey, n, _⟩ => by
    refine (n (.inl ?_)).elim
    rw [ey]
    exact .inr rfl
theorem ArgsOk.on (g : Adv σ Y env1 H1 Y env2 H2) : ∀ {vs : List V} {rs : List RV}, ArgsOk K H1 Y σ env1 vs rs → ArgsOk K H2 Y σ env2 vs rs
  | _, _, .nil => .nil
  | _, _, .cons h r => .cons (h.on g) (r.on g)
end

/-! ### names, constants -/
def aVar (i : Nat) : AE' := fun env R => match env[i]? with
  | some (.dat d) => R (.dat d) env
  | some (.own _) => R (.at i) env
  | _ => False
def aC (d : D) : AE' := fun env R => R (.dat d) env
theorem snd_var {K : Fg} (i : Nat) : Snd K (tVar i) (aVar i) := by
  intro Y H σ env R Q rep a k
  unfold aVar at a
  match w : env[i]?, a with
  | some (.dat d), a =>
    obtain ⟨v, h, r⟩ := rep.dat i d w
    exact ⟨v, h, k v H env (.dat d) Y rep Adv.refl ⟨rfl, r⟩ a⟩
  | some (.own d), a =>
    obtain ⟨p, h, n, r⟩ := rep.own i d w
    exact ⟨_, h, k _ H env (.at i) Y rep Adv.refl ⟨rfl, h, d, .inl w⟩ a⟩
theorem snd_c {K : Fg} {v : V} {d : D} (h : ∀ H P, RD K H P v d) : Snd K (tC v) (aC d) := fun Y H σ env R Q rep a k => k v H env (.dat d) Y rep Adv.refl ⟨rfl, h _ _⟩ a
section
variable {X : Cx} {pos : Pos}
theorem av (i : Nat) {x : Str} (hN : X.N[i]? = some x := by rfl) (hv : Vis X.env.scope x := by first | exact Or.inl rfl | exact Or.inr (Or.inl rfl) | exact Or.inr (Or.inr rfl)) (hd : (x == ("__debug__" : Str)) = false := by decide)
    (hcd : (x == ("__classdict__" : Str)) = false := by decide) : AE X (.Name x pos) (aVar i) := ⟨_, pe_var hN hv hd hcd, snd_var i⟩
theorem ae_int {i : Int} {j} : AE X (.Constant (.int i) j pos) (aC (.int i)) := ⟨_, pe_int, snd_c fun _ _ => .int i⟩
theorem ae_bl {b : Bool} {j} : AE X (.Constant (.bool b) j pos) (aC (.bl b)) := ⟨_, pe_bl, snd_c fun _ _ => .bl b⟩
theorem ae_non {j} : AE X (.Constant .none j pos) (aC .non) := ⟨_, pe_non, snd_c fun _ _ => .non⟩
theorem ae_str {x : Str} {j} : AE X (.Constant (.str x) j pos) (aC (.str x)) := ⟨_, pe_str, snd_c fun _ _ => .str x⟩
theorem ae_globI {x : Str} {i : Int} {u : Value} (hg : Gl X x) (hm : X.mg x = some u) (r : RelV (.int i) u) (hd : (x == ("__debug__" : Str)) = false := by decide) : AE X (.Name x pos) (aC (.int i)) := ⟨_, pe_glob hg hm r hd, snd_c fun _ _ => .int i⟩
theorem ae_globS {x : Str} {i : Str} {u : Value} (hg : Gl X x) (hm : X.mg x = some u) (r : RelV (.str i) u) (hd : (x == ("__debug__" : Str)) = false := by decide) : AE X (.Name x pos) (aC (.str i)) := ⟨_, pe_glob hg hm r hd, snd_c fun _ _ => .str i⟩
end

/-! ### a result handed over as data -/
def frz (env : AEnv) (R : RV → AEnv → Prop) : RV → Prop
  | .dat d => R (.dat d) env
  | .new d => R (.dat d) env
  | .at i => match env[i]? with
    | some (.own d) => R (.dat d) (env.set i (.dat d))
    | some (.dat d) => R (.dat d) env
    | _ => False
def aFrz (a : AE') : AE' := fun env R => a env fun r env1 => frz env1 R r
section
variable {K : Fg} {σ : St} {Y Y' Y1 Y2 : Ad} {env env1 env2 : AEnv} {H H' H1 H2 : Hp}
theorem Rep.freeze {i : Nat} {d : D} (R : Rep K Y H σ env) (h : env[i]? = some (.own d)) : Rep K Y H σ (env.set i (.dat d)) ∧ Adv σ Y env H Y (env.set i (.dat d)) H ∧ ∃ v, σ[i]? = some (some v) ∧ RD K H (Pw Y σ (env.set i (.dat d))) v d := by
  have hi : i < env.length := (List.getElem?_eq_some_iff.mp h).1
  have back : ∀ (j : Nat) (e : D), (env.set i (.dat d))[j]? = some (.own e) → env[j]? = some (.own e) ∧ j ≠ i := fun j e q => by
    by_cases z : i = j
    · subst z
      rw [List.getElem?_set_self hi] at q; cases q
    · rw [List.getElem?_set_ne z] at q
      exact ⟨q, fun w => z w.symm⟩
  have ow : ∀ a, Own σ (env.set i (.dat d)) a → Own σ env a := fun a ⟨j, e, q, w⟩ => ⟨j, e, (back j e q).1, w⟩
  have pw : ∀ a, Pw Y σ (env.set i (.dat d)) a → Pw Y σ env a := fun a z => z.imp id (ow a)
  obtain ⟨p, hp, np, rp⟩ := R.own i d h
  have npw : ¬ Pw Y σ (env.set i (.dat d)) p := fun z => by
    rcases z with z | ⟨j, e, q, w⟩
    · exact np z
    · obtain ⟨q1, q2⟩ := back j e q
      exact q2 (R.inj j i e d p q1 h w hp)
  have rd : RD K H (Pw Y σ (env.set i (.dat d))) (.ref p) d := (rp.less pw).rd npw
  refine ⟨⟨by rw [List.length_set]; exact R.len, fun j e q => ?_, fun j e q => ?_, R.yim, fun j k e f a q1 q2 w1 w2 => R.inj j k e f a (back j e q1).1 (back k f q2).1 w1 w2⟩, ⟨fun _ _ h _ => .inl h, fun _ _ => rfl, fun _ h => h, fun _ h => .inl h, fun j => ?_, fun _ o h => ⟨o, h⟩⟩, _, hp, rd⟩
  · by_cases z : i = j
    · subst z
      rw [List.getElem?_set_self hi] at q; cases q
      exact ⟨_, hp, rd⟩
    · rw [List.getElem?_set_ne z] at q
      obtain ⟨v, w, r⟩ := R.dat j e q
      exact ⟨v, w, r.less pw⟩
  · obtain ⟨q1, q2⟩ := back j e q
    obtain ⟨p', w, n, r⟩ := R.own j e q1
    exact ⟨p', w, n, r.less pw⟩
  · by_cases z : i = j
    · subst z
      rw [List.getElem?_set_self hi, h]
      have ab := rp.able
      cases d <;> first | rfl | exact (Bool.false_ne_true ab).elim
    · rw [List.getElem?_set_ne z]
      exact Sh.refl _
/-- the step of freezing -/
theorem frz_ok {v : V} {r : RV} {R : RV → AEnv → Prop} (rep : Rep K Y1 H σ env) (yu : ∀ a, Y a → Y1 a) (h : ResOk K H Y Y1 σ env v r) (q : frz env R r) :
    ∃ env2 d, Rep K Y H σ env2 ∧ Adv σ Y env H Y env2 H ∧ RD K H (Pw Y σ env2) v d ∧ R (.dat d) env2 := by
  cases r with
  | dat d =>
    obtain ⟨e, h1⟩ := h
    subst e
    exact ⟨env, d, rep, Adv.refl, h1, q⟩
  | new d =>
    obtain ⟨p, e, ey, n, h1⟩ := h
    subst e
    exact ⟨env, d, rep.less yu, Adv.refl, (h1.less (pw_less yu)).rd n, q⟩
  | «at» i =>
    obtain ⟨e, h1, d, w⟩ := h
    subst e
    rcases w with w | w
    · have q' : R (.dat d) (env.set i (.dat d)) := by simpa [frz, w] using q
      obtain ⟨a, b, v', h', r⟩ := rep.freeze w
      rw [h1] at h'; cases h'
      exact ⟨_, d, a, b, r, q'⟩
    · have q' : R (.dat d) env := by simpa [frz, w] using q
      obtain ⟨v', h', r⟩ := rep.dat i d w
      rw [h1] at h'; cases h'
      exact ⟨_, d, rep, Adv.refl, r, q'⟩
theorem Snd.frz {t : TE} {a : AE'} (s : Snd K t a) : Snd K t (aFrz a) := by
  intro Y H σ env R Q rep h k
  refine s Y H σ env _ Q rep h fun v H' env' r Y' rep' g ok q => ?_
  obtain ⟨env2, d, rep2, g2, rd, q2⟩ := frz_ok rep' g.yu ok q
  exact k v H' env2 (.dat d) Y rep2 (g.drop.trans g2) ⟨rfl, rd⟩ q2
theorem AE.frz {X : Cx} {e : Expr} {a : AE'} (h : AE X e a) : AE X e (aFrz a) := let ⟨t, p, s⟩ := h; ⟨t, p, s.frz⟩
end

/-! ### arguments -/
def aNil : AA' := fun env R => R [] env
/-- an argument that is data (freeze first), or a lent name -/
def aCons (a : AE') (t : AA') : AA' := fun env R => a env fun r env1 => (match r with | .new _ => False | _ => True) ∧ t env1 fun rs env2 => R (r :: rs) env2
def aConsD (a : AE') (t : AA') : AA' := aCons (aFrz a) t
section
variable {X : Cx} {e : Expr} {es : List Expr} {a : AE'} {t : AA'}
theorem aa_nil : AA X [] aNil := ⟨_, pa_nil, fun Y H σ env R Q rep h k => k [] H env [] rep Adv.refl .nil h⟩
theorem aa_cons (h1 : AE X e a) (h2 : AA X es t) (hs : starEach (e :: es) X.env = (false, eval e X.env) :: starEach es X.env := by rfl) : AA X (e :: es) (aCons a t) := by
  obtain ⟨u, p, s⟩ := h1
  obtain ⟨u2, p2, s2⟩ := h2
  refine ⟨_, pa_cons p p2 hs, fun Y H σ env R Q rep h k => ?_⟩
  refine s Y H σ env _ _ rep h fun v H' env' r Y' rep' g ok q => ?_
  obtain ⟨q1, q⟩ := q
  have ey : Y' = Y := by
    match r, ok, q1 with
    | .dat _, ok, _ => exact ok.1
    | .at _, ok, _ => exact ok.1
  subst ey
  refine s2 Y' H' σ env' _ _ rep' q fun vs H2 env2 rs rep2 g2 ok2 q2 => ?_
  exact k _ H2 env2 _ rep2 (g.trans g2) (.cons (ok.on g2) ok2) q2
theorem aa_consD (h1 : AE X e a) (h2 : AA X es t) (hs : starEach (e :: es) X.env = (false, eval e X.env) :: starEach es X.env := by rfl) : AA X (e :: es) (aConsD a t) := aa_cons h1.frz h2 hs
end

/-! ### operators by values -/
abbrev Op2 := D → D → (RV → Prop) → Prop
def OpS (K : Fg) (r : R2) (f : Op2) : Prop := ∀ (Y : Ad) (H : Hp) (σ : St) (env : AEnv) (x y : V) (d e : D) (F : RV → Prop) (Q : VK), Rep K Y H σ env → RC K H (Pw Y σ env) x d → RC K H (Pw Y σ env) y e → f d e F →
  (∀ v H' z Y', Rep K Y' H' σ env → Adv σ Y env H Y' env H' → ResOk K H' Y Y' σ env v z → F z → Q v H') → r x y H Q
def aOp (f : Op2) (a b : AE') : AE' := fun env R => a env fun r env1 => b env1 fun s env2 => match val env2 r, val env2 s with
  | some d, some e => f d e fun z => R z env2
  | _, _ => False
theorem snd_op {K : Fg} {r : R2} {f : Op2} {ta tb : TE} {a b : AE'} (o : OpS K r f) (ha : Snd K ta a) (hb : Snd K tb b) : Snd K (tOp r ta tb) (aOp f a b) := by
  intro Y H σ env R Q rep h k
  refine ha Y H σ env _ _ rep h fun v H1 env1 r1 Y1 rep1 g1 ok1 q1 => ?_
  refine hb Y1 H1 σ env1 _ _ rep1 q1 fun u H2 env2 r2 Y2 rep2 g2 ok2 q2 => ?_
  obtain ⟨d, e1, c1⟩ := ok1.later g2 rep2
  obtain ⟨e, e2, c2⟩ := ok2.rc rep2
  simp only [e1, e2] at q2
  have yu : ∀ a, Y a → Y2 a := fun a z => g2.yu a (g1.yu a z)
  refine o Y H2 σ env2 v u d e _ _ (rep2.less yu) (c1.less (pw_less yu)) (c2.less (pw_less yu)) q2 fun w H3 z Y3 rep3 g3 ok3 q3 => ?_
  exact k w H3 env2 z Y3 rep3 ((g1.trans g2).drop.trans g3) ok3 q3
theorem ae_op {X : Cx} {op : Operator} {r : R2} {f : Op2} {a b : Expr} {fa fb : AE'} {pos : Pos} (ho : OpR X (binaryOp op) r) (o : OpS X.K r f) (ha : AE X a fa) (hb : AE X b fb) : AE X (.BinOp a op b pos) (aOp f fa fb) := by
  obtain ⟨t, p, s⟩ := ha
  obtain ⟨t2, p2, s2⟩ := hb
  exact ⟨_, pe_op ho p p2, snd_op o s s2⟩
theorem ae_cmpR {X : Cx} {op : CmpOp} {r : R2} {f : Op2} {a b : Expr} {fa fb : AE'} {pos : Pos} (ho : OpR X (compareOp op) r) (o : OpS X.K r f) (ha : AE X a fa) (hb : AE X b fb) (hm : behindInMarks op b = false) : AE X (.Compare a [op] [b] pos) (aOp f fa fb) := by
  obtain ⟨t, p, s⟩ := ha
  obtain ⟨t2, p2, s2⟩ := hb
  exact ⟨_, pe_cmpR ho p p2 hm, snd_op o s s2⟩
end AL
namespace AL
open PySem L2
/-! AL3: operators. -/
section
variable {K : Fg} {σ : St} {Y Y' : Ad} {env : AEnv} {H H' : Hp}
theorem Rep.fresh (R : Rep K Y H σ env) {p : Addr} (n : H p = none) : ¬ Pw Y σ env p := fun z => by
  rcases z with z | ⟨i, d, e, w⟩
  · obtain ⟨o, q⟩ := R.yin p z
    rw [n] at q; cases q
  · obtain ⟨p', w', _, r⟩ := R.own i d e
    rw [w] at w'; cases w'
    obtain ⟨o, q, _⟩ := r.some
    rw [n] at q; cases q
theorem same_upd {p : Addr} {o : HO} (n : H p = none) : Same H (upd H p o) := upd_keep n
/-- what was data stays data in a heap that only grew -/
theorem RD.same {P : Ad} {v : V} {d : D} (h : RD K H P v d) (k : Same H H') : RD K H' P v d := h.go (P0 := fun _ => False) ⟨fun a o q _ => .inl (k a o q), fun a z => .inl z⟩ fun _ z => z.elim
theorem RDs.same {P : Ad} {v : List V} {d : List D} (h : RDs K H P v d) (k : Same H H') : RDs K H' P v d := h.go (P0 := fun _ => False) ⟨fun a o q _ => .inl (k a o q), fun a z => .inl z⟩ fun _ z => z.elim
abbrev Fin (K : Fg) (Y : Ad) (H : Hp) (σ : St) (env : AEnv) (F : RV → Prop) (Q : VK) : Prop := ∀ v H' z Y', Rep K Y' H' σ env → Adv σ Y env H Y' env H' → ResOk K H' Y Y' σ env v z → F z → Q v H'
variable {F : RV → Prop} {Q : VK}
theorem fin_dat {v : V} {d : D} (R : Rep K Y H σ env) (k : Fin K Y H σ env F Q) (r : RD K H (Pw Y σ env) v d) (f : F (.dat d)) : Q v H := k v H (.dat d) Y R Adv.refl ⟨rfl, r⟩ f
theorem Rep.same (R : Rep K Y H σ env) (k : Same H H') : Rep K Y H' σ env := R.grow (fun _ z => .inl z) k fun a z => let ⟨o, q, m⟩ := R.yim a z; ⟨o, k a o q, m⟩
theorem Adv.same (R : Rep K Y H σ env) (k : Same H H') : Adv σ Y env H Y env H' := Adv.grow R k (fun _ z => z) fun _ z => .inl z
theorem fin_tup {us : List V} {ds : List D} {p : Addr} (R : Rep K Y H σ env) (k : Fin K Y H σ env F Q) (r : RDs K H (Pw Y σ env) us ds) (hl : ds.length ≤ sizeLine) (f : F (.dat (.tup ds))) (n : H p = none) : Q (.ref p) (upd H p (.tup us)) :=
  k _ _ (.dat (.tup ds)) Y (R.same (same_upd n)) (Adv.same R (same_upd n)) ⟨rfl, .tup (.inl ⟨.inl upd_same, R.fresh n, by rw [r.length]; exact hl⟩) (r.same (same_upd n))⟩ f
theorem fin_hup {us : List V} {ds : List D} {p : Addr} (R : Rep K Y H σ env) (k : Fin K Y H σ env F Q) (r : RDs K H (Pw Y σ env) us ds) (hl : ds.length ≤ sizeLine) (f : F (.dat (.dit ds (.non :: ds)))) (n : H p = none) : Q (.ref p) (upd H p (.tup us)) :=
  k _ _ (.dat (.dit ds (.non :: ds))) Y (R.same (same_upd n)) (Adv.same R (same_upd n)) ⟨rfl, .hup upd_same (R.fresh n) (by rw [r.length]; exact hl) (r.same (same_upd n))⟩ f
/-- a new owned thing -/
theorem fin_new {o : HO} {d : D} {p : Addr} (R : Rep K Y H σ env) (k : Fin K Y H σ env F Q) (n : H p = none) (r : RO K (upd H p o) (fun a => Pw Y σ env a ∨ a = p) p d) (f : F (.new d)) : Q (.ref p) (upd H p o) := by
  have nf := R.fresh n
  have pe : ∀ a, Pw (fun a => Y a ∨ a = p) σ env a → Pw Y σ env a ∨ a = p := fun a z => by
    rcases z with (z | z) | z
    · exact .inl (.inl z)
    · exact .inr z
    · exact .inl (.inr z)
  refine k _ _ (.new d) (fun a => Y a ∨ a = p) (R.grow (fun a z => z.imp id fun e => by rw [e]; exact n) (same_upd n) fun a z => ?_) (Adv.grow R (same_upd n) (fun _ z => .inl z) fun a z => z.imp id fun e => by rw [e]; exact n) ⟨p, rfl, rfl, nf, r.less pe⟩ f
  rcases z with z | z
  · obtain ⟨u, q, m⟩ := R.yim a z
    exact ⟨u, same_upd n a u q, m⟩
  · subst z
    obtain ⟨o', h', m⟩ := r.some
    exact ⟨o', h', m⟩
theorem rds_new {us : List V} {ds : List D} {p : Addr} {o : HO} {P : Ad} (r : RDs K H P us ds) (n : H p = none) : RDs K (upd H p o) (fun a => P a ∨ a = p) us ds :=
  r.go (P0 := fun _ => False) ⟨fun a u q _ => .inl (same_upd n a u q), fun a z => z.imp id fun e => by rw [e]; exact n⟩ fun _ z => z.elim
theorem fin_lst {us : List V} {ds : List D} {p : Addr} (R : Rep K Y H σ env) (k : Fin K Y H σ env F Q) (r : RDs K H (Pw Y σ env) us ds) (hl : ds.length ≤ sizeLine) (f : F (.new (.lst ds))) (n : H p = none) : Q (.ref p) (upd H p (.lst us)) :=
  fin_new (d := .lst ds) R k n ⟨us, upd_same, rds_new r n, by rw [r.length]; exact hl⟩ f
/-! what a read thing is -/
theorem RC.int {P : Ad} {v : V} {i : Int} (h : RC K H P v (.int i)) : v = .int i := by
  rcases h with h | ⟨p, _, h⟩
  · cases h; rfl
  · exact h.elim
theorem RC.bl {P : Ad} {v : V} {i : Bool} (h : RC K H P v (.bl i)) : v = .bl i := by
  rcases h with h | ⟨p, _, h⟩
  · cases h; rfl
  · exact h.elim
theorem RC.str {P : Ad} {v : V} {i : Str} (h : RC K H P v (.str i)) : v = .str i := by
  rcases h with h | ⟨p, _, h⟩
  · cases h; rfl
  · exact h.elim
theorem RC.non {P : Ad} {v : V} (h : RC K H P v .non) : v = .non := by
  rcases h with h | ⟨p, _, h⟩
  · cases h; rfl
  · exact h.elim
theorem RC.lst {P : Ad} {v : V} {ds : List D} (h : RC K H P v (.lst ds)) : ∃ p us, v = .ref p ∧ H p = some (.lst us) ∧ RDs K H P us ds ∧ ds.length ≤ sizeLine := by
  rcases h with h | ⟨p, e, h⟩
  · cases h with
    | lst s r => exact ⟨_, _, rfl, s.1, r, by rw [← r.length]; exact s.2.2⟩
  · obtain ⟨us, q, r, l⟩ := h
    exact ⟨p, us, e, q, r, by rw [← r.length]; exact l⟩
theorem RC.tup {P : Ad} {v : V} {ds : List D} (h : RC K H P v (.tup ds)) : ∃ p us, v = .ref p ∧ SqT K H p us ∧ RDs K H P us ds ∧ RD K H P v (.tup ds) ∧ ds.length ≤ sizeLine := by
  rcases h with h | ⟨p, e, h⟩
  · have h' := h
    cases h with
    | tup s r => exact ⟨_, _, rfl, s.sq, r, h', by rw [← r.length]; exact s.len⟩
  · exact h.elim
theorem RC.scr {P : Ad} {v : V} {ds : List D} (h : RC K H P v (.scr ds)) : ∃ p us, v = .ref p ∧ SqL K H p us ∧ RDs K H P us ds ∧ ds.length ≤ sizeLine := by
  rcases h with h | ⟨p, e, h⟩
  · cases h with
    | scr s r => exact ⟨_, _, rfl, s.sq, r, by rw [← r.length]; exact s.1⟩
  · exact h.elim
theorem RC.nonOf {P : Ad} {d : D} (h : RC K H P .non d) : d = .non := by
  rcases h with h | ⟨p, e, h⟩
  · cases h; rfl
  · cases e
def isNonD : D → Bool
  | .non => true
  | _ => false
theorem RC.isNon {P : Ad} {v : V} {d : D} (h : RC K H P v d) : decide (v = .non) = isNonD d := by
  rcases h with h | ⟨p, e, h⟩
  · cases h <;> simp [isNonD]
  · subst e
    cases d <;> first | exact h.elim | simp [isNonD]
end

def fAdd : Op2 := fun d e F => match d, e with
  | .int i, .int j => F (.dat (.int (i + j)))
  | .str x, .str y => x.length + y.length ≤ sizeLine ∧ F (.dat (.str (x ++ y)))
  | .tup a, .tup b => a.length + b.length ≤ sizeLine ∧ F (.dat (.tup (a ++ b)))
  | .lst a, .lst b => a.length + b.length ≤ sizeLine ∧ F (.new (.lst (a ++ b)))
  | _, _ => False
def rStrAdd : R2 := fun x y H Q => ∃ i j, x = .str i ∧ y = .str j ∧ i.length + j.length ≤ sizeLine ∧ Q (.str (i ++ j)) H
abbrev rAdd4 (K : Fg) : R2 := fun x y H Q => rI0 (fun i j => .int (i + j)) x y H Q ∨ (rStrAdd x y H Q ∨ (rCatA K x y H Q ∨ rCat x y H Q))
theorem or_add {X : Cx} : OpR X (binaryOp .Add) (rAdd4 X.K) := OpR.or op_add (OpR.or op_add_str (OpR.or op_catA op_cat))
theorem os_add (K : Fg) : OpS K (rAdd4 K) fAdd := by
  intro Y H σ env x y d e F Q R cx cy f k
  match d, e, f with
  | .int i, .int j, f => exact .inl ⟨i, j, cx.int, cy.int, fin_dat R k (.int _) f⟩
  | .str i, .str j, f => exact .inr (.inl ⟨i, j, cx.str, cy.str, f.1, fin_dat R k (.str _) f.2⟩)
  | .tup a, .tup b, f =>
    obtain ⟨p, us, e1, s1, r1, d1, _⟩ := cx.tup
    obtain ⟨q, vs, e2, s2, r2, d2, _⟩ := cy.tup
    refine .inr (.inr (.inl ⟨p, q, us, vs, e1, e2, s1, s2, by rw [r1.length, r2.length]; exact f.1, fun z => ?_, fun _ z => ?_, fun _ _ l n => fin_tup R k (r1.append r2) (by rw [List.length_append]; exact f.1) f.2 n⟩))
    · subst z
      cases r1
      subst e2
      exact fin_dat R k d2 f.2
    · subst z
      cases r2
      subst e1
      have := f.2
      rw [List.append_nil] at this
      exact fin_dat R k d1 this
  | .lst a, .lst b, f =>
    obtain ⟨p, us, e1, s1, r1, _⟩ := cx.lst
    obtain ⟨q, vs, e2, s2, r2, _⟩ := cy.lst
    exact .inr (.inr (.inr ⟨p, q, us, vs, e1, e2, s1, s2, by rw [r1.length, r2.length]; exact f.1, fun l n => fin_lst R k (r1.append r2) (by rw [List.length_append]; exact f.1) f.2 n⟩))
/-- two ints, under C -/
def fII (C : Int → Int → Prop) (g : Int → Int → D) : Op2 := fun d e F => match d, e with
  | .int i, .int j => C i j ∧ F (.dat (g i j))
  | _, _ => False
theorem os_ii {K : Fg} {C : Int → Int → Prop} {g : Int → Int → Int} : OpS K (rI C fun i j => .int (g i j)) (fII C fun i j => .int (g i j)) := by
  intro Y H σ env x y d e F Q R cx cy f k
  match d, e, f with
  | .int i, .int j, f => exact ⟨i, j, cx.int, cy.int, f.1, fin_dat R k (.int _) f.2⟩
def fI0 (g : Int → Int → D) : Op2 := fun d e F => match d, e with
  | .int i, .int j => F (.dat (g i j))
  | _, _ => False
theorem os_i0 {K : Fg} {g : Int → Int → Int} : OpS K (rI0 fun i j => .int (g i j)) (fI0 fun i j => .int (g i j)) := by
  intro Y H σ env x y d e F Q R cx cy f k
  match d, e, f with
  | .int i, .int j, f => exact ⟨i, j, cx.int, cy.int, fin_dat R k (.int _) f⟩
theorem os_b0 {K : Fg} {g : Int → Int → Bool} : OpS K (rI0 fun i j => .bl (g i j)) (fI0 fun i j => .bl (g i j)) := by
  intro Y H σ env x y d e F Q R cx cy f k
  match d, e, f with
  | .int i, .int j, f => exact ⟨i, j, cx.int, cy.int, fin_dat R k (.bl _) f⟩

/-! ### data as PyData, equality -/
mutual
def D.pd : D → PyData
  | .non => .none
  | .bl b => .bool b
  | .int i => .int i
  | .str x => .str x
  | .tup l => .tuple (pds l)
  | .lst l => .list (pds l)
  | .dic _ _ => .dict []
  | .dit _ _ => .dict []
  | .obj _ _ _ => .dict []
  | .scr _ => .dict []
def pds : List D → List PyData
  | [] => []
  | d :: ds => d.pd :: pds ds
end
mutual
theorem RD.dp {K : Fg} {H : Hp} {P : Ad} : ∀ {v : V} {d : D}, RD K H P v d → PyData.canLay0 d.pd = true → Dp K H v d.pd
  | _, _, .non, _ => by simp only [D.pd]; exact .non
  | _, _, .bl b, _ => by simp only [D.pd]; exact .bl b
  | _, _, .int i, _ => by simp only [D.pd]; exact .int i
  | _, _, .str x, _ => by simp only [D.pd]; exact .str x
  | _, _, .tup s r, c => by
    simp only [D.pd] at c ⊢
    exact .tup s.sq (r.dp (by simpa only [PyData.canLay0] using c))
  | _, _, .lst s r, c => by
    simp only [D.pd] at c ⊢
    exact .lst s.sq (r.dp (by simpa only [PyData.canLay0] using c))
  | _, _, .dK _ _ _ _, c => by simp [D.pd, PyData.canLay0] at c
  | _, _, .dT _ _ _ _, c => by simp [D.pd, PyData.canLay0] at c
  | _, _, .obj _ _ _ _, c => by simp [D.pd, PyData.canLay0] at c
  | _, _, .scr _ _, c => by simp [D.pd, PyData.canLay0] at c
theorem RDs.dp {K : Fg} {H : Hp} {P : Ad} : ∀ {v : List V} {d : List D}, RDs K H P v d → PyData.canLayAll0 (pds d) = true → DpAll K H v (pds d)
  | _, _, .nil, _ => by simp only [pds]; exact .nil
  | _, _, .cons h r, c => by
    simp only [pds, PyData.canLayAll0, Bool.and_eq_true] at c ⊢
    exact .cons (h.dp c.1) (r.dp c.2)
end
/-- data that == looks at: depth, texts -/
def D.sh (d : D) : Prop := SeqAt.shaped d.pd = true
theorem RC.dp {K : Fg} {H : Hp} {P : Ad} {v : V} {d : D} (h : RC K H P v d) (s : d.sh) : Dp K H v d.pd := h.rd.dp (SeqAt.canLay_of_shaped s)
@[irreducible] def fEq : Op2 := fun d e F => d.sh ∧ e.sh ∧ F (.dat (.bl (PyData.eqv d.pd e.pd)))
@[irreducible] def fNe : Op2 := fun d e F => d.sh ∧ e.sh ∧ F (.dat (.bl (!PyData.eqv d.pd e.pd)))
theorem os_eq (K : Fg) : OpS K (rEqD K) fEq := fun Y H σ env x y d e F Q R cx cy f k => by
  unfold fEq at f
  exact ⟨d.pd, e.pd, cx.dp f.1, cy.dp f.2.1, f.1, f.2.1, fin_dat R k (.bl _) f.2.2⟩
theorem os_ne (K : Fg) : OpS K (rNeD K) fNe := fun Y H σ env x y d e F Q R cx cy f k => by
  unfold fNe at f
  exact ⟨d.pd, e.pd, cx.dp f.1, cy.dp f.2.1, f.1, f.2.1, fin_dat R k (.bl _) f.2.2⟩
def fIsN : Op2 := fun d e F => match e with
  | .non => F (.dat (.bl (isNonD d)))
  | _ => False
def fNotN : Op2 := fun d e F => match e with
  | .non => F (.dat (.bl (!isNonD d)))
  | _ => False
theorem os_isN (K : Fg) : OpS K (fun x y H Q => y = .non ∧ Q (.bl (decide (x = .non))) H) fIsN := by
  intro Y H σ env x y d e F Q R cx cy f k
  match e, f with
  | .non, f => exact ⟨cy.non, by rw [cx.isNon]; exact fin_dat R k (.bl _) f⟩
theorem os_notN (K : Fg) : OpS K (fun x y H Q => y = .non ∧ Q (.bl (!decide (x = .non))) H) fNotN := by
  intro Y H σ env x y d e F Q R cx cy f k
  match e, f with
  | .non, f => exact ⟨cy.non, by rw [cx.isNon]; exact fin_dat R k (.bl _) f⟩
end AL
namespace AL
open PySem L2 PyProof.Rows
/-! AL4: equality of data, membership, subscripts, slices, dicts that are read. -/
mutual
def decD : (a b : D) → Decidable (a = b)
  | .non, .non => .isTrue rfl
  | .non, .bl _ => .isFalse (fun h => by cases h)
  | .non, .int _ => .isFalse (fun h => by cases h)
  | .non, .str _ => .isFalse (fun h => by cases h)
  | .non, .tup _ => .isFalse (fun h => by cases h)
  | .non, .lst _ => .isFalse (fun h => by cases h)
  | .non, .dic _ _ => .isFalse (fun h => by cases h)
  | .non, .dit _ _ => .isFalse (fun h => by cases h)
  | .non, .obj _ _ _ => .isFalse (fun h => by cases h)
  | .non, .scr _ => .isFalse (fun h => by cases h)
  | .bl _, .non => .isFalse (fun h => by cases h)
  | .bl a, .bl b => if h : a = b then .isTrue (h ▸ rfl) else .isFalse (fun e => by cases e; exact h rfl)
  | .bl _, .int _ => .isFalse (fun h => by cases h)
  | .bl _, .str _ => .isFalse (fun h => by cases h)
  | .bl _, .tup _ => .isFalse (fun h => by cases h)
  | .bl _, .lst _ => .isFalse (fun h => by cases h)
  | .bl _, .dic _ _ => .isFalse (fun h => by cases h)
  | .bl _, .dit _ _ => .isFalse (fun h => by cases h)
  | .bl _, .obj _ _ _ => .isFalse (fun h => by cases h)
  | .bl _, .scr _ => .isFalse (fun h => by cases h)
  | .int _, .non => .isFalse (fun h => by cases h)
  | .int _, .bl _ => .isFalse (fun h => by cases h)
  | .int a, .int b => if h : a = b then .isTrue (h ▸ rfl) else .isFalse (fun e => by cases e; exact h rfl)
  | .int _, .str _ => .isFalse (fun h => by cases h)
  | .int _, .tup _ => .isFalse (fun h => by cases h)
  | .int _, .lst _ => .isFalse (fun h => by cases h)
  | .int _, .dic _ _ => .isFalse (fun h => by cases h)
  | .int _, .dit _ _ => .isFalse (fun h => by cases h)
  | .int _, .obj _ _ _ => .isFalse (fun h => by cases h)
  | .int _, .scr _ => .isFalse (fun h => by cases h)
  | .str _, .non => .isFalse (fun h => by cases h)
  | .str _, .bl _ => .isFalse (fun h => by cases h)
  | .str _, .int _ => .isFalse (fun h => by cases h)
  | .str a, .str b => if h : a = b then .isTrue (h ▸ rfl) else .isFalse (fun e => by cases e; exact h rfl)
  | .str _, .tup _ => .isFalse (fun h => by cases h)
  | .str _, .lst _ => .isFalse (fun h => by cases h)
  | .str _, .dic _ _ => .isFalse (fun h => by cases h)
  | .str _, .dit _ _ => .isFalse (fun h => by cases h)
  | .str _, .obj _ _ _ => .isFalse (fun h => by cases h)
  | .str _, .scr _ => .isFalse (fun h => by cases h)
  | .tup _, .non => .isFalse (fun h => by cases h)
  | .tup _, .bl _ => .isFalse (fun h => by cases h)
  | .tup _, .int _ => .isFalse (fun h => by cases h)
  | .tup _, .str _ => .isFalse (fun h => by cases h)
  | .tup a, .tup b => match decDs a b with
    | .isTrue h => .isTrue (h ▸ rfl)
    | .isFalse h => .isFalse (fun e => by cases e; exact h rfl)
  | .tup _, .lst _ => .isFalse (fun h => by cases h)
  | .tup _, .dic _ _ => .isFalse (fun h => by cases h)
  | .tup _, .dit _ _ => .isFalse (fun h => by cases h)
  | .tup _, .obj _ _ _ => .isFalse (fun h => by cases h)
  | .tup _, .scr _ => .isFalse (fun h => by cases h)
  | .lst _, .non => .isFalse (fun h => by cases h)
  | .lst _, .bl _ => .isFalse (fun h => by cases h)
  | .lst _, .int _ => .isFalse (fun h => by cases h)
  | .lst _, .str _ => .isFalse (fun h => by cases h)
  | .lst _, .tup _ => .isFalse (fun h => by cases h)
  | .lst a, .lst b => match decDs a b with
    | .isTrue h => .isTrue (h ▸ rfl)
    | .isFalse h => .isFalse (fun e => by cases e; exact h rfl)
  | .lst _, .dic _ _ => .isFalse (fun h => by cases h)
  | .lst _, .dit _ _ => .isFalse (fun h => by cases h)
  | .lst _, .obj _ _ _ => .isFalse (fun h => by cases h)
  | .lst _, .scr _ => .isFalse (fun h => by cases h)
  | .dic _ _, .non => .isFalse (fun h => by cases h)
  | .dic _ _, .bl _ => .isFalse (fun h => by cases h)
  | .dic _ _, .int _ => .isFalse (fun h => by cases h)
  | .dic _ _, .str _ => .isFalse (fun h => by cases h)
  | .dic _ _, .tup _ => .isFalse (fun h => by cases h)
  | .dic _ _, .lst _ => .isFalse (fun h => by cases h)
  | .dic a c, .dic b d => match decDs a b, decDs c d with
    | .isTrue h, .isTrue k => .isTrue (h ▸ k ▸ rfl)
    | .isFalse h, _ => .isFalse (fun e => by cases e; exact h rfl)
    | _, .isFalse h => .isFalse (fun e => by cases e; exact h rfl)
  | .dic _ _, .dit _ _ => .isFalse (fun h => by cases h)
  | .dic _ _, .obj _ _ _ => .isFalse (fun h => by cases h)
  | .dic _ _, .scr _ => .isFalse (fun h => by cases h)
  | .dit _ _, .non => .isFalse (fun h => by cases h)
  | .dit _ _, .bl _ => .isFalse (fun h => by cases h)
  | .dit _ _, .int _ => .isFalse (fun h => by cases h)
  | .dit _ _, .str _ => .isFalse (fun h => by cases h)
  | .dit _ _, .tup _ => .isFalse (fun h => by cases h)
  | .dit _ _, .lst _ => .isFalse (fun h => by cases h)
  | .dit _ _, .dic _ _ => .isFalse (fun h => by cases h)
  | .dit a c, .dit b d => match decDs a b, decDs c d with
    | .isTrue h, .isTrue k => .isTrue (h ▸ k ▸ rfl)
    | .isFalse h, _ => .isFalse (fun e => by cases e; exact h rfl)
    | _, .isFalse h => .isFalse (fun e => by cases e; exact h rfl)
  | .dit _ _, .obj _ _ _ => .isFalse (fun h => by cases h)
  | .dit _ _, .scr _ => .isFalse (fun h => by cases h)
  | .obj _ _ _, .non => .isFalse (fun h => by cases h)
  | .obj _ _ _, .bl _ => .isFalse (fun h => by cases h)
  | .obj _ _ _, .int _ => .isFalse (fun h => by cases h)
  | .obj _ _ _, .str _ => .isFalse (fun h => by cases h)
  | .obj _ _ _, .tup _ => .isFalse (fun h => by cases h)
  | .obj _ _ _, .lst _ => .isFalse (fun h => by cases h)
  | .obj _ _ _, .dic _ _ => .isFalse (fun h => by cases h)
  | .obj _ _ _, .dit _ _ => .isFalse (fun h => by cases h)
  | .obj A a c, .obj B b d => if hA : A = B then if ha : a = b then match decDs c d with
    | .isTrue h => .isTrue (hA ▸ ha ▸ h ▸ rfl)
    | .isFalse h => .isFalse (fun e => by cases e; exact h rfl)
    else .isFalse (fun e => by cases e; exact ha rfl) else .isFalse (fun e => by cases e; exact hA rfl)
  | .obj _ _ _, .scr _ => .isFalse (fun h => by cases h)
  | .scr _, .non => .isFalse (fun h => by cases h)
  | .scr _, .bl _ => .isFalse (fun h => by cases h)
  | .scr _, .int _ => .isFalse (fun h => by cases h)
  | .scr _, .str _ => .isFalse (fun h => by cases h)
  | .scr _, .tup _ => .isFalse (fun h => by cases h)
  | .scr _, .lst _ => .isFalse (fun h => by cases h)
  | .scr _, .dic _ _ => .isFalse (fun h => by cases h)
  | .scr _, .dit _ _ => .isFalse (fun h => by cases h)
  | .scr _, .obj _ _ _ => .isFalse (fun h => by cases h)
  | .scr a, .scr b => match decDs a b with
    | .isTrue h => .isTrue (h ▸ rfl)
    | .isFalse h => .isFalse (fun e => by cases e; exact h rfl)
def decDs : (a b : List D) → Decidable (a = b)
  | [], [] => .isTrue rfl
  | [], _ :: _ => .isFalse (fun h => by cases h)
  | _ :: _, [] => .isFalse (fun h => by cases h)
  | a :: as, b :: bs => match decD a b, decDs as bs with
    | .isTrue h, .isTrue k => .isTrue (h ▸ k ▸ rfl)
    | .isFalse h, _ => .isFalse (fun e => by cases e; exact h rfl)
    | _, .isFalse h => .isFalse (fun e => by cases e; exact h rfl)
end
instance : DecidableEq D := decD

/-! ### dicts as data -/
def dGet : List D → List D → D → Option D
  | k' :: ks, v :: vs, k => if k' = k then some v else dGet ks vs k
  | _, _, _ => none
def dPutV : List D → List D → D → D → List D
  | k' :: ks, v' :: vs, k, v => (if k' = k then v else v') :: dPutV ks vs k v
  | _, vs, _, _ => vs
/-- the keys and values behind d[k] = v -/
def dPutK (ks : List D) (k : D) : List D := if k ∈ ks then ks else ks ++ [k]
def dPutW (ks vs : List D) (k v : D) : List D := if k ∈ ks then dPutV ks vs k v else vs ++ [v]
def dDropV : List D → List D → D → List D
  | k' :: ks, v' :: vs, k => if k' = k then dDropV ks vs k else v' :: dDropV ks vs k
  | _, _, _ => []
theorem kD_inj : ∀ {a b : Key}, kD a = kD b → a = b
  | .inl _, .inl _, h => by injection h with h; rw [h]
  | .inr _, .inr _, h => by injection h with h; rw [h]
  | .inl _, .inr _, h => by cases h
  | .inr _, .inl _, h => by cases h
theorem map_kD_inj : ∀ {a b : List Key}, a.map kD = b.map kD → a = b
  | [], [], _ => rfl
  | [], _ :: _, h => by cases h
  | _ :: _, [], h => by cases h
  | x :: a, y :: b, h => by
    rw [List.map_cons, List.map_cons] at h
    injection h with h1 h2
    rw [kD_inj h1, map_kD_inj h2]
section
variable {K : Fg} {H : Hp} {P : Ad} {κ : Type} [DecidableEq κ]
/-- look-up, by any keys that are data by an injection -/
theorem get_val {g : κ → D} (hg : ∀ {a b}, g a = g b → a = b) (k : κ) : ∀ {kvs : List (κ × V)} {vs : List D}, RDs K H P (kvs.map (·.2)) vs →
    (∃ d v, dGet (kvs.map fun kv => g kv.1) vs (g k) = some d ∧ valV kvs k = some v ∧ RD K H P v d) ∨ (dGet (kvs.map fun kv => g kv.1) vs (g k) = none ∧ valV kvs k = none)
  | [], _, .nil => .inr ⟨rfl, rfl⟩
  | (k', v') :: r, _, h => by
    cases h with
    | cons h1 h2 =>
      rename_i d ds
      by_cases e : k' = k
      · subst e
        exact .inl ⟨d, v', by simp [dGet], valV_pos rfl, h1⟩
      · have e' : ¬ g k' = g k := fun z => e (hg z)
        have ih := get_val hg k h2
        simp only [List.map_cons, dGet, if_neg e', valV_neg (p := (k', v')) (r := r) e]
        exact ih
theorem mem_key {g : κ → D} (hg : ∀ {a b}, g a = g b → a = b) (k : κ) (kvs : List (κ × V)) : g k ∈ (kvs.map fun kv => g kv.1) ↔ (kvs.any fun kv => decide (kv.1 = k)) = true := by
  rw [List.any_eq_true, List.mem_map]
  constructor
  · rintro ⟨p, hp, e⟩
    exact ⟨p, hp, by simp [hg e]⟩
  · rintro ⟨p, hp, e⟩
    exact ⟨p, hp, by rw [of_decide_eq_true e]⟩
theorem put_map {g : κ → D} (hg : ∀ {a b}, g a = g b → a = b) {k : κ} {v : V} {d : D} (hv : RD K H P v d) : ∀ {kvs : List (κ × V)} {vs : List D}, RDs K H P (kvs.map (·.2)) vs →
    RDs K H P ((kvs.map (fun kv => if kv.1 = k then (kv.1, v) else kv)).map (·.2)) (dPutV (kvs.map fun kv => g kv.1) vs (g k) d)
  | [], _, .nil => .nil
  | (k', v') :: r, _, h => by
    cases h with
    | cons h1 h2 =>
      have ih := put_map hg (k := k) hv h2
      by_cases e : k' = k
      · subst e
        simp only [List.map_cons, dPutV, if_true]
        exact .cons hv ih
      · have e' : ¬ g k' = g k := fun z => e (hg z)
        simp only [List.map_cons, dPutV, if_neg e, if_neg e']
        exact .cons h1 ih
theorem put_keys {g : κ → D} (k : κ) (v : V) (kvs : List (κ × V)) : (kvs.map (fun kv => if kv.1 = k then (kv.1, v) else kv)).map (fun kv => g kv.1) = kvs.map fun kv => g kv.1 := by
  rw [List.map_map]
  apply List.map_congr_left
  intro p _
  show g (if p.1 = k then (p.1, v) else p).1 = g p.1
  split <;> rfl
end
/-- a dict that is read -/
theorem RC.dic {K : Fg} {H : Hp} {P : Ad} {v : V} {ks vs : List D} (h : RC K H P v (.dic ks vs)) : ∃ p, v = .ref p ∧ ∃ kvs, Rd H p (.dK kvs) ∧ ks = (kvs.map fun kv => kD kv.1) ∧ RDs K H P (kvs.map (·.2)) vs := by
  rcases h with h | ⟨p, e, h⟩
  · cases h with
    | dK s n e r => exact ⟨_, rfl, _, s, e, r⟩
  · obtain ⟨kvs, q, r⟩ := h
    exact ⟨p, e, kvs, .inl q, r⟩
theorem RC.dit {K : Fg} {H : Hp} {P : Ad} {v : V} {ks vs : List D} (h : RC K H P v (.dit ks vs)) (hl : vs.length = ks.length) : ∃ p, v = .ref p ∧ ∃ kvs, Rd H p (.dT kvs) ∧ ks = (kvs.map fun kv => D.tup (kv.1.map kD)) ∧ RDs K H P (kvs.map (·.2)) vs := by
  rcases h with h | ⟨p, e, h⟩
  · cases h with
    | dT s n e r => exact ⟨_, rfl, _, s, e, r⟩
    | hup s n l r =>
      rw [List.length_cons] at hl
      omega
  · obtain ⟨kvs, q, r⟩ := h
    exact ⟨p, e, kvs, .inl q, r⟩
/-- a key as data: an int, a text; a tuple of such -/
def isKey : D → Bool
  | .int _ => true
  | .str _ => true
  | _ => false
def isKeyT : D → Bool
  | .tup l => l.all isKey
  | _ => false
theorem isKey_of : ∀ {d : D}, isKey d = true → ∃ k : Key, d = kD k
  | .int i, _ => ⟨.inl i, rfl⟩
  | .str x, _ => ⟨.inr x, rfl⟩
  | .non, h => by cases h
  | .bl _, h => by cases h
  | .tup _, h => by cases h
  | .lst _, h => by cases h
  | .dic _ _, h => by cases h
  | .dit _ _, h => by cases h
  | .obj _ _ _, h => by cases h
  | .scr _, h => by cases h
theorem keys_of : ∀ {l : List D}, l.all isKey = true → ∃ ks : List Key, l = ks.map kD
  | [], _ => ⟨[], rfl⟩
  | d :: l, h => by
    rw [List.all_cons, Bool.and_eq_true] at h
    obtain ⟨k, rfl⟩ := isKey_of h.1
    obtain ⟨ks, rfl⟩ := keys_of h.2
    exact ⟨k :: ks, rfl⟩
section
variable {K : Fg} {H : Hp} {P : Ad}
theorem RC.key {v : V} {k : Key} (h : RC K H P v (kD k)) : v = kV k := by
  cases k with
  | inl i => exact RC.int h
  | inr x => exact RC.str h
theorem RDs.keys : ∀ {us : List V} {ks : List Key}, RDs K H P us (ks.map kD) → us = ks.map kV
  | _, [], .nil => rfl
  | _, k :: ks, .cons r t => by
    rw [RDs.keys t, RC.key (.inl r)]
    rfl
theorem RC.tupKey {v : V} {ks : List Key} (h : RC K H P v (.tup (ks.map kD))) : ∃ b, v = .ref b ∧ SqT K H b (ks.map kV) := by
  obtain ⟨p, us, e, s, r, _, _⟩ := h.tup
  rw [r.keys] at s
  exact ⟨p, e, s⟩
end
end AL
namespace AL
open PySem L2
/-! AL5: membership, subscripts, slices, tests, bool operators, conditional expressions. -/
def rInT (K : Fg) (neg : Bool) : R2 := fun x y H Q => ∃ d ds, Dp K H x d ∧ Dp K H y (.tuple ds) ∧ SeqAt.shaped d = true ∧ SeqAt.shaped (.tuple ds) = true ∧ Q (.bl (if neg then !ds.any fun z => PyData.eqv z d else ds.any fun z => PyData.eqv z d)) H
def rInDc (neg : Bool) : R2 := fun x y H Q => ∃ a ov, y = .ref a ∧ DGet H a x ov ∧ Q (.bl (if neg then !ov.isSome else ov.isSome)) H
section
variable {X : Cx}
theorem op_inT (hu : X.A.units + 65 < cLine) : OpR X (compareOp .In) (rInT X.K false) := by
  intro pins s σ H x y v u Q I rx ry h
  obtain ⟨d, ds, hd, he, sd, se, q⟩ := h
  obtain ⟨as, r1⟩ := Dp.reads I d x v hd rx
  obtain ⟨bs, r2⟩ := Dp.reads I (.tuple ds) y u he ry
  exact SeqAt.in_tuple_reads r2 r1 (SeqAt.canLay_of_shaped se) (SeqAt.canLay_of_shaped sd) (PyProof.Rows.room_in_shaped sd hu) ⟨.bl _, H, I, rfl, q⟩
theorem op_notInT (hu : X.A.units + 65 < cLine) : OpR X (compareOp .NotIn) (rInT X.K true) := by
  intro pins s σ H x y v u Q I rx ry h
  obtain ⟨d, ds, hd, he, sd, se, q⟩ := h
  obtain ⟨as, r1⟩ := Dp.reads I d x v hd rx
  obtain ⟨bs, r2⟩ := Dp.reads I (.tuple ds) y u he ry
  exact SeqAt.notIn_tuple_reads r2 r1 (SeqAt.canLay_of_shaped se) (SeqAt.canLay_of_shaped sd) (PyProof.Rows.room_in_shaped sd hu) ⟨.bl _, H, I, rfl, q⟩
theorem op_inDc (hu : X.A.units + 1 < cLine) : OpR X (compareOp .In) (rInDc false) := by
  intro pins s σ H x y v u Q I rx ry h
  obtain ⟨a, ov, rfl, g, q⟩ := h
  obtain rfl : u = Value.ref a := ry
  exact d_in hu I g rx fun s3 I3 => ⟨.bl ov.isSome, H, I3, rfl, q⟩
theorem op_notInDc (hu : X.A.units + 1 < cLine) : OpR X (compareOp .NotIn) (rInDc true) := by
  intro pins s σ H x y v u Q I rx ry h
  obtain ⟨a, ov, rfl, g, q⟩ := h
  obtain rfl : u = Value.ref a := ry
  exact d_notIn hu I g rx fun s3 I3 => ⟨.bl (!ov.isSome), H, I3, rfl, q⟩
theorem ix_dict (hu : X.A.units + 1 < cLine) : IxR X (fun x y H Q => ∃ a v, x = .ref a ∧ DGet H a y (some v) ∧ Q v H) := by
  intro value slice pins s σ H x y v u Q I rx ry h hs
  obtain ⟨a, r, rfl, g, q⟩ := h
  obtain rfl : v = Value.ref a := rx
  exact PyProof.Rows.tail_any (dict_typeIs I g) PySem.F.slot_dict_getitem.lookup (d_getItem hu I g ry fun w' s3 I3 rw' => ⟨r, H, I3, rw', q⟩) hs
end
abbrev rIn4 (K : Fg) : R2 := fun x y H Q => rInD K x y H Q ∨ (rInT K false x y H Q ∨ (rInDc false x y H Q ∨ rInS x y H Q))
abbrev rNotIn4 (K : Fg) : R2 := fun x y H Q => rNotInD K x y H Q ∨ (rInT K true x y H Q ∨ (rInDc true x y H Q ∨ rNotInS x y H Q))
theorem or_in {X : Cx} {k : Nat} (hr : Room k X.A) : OpR X (compareOp .In) (rIn4 X.K) := OpR.or (op_inD (by have := hr.un; omega)) (OpR.or (op_inT (by have := hr.un; omega)) (OpR.or (op_inDc (by have := hr.un; omega)) op_inS))
theorem or_notIn {X : Cx} {k : Nat} (hr : Room k X.A) : OpR X (compareOp .NotIn) (rNotIn4 X.K) := OpR.or (op_notInD (by have := hr.un; omega)) (OpR.or (op_notInT (by have := hr.un; omega)) (OpR.or (op_notInDc (by have := hr.un; omega)) op_notInS))
/-- membership, and its not -/
@[irreducible] def fIn (neg : Bool) : Op2 := fun d e F => match e with
  | .lst l => d.sh ∧ (D.lst l).sh ∧ F (.dat (.bl (if neg then !(pds l).any fun z => PyData.eqv z d.pd else (pds l).any fun z => PyData.eqv z d.pd)))
  | .tup l => d.sh ∧ (D.tup l).sh ∧ F (.dat (.bl (if neg then !(pds l).any fun z => PyData.eqv z d.pd else (pds l).any fun z => PyData.eqv z d.pd)))
  | .dic ks _ => isKey d = true ∧ F (.dat (.bl (if neg then !decide (d ∈ ks) else decide (d ∈ ks))))
  | .str z => ∃ c, d = .str ⟨#[c]⟩ ∧ F (.dat (.bl (if neg then !decide (c ∈ z.cps.toList) else decide (c ∈ z.cps.toList))))
  | _ => False
theorem dic_get {K : Fg} {H : Hp} {P : Ad} {v : V} {ks vs : List D} {k : Key} {y : V} (h : RC K H P v (.dic ks vs)) (hy : RC K H P y (kD k)) :
    ∃ p ov, v = .ref p ∧ DGet H p y ov ∧ IsD H p ∧ (ov.isSome = decide (kD k ∈ ks)) ∧ (∀ d, dGet ks vs (kD k) = some d → ∃ w, ov = some w ∧ RD K H P w d) ∧ (dGet ks vs (kD k) = none → ov = none) := by
  obtain ⟨p, e, kvs, hp, rfl, r⟩ := h.dic
  refine ⟨p, valV kvs k, e, .inl ⟨kvs, k, hp, hy.key, rfl⟩, .inl ⟨kvs, hp⟩, ?_, ?_⟩
  · rw [← valV_any k kvs, Bool.eq_iff_iff, decide_eq_true_iff, mem_key kD_inj k kvs]
  · rcases get_val kD_inj k r with ⟨d, w, e1, e2, r1⟩ | ⟨e1, e2⟩
    · refine ⟨fun d' q => ?_, fun q => ?_⟩
      · rw [e1] at q; cases q
        exact ⟨w, e2, r1⟩
      · rw [e1] at q; cases q
    · refine ⟨fun d' q => ?_, fun q => e2⟩
      rw [e1] at q; cases q
theorem os_in (K : Fg) : OpS K (rIn4 K) (fIn false) := by
  intro Y H σ env x y d e F Q R cx cy f k
  unfold fIn at f
  match e, f with
  | .lst l, f =>
    obtain ⟨s1, s2, f⟩ := f
    have hp := cy.dp s2
    simp only [D.sh, D.pd] at s2 hp
    exact .inl ⟨d.pd, pds l, cx.dp s1, hp, s1, s2, fin_dat R k (.bl _) f⟩
  | .tup l, f =>
    obtain ⟨s1, s2, f⟩ := f
    have hp := cy.dp s2
    simp only [D.sh, D.pd] at s2 hp
    exact .inr (.inl ⟨d.pd, pds l, cx.dp s1, hp, s1, s2, fin_dat R k (.bl _) f⟩)
  | .dic ks vs, f =>
    obtain ⟨s1, f⟩ := f
    obtain ⟨ky, rfl⟩ := isKey_of s1
    obtain ⟨p, ov, e1, g, _, e2, _⟩ := dic_get cy cx
    refine .inr (.inr (.inl ⟨p, ov, e1, g, ?_⟩))
    show Q (.bl ov.isSome) H
    rw [e2]
    exact fin_dat R k (.bl _) f
  | .str z, f =>
    obtain ⟨c, e1, f'⟩ := f
    subst e1
    exact .inr (.inr (.inr ⟨c, z, cx.str, cy.str, fin_dat R k (.bl _) f'⟩))
theorem os_notIn (K : Fg) : OpS K (rNotIn4 K) (fIn true) := by
  intro Y H σ env x y d e F Q R cx cy f k
  unfold fIn at f
  match e, f with
  | .lst l, f =>
    obtain ⟨s1, s2, f⟩ := f
    have hp := cy.dp s2
    simp only [D.sh, D.pd] at s2 hp
    exact .inl ⟨d.pd, pds l, cx.dp s1, hp, s1, s2, fin_dat R k (.bl _) f⟩
  | .tup l, f =>
    obtain ⟨s1, s2, f⟩ := f
    have hp := cy.dp s2
    simp only [D.sh, D.pd] at s2 hp
    exact .inr (.inl ⟨d.pd, pds l, cx.dp s1, hp, s1, s2, fin_dat R k (.bl _) f⟩)
  | .dic ks vs, f =>
    obtain ⟨s1, f⟩ := f
    obtain ⟨ky, rfl⟩ := isKey_of s1
    obtain ⟨p, ov, e1, g, _, e2, _⟩ := dic_get cy cx
    refine .inr (.inr (.inl ⟨p, ov, e1, g, ?_⟩))
    show Q (.bl (!ov.isSome)) H
    rw [e2]
    exact fin_dat R k (.bl _) f
  | .str z, f =>
    obtain ⟨c, e1, f'⟩ := f
    subst e1
    exact .inr (.inr (.inr ⟨c, z, cx.str, cy.str, fin_dat R k (.bl _) f'⟩))

/-! ### subscripts -/
theorem RDs.atI {K : Fg} {H : Hp} {P : Ad} {us : List V} {ds : List D} {i : Int} {d : D} (r : RDs K H P us ds) (e : atI ds i = some d) : ∃ v, atI us i = some v ∧ RD K H P v d := by
  unfold L2.atI at e ⊢
  rw [r.length]
  cases w : ixN ds.length i with
  | none => rw [w] at e; cases e
  | some j =>
    rw [w] at e
    exact r.get e
@[irreducible] def fIx : Op2 := fun d e F => match d, e with
  | .lst l, .int i => ∃ z, atI l i = some z ∧ F (.dat z)
  | .tup l, .int i => ∃ z, atI l i = some z ∧ F (.dat z)
  | .str z, .int i => z.length ≤ sizeLine ∧ ∃ c, atI z.cps.toList i = some c ∧ F (.dat (.str ⟨#[c]⟩))
  | .dic ks vs, k => isKey k = true ∧ ∃ z, dGet ks vs k = some z ∧ F (.dat z)
  | _, _ => False
abbrev rIx4 (K : Fg) : R2 := fun x y H Q => rIx K x y H Q ∨ ∃ a v, x = .ref a ∧ DGet H a y (some v) ∧ Q v H
theorem os_ix (K : Fg) : OpS K (rIx4 K) fIx := by
  intro Y H σ env x y d e F Q R cx cy f k
  unfold fIx at f
  match d, e, f with
  | .lst l, .int i, f =>
    obtain ⟨z, e1, f⟩ := f
    obtain ⟨p, us, e2, q, r, _⟩ := cx.lst
    obtain ⟨v, e3, r3⟩ := r.atI e1
    exact .inl (.inl ⟨p, us, i, v, e2, cy.int, .of q, e3, fin_dat R k r3 f⟩)
  | .tup l, .int i, f =>
    obtain ⟨z, e1, f⟩ := f
    obtain ⟨p, us, e2, q, r, _, _⟩ := cx.tup
    obtain ⟨v, e3, r3⟩ := r.atI e1
    exact .inl (.inr (.inl ⟨p, us, i, v, e2, cy.int, q, e3, fin_dat R k r3 f⟩))
  | .str z, .int i, f =>
    obtain ⟨h, c, e1, f⟩ := f
    exact .inl (.inr (.inr ⟨z, i, c, cx.str, cy.int, h, e1, fin_dat R k (.str _) f⟩))
  | .dic ks vs, key, f =>
    obtain ⟨s1, z, e1, f⟩ := f
    obtain ⟨ky, rfl⟩ := isKey_of s1
    obtain ⟨p, ov, e2, g, _, _, h3, _⟩ := dic_get cx cy
    obtain ⟨w, rfl, r⟩ := h3 z e1
    exact .inr ⟨p, w, e2, g, fin_dat R k r f⟩
theorem ae_ix {X : Cx} {j : Nat} {a b : Expr} {fa fb : AE'} {pos : Pos} (hr : Room j X.A) (ha : AE X a fa) (hb : AE X b fb) (hs : PlainIx b := by exact fun _ _ => rfl) : AE X (.Subscript a b pos) (aOp fIx fa fb) := by
  obtain ⟨t, p, s⟩ := ha
  obtain ⟨t2, p2, s2⟩ := hb
  exact ⟨_, pe_ix (IxR.or ix_seq (ix_dict (by have := hr.un; omega))) p p2 hs, snd_op (os_ix X.K) s s2⟩

/-! ### slices -/
def cutD (xs : List D) (lo hi : Option Int) : List D := (xs.drop (HT.sIx xs.length 0 lo)).take (HT.sIx xs.length xs.length hi - HT.sIx xs.length 0 lo)
theorem cutD_len (xs : List D) (lo hi : Option Int) : (cutD xs lo hi).length ≤ xs.length := by
  unfold cutD
  rw [List.length_take, List.length_drop]
  omega
theorem RDs.cut {K : Fg} {H : Hp} {P : Ad} {us : List V} {ds : List D} (r : RDs K H P us ds) (lo hi : Option Int) : RDs K H P (cutV us lo hi) (cutD ds lo hi) := by
  unfold cutV cutD
  rw [r.length]
  exact (r.drop _).take _
abbrev AO' := AEnv → (Option Int → AEnv → Prop) → Prop
def aoNone : AO' := fun env R => R none env
def aoSome (a : AE') : AO' := fun env R => a env fun r env1 => match val env1 r with
  | some (.int i) => R (some i) env1
  | _ => False
def SndO (K : Fg) (t : TO) (a : AO') : Prop := ∀ (Y : Ad) (H : Hp) (σ : St) (env : AEnv) (R : Option Int → AEnv → Prop) (Q : Option Int → Hp → Prop), Rep K Y H σ env → a env R →
  (∀ o H' env', Rep K Y H' σ env' → Adv σ Y env H Y env' H' → R o env' → Q o H') → t σ H Q
def AO (X : Cx) (e : Option Expr) (a : AO') : Prop := ∃ t, PO X e t ∧ SndO X.K t a
theorem ao_none {X : Cx} : AO X none aoNone := ⟨_, po_none, fun Y H σ env R Q rep a k => k none H env rep Adv.refl a⟩
theorem ao_some {X : Cx} {e : Expr} {a : AE'} (h : AE X e a) : AO X (some e) (aoSome a) := by
  obtain ⟨t, p, s⟩ := h
  refine ⟨_, po_some p, fun Y H σ env R Q rep a k => ?_⟩
  refine s Y H σ env _ _ rep a fun v H' env' r Y' rep' g ok q => ?_
  obtain ⟨d, e1, c⟩ := ok.rc rep'
  simp only [e1] at q
  match d, c, q with
  | .int i, c, q => exact ⟨i, c.int, k (some i) H' env' (rep'.less g.yu) g.drop q⟩
def fSl (d : D) (lo hi : Option Int) (F : RV → Prop) : Prop := match d with
  | .lst l => F (.new (.lst (cutD l lo hi)))
  | .scr l => F (.new (.lst (cutD l lo hi)))
  | .tup l => F (.dat (.tup (cutD l lo hi)))
  | .str z => z.length ≤ sizeLine ∧ F (.dat (.str (cutS z lo hi)))
  | _ => False
def aSl (a : AE') (lo hi : AO') : AE' := fun env R => a env fun r env1 => lo env1 fun l env2 => hi env2 fun h env3 => match val env3 r with
  | some d => fSl d l h fun z => R z env3
  | none => False
theorem cutV_all {us : List V} {lo hi : Option Int} (h : HT.sIx us.length 0 lo = 0 ∧ HT.sIx us.length us.length hi = us.length) : cutV us lo hi = us := by
  unfold cutV
  rw [h.1, h.2]
  simp
theorem ae_sl {X : Cx} {e : Expr} {lo hi : Option Expr} {a : AE'} {l h : AO'} {p2 pos : Pos} (he : AE X e a) (hl : AO X lo l) (hh : AO X hi h) : AE X (.Subscript e (.Slice lo hi none p2) pos) (aSl a l h) := by
  obtain ⟨t, p, s⟩ := he
  obtain ⟨t1, p1, s1⟩ := hl
  obtain ⟨t2, p3, s2⟩ := hh
  refine ⟨_, pe_slice (SlR.or sl_list (SlR.or sl_tupA sl_str)) p p1 p3, fun Y H σ env R Q rep q k => ?_⟩
  refine s Y H σ env _ _ rep q fun v H1 env1 r Y1 rep1 g1 ok1 q1 => ?_
  refine s1 Y1 H1 σ env1 _ _ rep1 q1 fun o2 H2 env2 rep2 g2 q2 => ?_
  refine s2 Y1 H2 σ env2 _ _ rep2 q2 fun o3 H3 env3 rep3 g3 q3 => ?_
  have g23 := g2.trans g3
  obtain ⟨d, e1, c⟩ := ok1.later g23 rep3
  simp only [e1] at q3
  have repY := rep3.less g1.yu
  have c' := c.less (pw_less g1.yu)
  have gg := (g1.trans g23).drop
  have k' : Fin X.K Y H3 σ env3 (fun z => R z env3) Q := fun w H4 z Y4 rep4 g4 ok4 q4 => k w H4 env3 z Y4 rep4 (gg.trans g4) ok4 q4
  match d, c', q3 with
  | .lst l, c, q =>
    obtain ⟨p, us, e2, hq, r, hl⟩ := c.lst
    exact .inl ⟨p, us, e2, .of hq, fun l n => fin_lst repY k' (r.cut _ _) (Nat.le_trans (cutD_len _ _ _) hl) q n⟩
  | .scr l, c, q =>
    obtain ⟨p, us, e2, hq, r, hl⟩ := c.scr
    exact .inl ⟨p, us, e2, hq, fun l n => fin_lst repY k' (r.cut _ _) (Nat.le_trans (cutD_len _ _ _) hl) q n⟩
  | .tup l, c, q =>
    obtain ⟨p, us, e2, hq, r, rd, hl⟩ := c.tup
    refine .inr (.inl ⟨p, us, e2, hq, fun z => ?_, fun _ l n => fin_tup repY k' (r.cut _ _) (Nat.le_trans (cutD_len _ _ _) hl) q n⟩)
    have e3 : cutD l o2 o3 = l := by
      unfold cutD
      rw [← r.length, z.1, z.2, r.length]
      simp
    simp only [fSl] at q
    rw [e3] at q
    subst e2
    exact fin_dat repY k' rd q
  | .str z, c, q => exact .inr (.inr ⟨z, c.str, q.1, fin_dat repY k' (.str _) q.2⟩)
end AL
namespace AL
open PySem L2
/-! AL6: tests, bool operators, conditional expressions, chains, displays. -/
section
variable {X : Cx} {a b c : Expr} {pos : Pos}
/-- a way taken by a truth -/
@[irreducible] def brP (b : Bool) (t e : Prop) : Prop := if b = true then t else e
@[simp] theorem brP_true {t e : Prop} : brP true t e = t := by unfold brP; simp
@[simp] theorem brP_false {t e : Prop} : brP false t e = e := by unfold brP; simp
theorem brI {b : Bool} {t e : Prop} (h1 : b = true → t) (h2 : b = false → e) : brP b t e := by
  cases b
  · rw [brP_false]; exact h2 rfl
  · rw [brP_true]; exact h1 rfl
/-- a value that is a bool, as a test -/
def aB (a : AE') : AT' := fun env R => a env fun r env1 => match val env1 r with
  | some (.bl b) => R b env1
  | _ => False
theorem snd_test {K : Fg} {t : TE} {a : AE'} (s : Snd K t a) : SndT K (fun σ H Q => t σ H fun x H1 => ∃ c, x = .bl c ∧ Q c H1) (aB a) := by
  intro Y H σ env R Q rep q k
  refine s Y H σ env _ _ rep q fun v H' env' r Y' rep' g ok q => ?_
  obtain ⟨d, e1, c⟩ := ok.rc rep'
  simp only [e1] at q
  match d, c, q with
  | .bl b, c, q => exact ⟨b, c.bl, k b H' env' (rep'.less g.yu) g.drop q⟩
theorem at_cmp {op : CmpOp} {r : R2} {f : Op2} {fa fb : AE'} (ho : OpR X (compareOp op) r) (o : OpS X.K r f) (ha : AE X a fa) (hb : AE X b fb) (hm : behindInMarks op b = false) : AT X (.Compare a [op] [b] pos) (aB (aOp f fa fb)) := by
  obtain ⟨t, p, s⟩ := ha
  obtain ⟨t2, p2, s2⟩ := hb
  exact ⟨_, pt_cmpR ho p p2 hm, snd_test (snd_op o s s2)⟩
/-- a < b < c -/
def aChain (f g : Op2) (a b c : AE') : AE' := fun env R => a env fun r env1 => b env1 fun s env2 => match val env2 r, val env2 s with
  | some d, some e => f d e fun z => match z with
    | .dat (.bl true) => c env2 fun u env3 => match val env3 s, val env3 u with
      | some e', some w => g e' w fun z => R z env3
      | _, _ => False
    | .dat (.bl false) => R (.dat (.bl false)) env2
    | _ => False
  | _, _ => False
theorem ResOk.less' {K : Fg} {H : Hp} {Y Y1 : Ad} {σ : St} {env : AEnv} {v : V} {d : D} (h : ResOk K H Y Y1 σ env v (.dat d)) : Y1 = Y ∧ RD K H (Pw Y σ env) v d := h
/-- a value that waits: what it is, as it is read later -/
structure Wt (K : Fg) (Y : Ad) (H : Hp) (σ : St) (env : AEnv) (v : V) (r : RV) : Prop where
  rc : ∃ d, val env r = some d ∧ RC K H (Pw Y σ env) v d
theorem snd_chain {K : Fg} {r r' : R2} {f g : Op2} {ta tb tc : TE} {fa fb fc : AE'} (o : OpS K r f) (o' : OpS K r' g) (ha : Snd K ta fa) (hb : Snd K tb fb) (hc : Snd K tc fc) : Snd K (tChain r r' ta tb tc) (aChain f g fa fb fc) := by
  intro Y H σ env R Q rep h k
  refine ha Y H σ env _ _ rep h fun v H1 env1 r1 Y1 rep1 g1 ok1 q1 => ?_
  refine hb Y1 H1 σ env1 _ _ rep1 q1 fun u H2 env2 r2 Y2 rep2 g2 ok2 q2 => ?_
  obtain ⟨d, e1, c1⟩ := ok1.later g2 rep2
  obtain ⟨e, e2, c2⟩ := ok2.rc rep2
  simp only [e1, e2] at q2
  refine o Y2 H2 σ env2 v u d e _ _ rep2 c1 c2 q2 fun w H3 z Y3 rep3 g3 ok3 q3 => ?_
  match z, ok3, q3 with
  | .dat (.bl true), ok3, q3 =>
    obtain ⟨ey, rd⟩ := ok3.less'
    cases rd
    refine ⟨true, rfl, iteT ?_⟩
    subst ey
    refine hc Y3 H3 σ env2 _ _ rep3 q3 fun w H4 env4 r4 Y4 rep4 g4 ok4 q4 => ?_
    obtain ⟨e', e5, c5⟩ := ok2.later (g3.trans g4) rep4
    obtain ⟨w', e6, c6⟩ := ok4.rc rep4
    simp only [e5, e6] at q4
    have gg := (g1.trans g2).trans (g3.trans g4)
    refine o' Y H4 σ env4 u w e' w' _ _ (rep4.less gg.yu) (c5.less (pw_less gg.yu)) (c6.less (pw_less gg.yu)) q4 fun w2 H5 z5 Y5 rep5 g5 ok5 q5 => ?_
    exact k w2 H5 env4 z5 Y5 rep5 (gg.drop.trans g5) ok5 q5
  | .dat (.bl false), ok3, q3 =>
    obtain ⟨ey, rd⟩ := ok3.less'
    cases rd
    refine ⟨false, rfl, iteF ?_⟩
    subst ey
    have gg := (g1.trans g2).trans g3
    exact k _ H3 env2 (.dat (.bl false)) Y (rep3.less gg.yu) gg.drop ⟨rfl, .bl false⟩ q3
theorem ae_chain {op op' : CmpOp} {r r' : R2} {f g : Op2} {fa fb fc : AE'} (ho : OpR X (compareOp op) r) (o : OpS X.K r f) (ho' : OpR X (compareOp op') r') (o' : OpS X.K r' g) (ha : AE X a fa) (hb : AE X b fb) (hc : AE X c fc)
    (hm : lastMarks [op, op'] [b, c] = false := by with_unfolding_all rfl) : AE X (.Compare a [op, op'] [b, c] pos) (aChain f g fa fb fc) := by
  obtain ⟨t, p, s⟩ := ha
  obtain ⟨t2, p2, s2⟩ := hb
  obtain ⟨t3, p3, s3⟩ := hc
  exact ⟨_, pe_chain ho ho' p p2 p3 hm, snd_chain o o' s s2 s3⟩
theorem at_chain {op op' : CmpOp} {r r' : R2} {f g : Op2} {fa fb fc : AE'} (ho : OpR X (compareOp op) r) (o : OpS X.K r f) (ho' : OpR X (compareOp op') r') (o' : OpS X.K r' g) (ha : AE X a fa) (hb : AE X b fb) (hc : AE X c fc)
    (hm : lastMarks [op, op'] [b, c] = false := by with_unfolding_all rfl) : AT X (.Compare a [op, op'] [b, c] pos) (aB (aChain f g fa fb fc)) := by
  obtain ⟨t, p, s⟩ := ha
  obtain ⟨t2, p2, s2⟩ := hb
  obtain ⟨t3, p3, s3⟩ := hc
  exact ⟨_, pt_chain ho ho' p p2 p3 hm, snd_test (snd_chain o o' s s2 s3)⟩
/-- the truth of a value -/
def truD (d : D) (R : Bool → Prop) : Prop := match d with
  | .non => R false
  | .bl b => R b
  | .int i => R (i != 0)
  | .str x => x.length ≤ sizeLine ∧ R ((x.length : Int) != 0)
  | .lst l => R (!l.isEmpty)
  | .tup l => R (!l.isEmpty)
  | _ => False
def aTru (a : AE') : AT' := fun env R => a env fun r env1 => match val env1 r with
  | some d => truD d fun b => R b env1
  | none => False
theorem isEmpty_len {α β : Type} {l : List α} {m : List β} (h : l.length = m.length) : l.isEmpty = m.isEmpty := by
  cases l <;> cases m <;> simp_all
theorem snd_tru {K : Fg} {t : TE} {a : AE'} (s : Snd K t a) : SndT K (fun σ H Q => t σ H fun x H' => ∃ k, TruV K x H' k ∧ Q k H') (aTru a) := by
  intro Y H σ env R Q rep q k
  refine s Y H σ env _ _ rep q fun v H' env' r Y' rep' g ok q => ?_
  obtain ⟨d, e1, c⟩ := ok.rc rep'
  simp only [e1] at q
  have fin : ∀ b, R b env' → Q b H' := fun b q => k b H' env' (rep'.less g.yu) g.drop q
  match d, c, q with
  | .non, c, q => rw [c.non]; exact ⟨false, rfl, fin _ q⟩
  | .bl b, c, q => rw [c.bl]; exact ⟨b, rfl, fin _ q⟩
  | .int i, c, q => rw [c.int]; exact ⟨_, rfl, fin _ q⟩
  | .str x, c, q => rw [c.str]; exact ⟨_, ⟨q.1, rfl⟩, fin _ q.2⟩
  | .lst l, c, q =>
    obtain ⟨p, us, rfl, h, r, _⟩ := c.lst
    exact ⟨_, .inl ⟨us, .of h, rfl⟩, by rw [isEmpty_len r.length]; exact fin _ q⟩
  | .tup l, c, q =>
    obtain ⟨p, us, rfl, h, r, _, _⟩ := c.tup
    exact ⟨_, .inr (.inl ⟨us, h, rfl⟩), by rw [isEmpty_len r.length]; exact fin _ q⟩
theorem at_tru {fa : AE'} (ha : AE X a fa) (he : ∀ whole, isTrue a X.env whole = (do let v ← whole; standAt a.pos; holding [v] (truthy v)) := by intro _; rfl) : AT X a (aTru fa) := by
  obtain ⟨t, p, s⟩ := ha
  exact ⟨_, pt_truth p he, snd_tru s⟩
/-- not -/
def aNot (t : AT') : AT' := fun env R => t env fun b env1 => R (!b) env1
theorem at_not {t : AT'} (h : AT X a t) : AT X (.UnaryOp .Not a pos) (aNot t) := by
  obtain ⟨u, p, s⟩ := h
  exact ⟨_, pt_not p, fun Y H σ env R Q rep q k => s Y H σ env _ _ rep q fun b H' env' rep' g q' => k (!b) H' env' rep' g q'⟩
/-- not as a value, of any truth: by the test -/
def aNotV (t : AT') : AE' := fun env R => t env fun b env1 => R (.dat (.bl (!b))) env1
theorem ae_notB {fa : AE'} (h : AE X a fa) : AE X (.UnaryOp .Not a pos) (aNotV (aB fa)) := by
  obtain ⟨u, p, s⟩ := h
  refine ⟨_, pe_not p, fun Y H σ env R Q rep q k => ?_⟩
  refine s Y H σ env _ _ rep q fun v H' env' r Y' rep' g ok q => ?_
  obtain ⟨d, e1, c⟩ := ok.rc rep'
  simp only [e1] at q
  match d, c, q with
  | .bl b, c, q => exact ⟨b, c.bl, k _ H' env' (.dat (.bl (!b))) Y (rep'.less g.yu) g.drop ⟨rfl, .bl _⟩ q⟩
/-- and, or as tests -/
def aAnd (t u : AT') : AT' := fun env R => t env fun b env1 => brP b (u env1 R) (R false env1)
def aOr (t u : AT') : AT' := fun env R => t env fun b env1 => brP b (R true env1) (u env1 R)
theorem SndT.then {K : Fg} {t : TT} {a : AT'} (s : SndT K t a) {Y : Ad} {H : Hp} {σ : St} {env : AEnv} {R : Bool → AEnv → Prop} {Q : Bool → Hp → Prop} (rep : Rep K Y H σ env) (q : a env R) (k : ∀ b H' env', Rep K Y H' σ env' → Adv σ Y env H Y env' H' → R b env' → Q b H') : t σ H Q := s Y H σ env R Q rep q k
theorem aw_and1 {t : AT'} (h : AT X a t) : AW X (.BoolOp .And [a] pos) t := let ⟨u, p, s⟩ := h; ⟨u, pw_and1 p, s⟩
theorem aw_or1 {t : AT'} (h : AT X a t) : AW X (.BoolOp .Or [a] pos) t := let ⟨u, p, s⟩ := h; ⟨u, pw_or1 p, s⟩
theorem aw_and {t u : AT'} {rest : List Expr} (h : AT X a t) (h2 : AW X (.BoolOp .And (b :: rest) pos) u) : AW X (.BoolOp .And (a :: b :: rest) pos) (aAnd t u) := by
  obtain ⟨t1, p1, s1⟩ := h
  obtain ⟨t2, p2, s2⟩ := h2
  refine ⟨_, pw_and p1 p2, fun Y H σ env R Q rep q k => ?_⟩
  refine s1.then rep q fun b H' env' rep' g q' => ?_
  cases b with
  | true => exact iteT (s2.then rep' (by simpa using q') fun b2 H2 env2 rep2 g2 q2 => k b2 H2 env2 rep2 (g.trans g2) q2)
  | false => exact iteF (k false H' env' rep' g (by simpa using q'))
theorem aw_or {t u : AT'} {rest : List Expr} (h : AT X a t) (h2 : AW X (.BoolOp .Or (b :: rest) pos) u) : AW X (.BoolOp .Or (a :: b :: rest) pos) (aOr t u) := by
  obtain ⟨t1, p1, s1⟩ := h
  obtain ⟨t2, p2, s2⟩ := h2
  refine ⟨_, pw_or p1 p2, fun Y H σ env R Q rep q k => ?_⟩
  refine s1.then rep q fun b H' env' rep' g q' => ?_
  cases b with
  | true => exact iteT (k true H' env' rep' g (by simpa using q'))
  | false => exact iteF (s2.then rep' (by simpa using q') fun b2 H2 env2 rep2 g2 q2 => k b2 H2 env2 rep2 (g.trans g2) q2)
theorem AW.at' {t : AT'} (h : AW X a t) : AT X a t := let ⟨u, p, s⟩ := h; ⟨u, p.pt, s⟩
/-- and, or as values: all but the last are bools -/
def aAndV (t : AT') (u : AE') : AE' := fun env R => t env fun b env1 => brP b (u env1 R) (R (.dat (.bl false)) env1)
def aOrV (t : AT') (u : AE') : AE' := fun env R => t env fun b env1 => brP b (R (.dat (.bl true)) env1) (u env1 R)
theorem ae_one {op} {fa : AE'} (h : AE X a fa) : AE X (.BoolOp op [a] pos) fa := let ⟨u, p, s⟩ := h; ⟨u, pe_one p, s⟩
theorem snd_bl {K : Fg} {t : TE} {a : AE'} (s : Snd K t a) {Y : Ad} {H : Hp} {σ : St} {env : AEnv} {R : Bool → AEnv → Prop} {Q : VK} (rep : Rep K Y H σ env) (q : aB a env R)
    (k : ∀ b H' env', Rep K Y H' σ env' → Adv σ Y env H Y env' H' → R b env' → Q (.bl b) H') : t σ H Q := by
  refine s Y H σ env _ _ rep q fun v H' env' r Y' rep' g ok q => ?_
  obtain ⟨d, e1, c⟩ := ok.rc rep'
  simp only [e1] at q
  match d, c, q with
  | .bl b, c, q =>
    rw [c.bl]
    exact k b H' env' (rep'.less g.yu) g.drop q
theorem ae_and {fa u : AE'} {rest : List Expr} (h : AE X a fa) (h2 : AE X (.BoolOp .And (b :: rest) pos) u) : AE X (.BoolOp .And (a :: b :: rest) pos) (aAndV (aB fa) u) := by
  obtain ⟨t1, p1, s1⟩ := h
  obtain ⟨t2, p2, s2⟩ := h2
  refine ⟨_, L2.pe_and p1 p2, fun Y H σ env R Q rep q k => ?_⟩
  refine snd_bl s1 rep q fun b H' env' rep' g q' => ⟨b, rfl, ?_⟩
  cases b with
  | true => exact iteT (s2 Y H' σ env' _ _ rep' (by simpa using q') fun v H2 env2 r Y2 rep2 g2 ok q2 => k v H2 env2 r Y2 rep2 (g.trans g2) ok q2)
  | false => exact iteF (k _ H' env' (.dat (.bl false)) Y rep' g ⟨rfl, .bl _⟩ (by simpa using q'))
theorem ae_or {fa u : AE'} {rest : List Expr} (h : AE X a fa) (h2 : AE X (.BoolOp .Or (b :: rest) pos) u) : AE X (.BoolOp .Or (a :: b :: rest) pos) (aOrV (aB fa) u) := by
  obtain ⟨t1, p1, s1⟩ := h
  obtain ⟨t2, p2, s2⟩ := h2
  refine ⟨_, L2.pe_or p1 p2, fun Y H σ env R Q rep q k => ?_⟩
  refine snd_bl s1 rep q fun b H' env' rep' g q' => ⟨b, rfl, ?_⟩
  cases b with
  | true => exact iteT (k _ H' env' (.dat (.bl true)) Y rep' g ⟨rfl, .bl _⟩ (by simpa using q'))
  | false => exact iteF (s2 Y H' σ env' _ _ rep' (by simpa using q') fun v H2 env2 r Y2 rep2 g2 ok q2 => k v H2 env2 r Y2 rep2 (g.trans g2) ok q2)
/-- a if t else b -/
def aIf (t : AT') (a b : AE') : AE' := fun env R => t env fun c env1 => brP c (a env1 R) (b env1 R)
theorem ae_if {t : AT'} {fa fb : AE'} (hc : AT X c t) (ha : AE X a fa) (hb : AE X b fb) : AE X (.IfExp c a b pos) (aIf t fa fb) := by
  obtain ⟨t1, p1, s1⟩ := hc
  obtain ⟨t2, p2, s2⟩ := ha
  obtain ⟨t3, p3, s3⟩ := hb
  refine ⟨_, pe_ifExp p1 p2 p3, fun Y H σ env R Q rep q k => ?_⟩
  refine s1.then rep q fun b H' env' rep' g q' => ?_
  cases b with
  | true => exact iteT (s2 Y H' σ env' _ _ rep' (by simpa using q') fun v H2 env2 r Y2 rep2 g2 ok q2 => k v H2 env2 r Y2 rep2 (g.trans g2) ok q2)
  | false => exact iteF (s3 Y H' σ env' _ _ rep' (by simpa using q') fun v H2 env2 r Y2 rep2 g2 ok q2 => k v H2 env2 r Y2 rep2 (g.trans g2) ok q2)
/-- - a -/
def aNeg (a : AE') : AE' := fun env R => a env fun r env1 => match val env1 r with
  | some (.int i) => R (.dat (.int (-i))) env1
  | _ => False
theorem ae_neg {fa : AE'} (ha : AE X a fa) : AE X (.UnaryOp .USub a pos) (aNeg fa) := by
  obtain ⟨t, p, s⟩ := ha
  refine ⟨_, pe_un un_neg p, fun Y H σ env R Q rep q k => ?_⟩
  refine s Y H σ env _ _ rep q fun v H' env' r Y' rep' g ok q => ?_
  obtain ⟨d, e1, c⟩ := ok.rc rep'
  simp only [e1] at q
  match d, c, q with
  | .int i, c, q => exact ⟨i, c.int, k _ H' env' (.dat (.int (-i))) Y (rep'.less g.yu) g.drop ⟨rfl, .int _⟩ q⟩
end

/-! ### displays -/
def dats : List RV → Option (List D)
  | [] => some []
  | .dat d :: r => (dats r).map (d :: ·)
  | _ => none
def aTup (t : AA') : AE' := fun env R => t env fun rs env1 => match dats rs with
  | some ds => ds.length ≤ sizeLine ∧ R (.dat (.tup ds)) env1
  | none => False
def aLst (t : AA') : AE' := fun env R => t env fun rs env1 => match dats rs with
  | some ds => ds.length ≤ sizeLine ∧ R (.new (.lst ds)) env1
  | none => False
section
variable {K : Fg} {σ : St} {Y : Ad} {env : AEnv} {H : Hp}
theorem ArgsOk.dats : ∀ {vs : List V} {rs : List RV} {ds : List D}, ArgsOk K H Y σ env vs rs → dats rs = some ds → RDs K H (Pw Y σ env) vs ds
  | _, _, _, .nil, e => by
    simp only [AL.dats, Option.some.injEq] at e
    subst e
    exact .nil
  | _, .dat d :: rs, _, .cons h r, e => by
    simp only [AL.dats] at e
    cases w : AL.dats rs with
    | none => rw [w] at e; cases e
    | some l =>
      rw [w] at e
      cases e
      exact .cons h.2 (r.dats w)
  | _, .at _ :: rs, _, .cons h r, e => by cases e
  | _, .new _ :: rs, _, .cons h r, e => by cases e
end
section
variable {X : Cx} {es : List Expr} {pos : Pos}
theorem ae_tup {x1} {t : AA'} (h : AA X es t) : AE X (.Tuple es x1 pos) (aTup t) := by
  obtain ⟨u, p, s⟩ := h
  refine ⟨_, pe_tup p, fun Y H σ env R Q rep q k => ?_⟩
  refine s Y H σ env _ _ rep q fun vs H' env' rs rep' g ok q => ?_
  match w : dats rs, q with
  | some ds, q =>
    have r := ok.dats w
    refine ⟨by rw [r.length]; exact q.1, fun l n => ?_⟩
    exact fin_tup rep' (F := fun z => R z env') (fun w H4 z Y4 rep4 g4 ok4 q4 => k w H4 env' z Y4 rep4 (g.trans g4) ok4 q4) r q.1 q.2 n
theorem ae_lst {t : AA'} (h : AA X es t) : AE X (.List es pos) (aLst t) := by
  obtain ⟨u, p, s⟩ := h
  refine ⟨_, pe_lst p, fun Y H σ env R Q rep q k => ?_⟩
  refine s Y H σ env _ _ rep q fun vs H' env' rs rep' g ok q => ?_
  match w : dats rs, q with
  | some ds, q =>
    have r := ok.dats w
    refine ⟨by rw [r.length]; exact q.1, fun l n => ?_⟩
    exact fin_lst rep' (F := fun z => R z env') (fun w H4 z Y4 rep4 g4 ok4 q4 => k w H4 env' z Y4 rep4 (g.trans g4) ok4 q4) r q.1 q.2 n
def aNewK : AE' := fun env R => R (.new (.dic [] [])) env
def aNewT : AE' := fun env R => R (.new (.dit [] [])) env
theorem ae_newK : AE X (.Dict [] [] pos) aNewK := ⟨_, pe_dnewK, fun Y H σ env R Q rep q k p n => fin_new (d := .dic [] []) (F := fun z => R z env) rep (fun w H4 z Y4 rep4 g4 ok4 q4 => k w H4 env z Y4 rep4 g4 ok4 q4) n ⟨[], upd_same, rfl, .nil⟩ q⟩
theorem ae_newT : AE X (.Dict [] [] pos) aNewT := ⟨_, pe_dnewT, fun Y H σ env R Q rep q k p n => fin_new (d := .dit [] []) (F := fun z => R z env) rep (fun w H4 z Y4 rep4 g4 ok4 q4 => k w H4 env z Y4 rep4 g4 ok4 q4) n ⟨[], upd_same, rfl, .nil⟩ q⟩
end
end AL
namespace AL
open PySem L2
/-! AL7: statements. -/
structure AEnds where
  nx : AEnv → Prop
  rt : RV → AEnv → Prop
  bk : AEnv → Prop := fun _ => False
  ct : AEnv → Prop := fun _ => False
abbrev AS' := AEnds → AEnv → Prop
/-- how a state goes on: B the slots that are never stored -/
structure AdvS (B : Nat → Bool) (σ : L2.St) (Y : Ad) (env : AEnv) (H : Hp) (Y' : Ad) (σ' : L2.St) (env' : AEnv) (H' : Hp) : Prop where
  keep : ∀ a o, H a = some o → ¬ Own σ env a → KeepO o H' a
  ky : ∀ a, Y a → H' a = H a
  yu : ∀ a, Y a → Y' a
  yn : ∀ a, Y' a → Y a ∨ H a = none ∨ Own σ env a
  ow : ∀ a, Own σ' env' a → Own σ env a ∨ H a = none
  live : ∀ a o, H a = some o → ∃ o', H' a = some o'
  st : ∀ i, B i = true → σ'[i]? = σ[i]?
  pr : ∀ i : Nat, B i = true → Sh env[i]? env'[i]?
  len : σ'.length = σ.length
section
variable {K : Fg} {B : Nat → Bool} {σ σ1 σ2 : L2.St} {Y Y' Y1 Y2 : Ad} {env env1 env2 : AEnv} {H H' H1 H2 : Hp}
theorem AdvS.refl : AdvS B σ Y env H Y σ env H := ⟨fun _ _ h _ => .inl h, fun _ _ => rfl, fun _ h => h, fun _ h => .inl h, fun _ h => .inl h, fun _ o h => ⟨o, h⟩, fun _ _ => rfl, fun _ _ => Sh.refl _, rfl⟩
theorem Adv.toS (g : Adv σ Y env H Y1 env1 H1) : AdvS B σ Y env H Y1 σ env1 H1 := ⟨g.keep, g.ky, g.yu, fun a h => (g.yn a h).imp id .inl, fun a h => .inl (g.own h), g.live, fun _ _ => rfl, fun i _ => g.sh i, rfl⟩
theorem AdvS.trans (R : Rep K Y H σ env) (g : AdvS B σ Y env H Y σ1 env1 H1) (k : AdvS B σ1 Y env1 H1 Y2 σ2 env2 H2) : AdvS B σ Y env H Y2 σ2 env2 H2 := by
  have nn : ∀ a, H1 a = none → H a = none := fun a z => by
    cases q : H a with
    | none => rfl
    | some o =>
      obtain ⟨o', w⟩ := g.live a o q
      rw [w] at z; cases z
  refine ⟨fun a o h n => (g.keep a o h n).trans fun u q => k.keep a u q fun z => ?_, fun a h => (k.ky a (g.yu a h)).trans (g.ky a h), fun a h => k.yu a (g.yu a h), fun a h => ?_, fun a h => ?_, fun a o h => ?_, fun i b => (k.st i b).trans (g.st i b), fun i b => (g.pr i b).trans (k.pr i b), k.len.trans g.len⟩
  · rcases g.ow a z with z | z
    · exact n z
    · rw [h] at z; cases z
  · rcases k.yn a h with z | z | z
    · exact .inl z
    · exact .inr (.inl (nn a z))
    · rcases g.ow a z with z | z
      · exact .inr (.inr z)
      · exact .inr (.inl z)
  · rcases k.ow a h with z | z
    · exact g.ow a z
    · exact .inr (nn a z)
  · obtain ⟨o', w⟩ := g.live a o h
    exact k.live a o' w
theorem AdvS.go (g : AdvS B σ Y env H Y1 σ1 env1 H1) (R : Rep K Y H σ env) : Go (Own σ env) (Pw Y σ env) (Pw Y1 σ1 env1) H H1 := by
  refine ⟨g.keep, fun a h => ?_⟩
  rcases h with h | h
  · rcases g.yn a h with z | z | z
    · exact .inl (.inl z)
    · exact .inr z
    · exact .inl (.inr z)
  · exact (g.ow a h).imp .inr id
theorem AdvS.rd (g : AdvS B σ Y env H Y1 σ1 env1 H1) (R : Rep K Y H σ env) {v : V} {d : D} (h : RD K H (Pw Y σ env) v d) : RD K H1 (Pw Y1 σ1 env1) v d := h.go (g.go R) fun _ z => .inr z
theorem AdvS.rds (g : AdvS B σ Y env H Y1 σ1 env1 H1) (R : Rep K Y H σ env) {v : List V} {d : List D} (h : RDs K H (Pw Y σ env) v d) : RDs K H1 (Pw Y1 σ1 env1) v d := h.go (g.go R) fun _ z => .inr z
end
structure EOk (K : Fg) (B : Nat → Bool) (Y : Ad) (H : Hp) (σ : L2.St) (env : AEnv) (D : Ends) (A : AEnds) : Prop where
  nx : ∀ H' σ' env', Rep K Y H' σ' env' → AdvS B σ Y env H Y σ' env' H' → A.nx env' → D.nx σ' H'
  rt : ∀ v H' σ' env' r Y', Rep K Y' H' σ' env' → AdvS B σ Y env H Y' σ' env' H' → ResOk K H' Y Y' σ' env' v r → A.rt r env' → D.rt v H'
  bk : ∀ H' σ' env', Rep K Y H' σ' env' → AdvS B σ Y env H Y σ' env' H' → A.bk env' → D.bk σ' H'
  ct : ∀ H' σ' env', Rep K Y H' σ' env' → AdvS B σ Y env H Y σ' env' H' → A.ct env' → D.ct σ' H'
def SndS (K : Fg) (B : Nat → Bool) (t : TS) (a : AS') : Prop := ∀ (Y : Ad) (H : Hp) (σ : L2.St) (env : AEnv) (D : Ends) (A : AEnds), Rep K Y H σ env → a A env → EOk K B Y H σ env D A → t D σ H
def AS (X : Cx) (B : Nat → Bool) (st : Stmt) (a : AS') : Prop := ∃ t, PS X st t ∧ SndS X.K B t a
def ASs (X : Cx) (B : Nat → Bool) (st : List Stmt) (a : AS') : Prop := ∃ t, PSs X st t ∧ SndS X.K B t a
section
variable {K : Fg} {B : Nat → Bool} {σ σ1 : L2.St} {Y : Ad} {env env1 : AEnv} {H H1 : Hp} {D : Ends} {A : AEnds}
theorem EOk.after (k : EOk K B Y H σ env D A) (R : Rep K Y H σ env) (g : AdvS B σ Y env H Y σ1 env1 H1) : EOk K B Y H1 σ1 env1 D A :=
  ⟨fun H' σ' env' r g' q => k.nx H' σ' env' r (g.trans R g') q, fun v H' σ' env' z Y' r g' ok q => k.rt v H' σ' env' z Y' r (g.trans R g') ok q,
    fun H' σ' env' r g' q => k.bk H' σ' env' r (g.trans R g') q, fun H' σ' env' r g' q => k.ct H' σ' env' r (g.trans R g') q⟩
end
/-! ### blocks -/
def aNext : AS' := fun A env => A.nx env
def aSeq (t u : AS') : AS' := fun A env => t { A with nx := u A } env
section
variable {X : Cx} {B : Nat → Bool} {st : Stmt} {rest : List Stmt} {e : Expr} {pos : Pos} {t u : AS'}
theorem ass_nil : ASs X B [] aNext := ⟨_, pss_nil, fun Y H σ env D A rep q k => k.nx H σ env rep AdvS.refl q⟩
theorem ass_one (h : AS X B st t) : ASs X B [st] t := let ⟨u, p, s⟩ := h; ⟨u, pss_one p, s⟩
theorem ass_cons (h : AS X B st t) (h2 : ASs X B rest u) : ASs X B (st :: rest) (aSeq t u) := by
  obtain ⟨t1, p1, s1⟩ := h
  obtain ⟨t2, p2, s2⟩ := h2
  refine ⟨_, pss_cons p1 p2, fun Y H σ env D A rep q k => ?_⟩
  refine s1 Y H σ env { D with nx := t2 D } { A with nx := u A } rep q ⟨fun H' σ' env' rep' g q' => ?_, k.rt, k.bk, k.ct⟩
  exact s2 Y H' σ' env' D A rep' q' (k.after rep g)
theorem as_pass : AS X B (.Pass pos) aNext := ⟨_, ps_pass, fun Y H σ env D A rep q k => k.nx H σ env rep AdvS.refl q⟩
theorem as_break : AS X B (.Break pos) (fun A env => A.bk env) := ⟨_, ps_break, fun Y H σ env D A rep q k => k.bk H σ env rep AdvS.refl q⟩
theorem as_continue : AS X B (.Continue pos) (fun A env => A.ct env) := ⟨_, ps_continue, fun Y H σ env D A rep q k => k.ct H σ env rep AdvS.refl q⟩
def aDrop (a : AE') : AS' := fun A env => a env fun _ env1 => A.nx env1
theorem as_expr {a : AE'} (h : AE X e a) (hs : swapsWith e none pos.line X.env = pure false := by rfl) : AS X B (.Expr e pos) (aDrop a) := by
  obtain ⟨t, p, s⟩ := h
  refine ⟨_, ps_expr p hs, fun Y H σ env D A rep q k => ?_⟩
  exact s Y H σ env _ _ rep q fun v H' env' r Y' rep' g ok q' => k.nx H' σ env' (rep'.less g.yu) g.drop.toS q'
def aIfS (c : AT') (t u : AS') : AS' := fun A env => c env fun b env1 => brP b (t A env1) (u A env1)
theorem as_if {c : Expr} {tc : AT'} {a b : List Stmt} (hc : AT X c tc) (ha : ASs X B a t) (hb : ASs X B b u) : AS X B (.If c a b pos) (aIfS tc t u) := by
  obtain ⟨t0, p0, s0⟩ := hc
  obtain ⟨t1, p1, s1⟩ := ha
  obtain ⟨t2, p2, s2⟩ := hb
  refine ⟨_, ps_if p0 p1 p2, fun Y H σ env D A rep q k => ?_⟩
  refine s0.then rep q fun b H' env' rep' g q' => ?_
  cases b with
  | true => exact iteT (s1 Y H' σ env' D A rep' (by simpa using q') (k.after rep g.toS))
  | false => exact iteF (s2 Y H' σ env' D A rep' (by simpa using q') (k.after rep g.toS))
theorem as_never : AS X B st (fun _ _ => False) := ⟨_, ps_never, fun Y H σ env D A rep q k => q.elim⟩
theorem ass_never {sts : List Stmt} : ASs X B sts (fun _ _ => False) := ⟨_, pss_never, fun Y H σ env D A rep q k => q.elim⟩
/-- return: an own thing goes to the caller -/
def retR (B : Nat → Bool) (A : AEnds) (env : AEnv) : RV → Prop
  | .at i => match env[i]? with
    | some (.own d) => B i = false ∧ A.rt (.new d) (env.set i .un)
    | some (.dat d) => A.rt (.dat d) env
    | _ => False
  | r => A.rt r env
def aRet (B : Nat → Bool) (a : AE') : AS' := fun A env => a env fun r env1 => retR B A env1 r
end
section
variable {K : Fg} {B : Nat → Bool} {σ : L2.St} {Y Y1 : Ad} {env : AEnv} {H : Hp}
/-- an own thing is given away -/
theorem Rep.give {i : Nat} {d : D} {v : V} (R : Rep K Y H σ env) (hb : B i = false) (h : env[i]? = some (.own d)) (hv : σ[i]? = some (some v)) :
    ∃ Y', Rep K Y' H σ (env.set i .un) ∧ AdvS B σ Y env H Y' σ (env.set i .un) H ∧ ResOk K H Y Y' σ (env.set i .un) v (.new d) := by
  have hi : i < env.length := (List.getElem?_eq_some_iff.mp h).1
  have back : ∀ (j : Nat) (e : D), (env.set i .un)[j]? = some (.own e) → env[j]? = some (.own e) ∧ j ≠ i := fun j e q => by
    by_cases z : i = j
    · subst z
      rw [List.getElem?_set_self hi] at q; cases q
    · rw [List.getElem?_set_ne z] at q
      exact ⟨q, fun w => z w.symm⟩
  have backd : ∀ (j : Nat) (e : D), (env.set i .un)[j]? = some (.dat e) → env[j]? = some (.dat e) := fun j e q => by
    by_cases z : i = j
    · subst z
      rw [List.getElem?_set_self hi] at q; cases q
    · rwa [List.getElem?_set_ne z] at q
  have ow : ∀ a, Own σ (env.set i .un) a → Own σ env a := fun a ⟨j, e, q, w⟩ => ⟨j, e, (back j e q).1, w⟩
  obtain ⟨p, hp, np, rp⟩ := R.own i d h
  rw [hv] at hp; cases hp
  have pw : ∀ a, Pw (fun a => Y a ∨ a = p) σ (env.set i .un) a → Pw Y σ env a := fun a z => by
    rcases z with (z | z) | z
    · exact .inl z
    · subst z
      exact .inr ⟨i, d, h, hv⟩
    · exact .inr (ow a z)
  have nown : ¬ Own σ (env.set i .un) p := fun ⟨j, e, q, w⟩ => by
    obtain ⟨q1, q2⟩ := back j e q
    exact q2 (R.inj j i e d p q1 h w hv)
  refine ⟨fun a => Y a ∨ a = p, ⟨by rw [List.length_set]; exact R.len, fun j e q => ?_, fun j e q => ?_, fun a z => ?_, fun j k e f a q1 q2 w1 w2 => R.inj j k e f a (back j e q1).1 (back k f q2).1 w1 w2⟩,
    ⟨fun _ _ h _ => .inl h, fun _ _ => rfl, fun _ z => .inl z, fun a z => ?_, fun a z => .inl (ow a z), fun _ o h => ⟨o, h⟩, fun _ _ => rfl, fun j bj => by
      rw [List.getElem?_set_ne (fun e => by subst e; rw [hb] at bj; cases bj)]
      exact Sh.refl _, rfl⟩, p, rfl, rfl, fun z => ?_, rp.less pw⟩
  · obtain ⟨v, w, r⟩ := R.dat j e (backd j e q)
    exact ⟨v, w, r.less pw⟩
  · obtain ⟨q1, q2⟩ := back j e q
    obtain ⟨p', w, n, r⟩ := R.own j e q1
    refine ⟨p', w, fun z => ?_, r.less pw⟩
    rcases z with z | z
    · exact n z
    · subst z
      exact q2 (R.inj j i e d p' q1 h w hv)
  · rcases z with z | z
    · exact R.yim a z
    · subst z
      exact rp.some
  · rcases z with z | z
    · exact .inl z
    · subst z
      exact .inr (.inr ⟨i, d, h, hv⟩)
  · rcases z with z | z
    · exact np z
    · exact nown z
/-- data stored at a slot -/
theorem Rep.setDat {i : Nat} {v : V} {d : D} (R : Rep K Y H σ env) (hb : B i = false) (h : RD K H (Pw Y σ env) v d) : Rep K Y H (σ.set i (some v)) (env.set i (.dat d)) ∧ AdvS B σ Y env H Y (σ.set i (some v)) (env.set i (.dat d)) H := by
  have back : ∀ (j : Nat) (e : D), (env.set i (.dat d))[j]? = some (.own e) → env[j]? = some (.own e) ∧ i ≠ j := fun j e q => by
    by_cases z : i = j
    · subst z
      by_cases hi : i < env.length
      · rw [List.getElem?_set_self hi] at q; cases q
      · rw [List.getElem?_eq_none (by rw [List.length_set]; omega)] at q; cases q
    · rw [List.getElem?_set_ne z] at q
      exact ⟨q, z⟩
  have ow : ∀ a, Own (σ.set i (some v)) (env.set i (.dat d)) a → Own σ env a := fun a ⟨j, e, q, w⟩ => by
    obtain ⟨q1, q2⟩ := back j e q
    rw [List.getElem?_set_ne q2] at w
    exact ⟨j, e, q1, w⟩
  have pw : ∀ a, Pw Y (σ.set i (some v)) (env.set i (.dat d)) a → Pw Y σ env a := fun a z => z.imp id (ow a)
  refine ⟨⟨by rw [List.length_set, List.length_set]; exact R.len, fun j e q => ?_, fun j e q => ?_, R.yim, fun j k e f a q1 q2 w1 w2 => ?_⟩, ⟨fun _ _ h _ => .inl h, fun _ _ => rfl, fun _ z => z, fun a z => .inl z, fun a z => .inl (ow a z), fun _ o h => ⟨o, h⟩, fun j bj => ?_, fun j bj => by
    rw [List.getElem?_set_ne (fun e => by subst e; rw [hb] at bj; cases bj)]
    exact Sh.refl _, List.length_set⟩⟩
  · by_cases z : i = j
    · subst z
      by_cases hi : i < env.length
      · rw [List.getElem?_set_self hi] at q; cases q
        exact ⟨v, List.getElem?_set_self (by rw [R.len]; exact hi), h.less pw⟩
      · rw [List.getElem?_eq_none (by rw [List.length_set]; omega)] at q; cases q
    · rw [List.getElem?_set_ne z] at q
      obtain ⟨u, w, r⟩ := R.dat j e q
      exact ⟨u, by rw [List.getElem?_set_ne z]; exact w, r.less pw⟩
  · obtain ⟨q1, q2⟩ := back j e q
    obtain ⟨p', w, n, r⟩ := R.own j e q1
    exact ⟨p', by rw [List.getElem?_set_ne q2]; exact w, n, r.less pw⟩
  · obtain ⟨q1, z1⟩ := back j e q1
    obtain ⟨q2, z2⟩ := back k f q2
    rw [List.getElem?_set_ne z1] at w1
    rw [List.getElem?_set_ne z2] at w2
    exact R.inj j k e f a q1 q2 w1 w2
  · rw [List.getElem?_set_ne]
    intro z
    subst z
    rw [hb] at bj; cases bj
/-- a new thing stored at a slot: it is owned there -/
theorem Rep.setNew {i : Nat} {v : V} {d : D} (R : Rep K Y1 H σ env) (hb : B i = false) (yu : ∀ a, Y a → Y1 a) (h : ResOk K H Y Y1 σ env v (.new d)) : Rep K Y H (σ.set i (some v)) (env.set i (.own d)) ∧
    (AdvS B σ Y env H Y1 σ env H → ∀ p, v = .ref p → True) ∧ (∀ (H0 : Hp) (σ0 : L2.St) (env0 : AEnv), (∀ a, Y1 a → Y a ∨ H0 a = none) → AdvS B σ0 Y env0 H0 Y1 σ env H → AdvS B σ0 Y env0 H0 Y (σ.set i (some v)) (env.set i (.own d)) H) := by
  obtain ⟨p, rfl, ey, np, ro⟩ := h
  have back : ∀ (j : Nat) (e : D), (env.set i (.own d))[j]? = some (.own e) → (i = j ∧ e = d) ∨ (env[j]? = some (.own e) ∧ i ≠ j) := fun j e q => by
    by_cases z : i = j
    · subst z
      by_cases hi : i < env.length
      · rw [List.getElem?_set_self hi] at q; cases q
        exact .inl ⟨rfl, rfl⟩
      · rw [List.getElem?_eq_none (by rw [List.length_set]; omega)] at q; cases q
    · rw [List.getElem?_set_ne z] at q
      exact .inr ⟨q, z⟩
  have backd : ∀ (j : Nat) (e : D), (env.set i (.own d))[j]? = some (.dat e) → env[j]? = some (.dat e) ∧ i ≠ j := fun j e q => by
    by_cases z : i = j
    · subst z
      by_cases hi : i < env.length
      · rw [List.getElem?_set_self hi] at q; cases q
      · rw [List.getElem?_eq_none (by rw [List.length_set]; omega)] at q; cases q
    · rw [List.getElem?_set_ne z] at q
      exact ⟨q, z⟩
  have ow : ∀ a, Own (σ.set i (some (.ref p))) (env.set i (.own d)) a → Own σ env a ∨ a = p := fun a ⟨j, e, q, w⟩ => by
    rcases back j e q with ⟨z, _⟩ | ⟨q1, q2⟩
    · subst z
      by_cases hi : i < σ.length
      · rw [List.getElem?_set_self hi] at w; cases w
        exact .inr rfl
      · rw [List.getElem?_eq_none (by rw [List.length_set]; omega)] at w; cases w
    · rw [List.getElem?_set_ne q2] at w
      exact .inl ⟨j, e, q1, w⟩
  have pw : ∀ a, Pw Y (σ.set i (some (.ref p))) (env.set i (.own d)) a → Pw Y1 σ env a := fun a z => by
    rcases z with z | z
    · exact .inl (yu a z)
    · rcases ow a z with z | z
      · exact .inr z
      · exact .inl (by rw [ey]; exact .inr z)
  refine ⟨⟨by rw [List.length_set, List.length_set]; exact R.len, fun j e q => ?_, fun j e q => ?_, fun a z => R.yim a (yu a z), fun j k e f a q1 q2 w1 w2 => ?_⟩, fun _ _ _ => trivial, fun H0 σ0 env0 yn g => ⟨g.keep, g.ky, fun _ z => z, fun a z => .inl z, fun a z => ?_, g.live, fun j bj => ?_, fun j bj => by
    rw [List.getElem?_set_ne (fun e => by subst e; rw [hb] at bj; cases bj)]
    exact g.pr j bj, by rw [List.length_set]; exact g.len⟩⟩
  · obtain ⟨q1, z⟩ := backd j e q
    obtain ⟨u, w, r⟩ := R.dat j e q1
    exact ⟨u, by rw [List.getElem?_set_ne z]; exact w, r.less pw⟩
  · rcases back j e q with ⟨z, e1⟩ | ⟨q1, z⟩
    · subst z e1
      have hi : i < env.length := by
        by_cases hi : i < env.length
        · exact hi
        · rw [List.getElem?_eq_none (by rw [List.length_set]; omega)] at q; cases q
      exact ⟨p, List.getElem?_set_self (by rw [R.len]; exact hi), fun z => np (.inl z), ro.less pw⟩
    · obtain ⟨p', w, n, r⟩ := R.own j e q1
      exact ⟨p', by rw [List.getElem?_set_ne z]; exact w, fun z => n (yu p' z), r.less pw⟩
  · have key : ∀ (j : Nat) (e : D), i ≠ j → env[j]? = some (.own e) → σ[j]? = some (some (.ref p)) → False := fun j e _ q w => np (.inr ⟨j, e, q, w⟩)
    have at_i : ∀ {w : Addr}, (σ.set i (some (.ref p)))[i]? = some (some (V.ref w)) → w = p := fun {w} q => by
      by_cases hi : i < σ.length
      · rw [List.getElem?_set_self hi] at q; cases q; rfl
      · rw [List.getElem?_eq_none (by rw [List.length_set]; omega)] at q; cases q
    rcases back j e q1 with ⟨z, _⟩ | ⟨q1, z1⟩
    · rcases back k f q2 with ⟨z', _⟩ | ⟨q2, z2⟩
      · rw [← z, ← z']
      · subst z
        have := at_i w1
        subst this
        rw [List.getElem?_set_ne z2] at w2
        exact (key k f z2 q2 w2).elim
    · rcases back k f q2 with ⟨z', _⟩ | ⟨q2, z2⟩
      · subst z'
        have := at_i w2
        subst this
        rw [List.getElem?_set_ne z1] at w1
        exact (key j e z1 q1 w1).elim
      · rw [List.getElem?_set_ne z1] at w1
        rw [List.getElem?_set_ne z2] at w2
        exact R.inj j k e f a q1 q2 w1 w2
  · rcases ow a z with z | z
    · exact g.ow a z
    · have : Y1 a := by rw [ey]; exact .inr z
      rcases yn a this with w | w
      · subst z
        exact (np (.inl w)).elim
      · exact .inr w
  · rw [List.getElem?_set_ne]
    · exact g.st j bj
    · intro z
      subst z
      rw [hb] at bj; cases bj
end
section
variable {X : Cx} {B : Nat → Bool} {e : Expr} {pos : Pos}
theorem as_ret {a : AE'} (h : AE X e a) : AS X B (.Return (some e) pos) (aRet B a) := by
  obtain ⟨t, p, s⟩ := h
  refine ⟨_, ps_ret p, fun Y H σ env D A rep q k => ?_⟩
  refine s Y H σ env _ _ rep q fun v H' env' r Y' rep' g ok q' => ?_
  match r, ok, q' with
  | .dat d, ok, q' => exact k.rt v H' σ env' (.dat d) Y' rep' g.toS ok q'
  | .new d, ok, q' => exact k.rt v H' σ env' (.new d) Y' rep' g.toS ok q'
  | .at i, ok, q' =>
    obtain ⟨ey, hv, d, w⟩ := ok
    subst ey
    rcases w with w | w
    · have q2 : B i = false ∧ A.rt (.new d) (env'.set i .un) := by simpa [retR, w] using q'
      obtain ⟨Y2, r2, g2, ok2⟩ := rep'.give (B := B) q2.1 w hv
      exact k.rt v H' σ _ (.new d) Y2 r2 (g.toS.trans rep g2) ok2 q2.2
    · have q2 : A.rt (.dat d) env' := by simpa [retR, w] using q'
      obtain ⟨u, hu, r⟩ := rep'.dat i d w
      rw [hv] at hu; cases hu
      exact k.rt v H' σ env' (.dat d) Y' rep' g.toS ⟨rfl, r⟩ q2
theorem as_retN : AS X B (.Return none pos) (fun A env => A.rt (.dat .non) env) := ⟨_, ps_retN, fun Y H σ env D A rep q k => k.rt .non H σ env (.dat .non) Y rep AdvS.refl ⟨rfl, .non⟩ q⟩
/-- name = value -/
def setR (i : Nat) (N : AEnv → Prop) (env : AEnv) : RV → Prop
  | .dat d => N (env.set i (.dat d))
  | .new d => N (env.set i (.own d))
  | .at j => match env[j]? with
    | some (.own d) => N ((env.set j (.dat d)).set i (.dat d))
    | some (.dat d) => N (env.set i (.dat d))
    | _ => False
def aSet (i : Nat) (a : AE') : AS' := fun A env => a env fun r env1 => setR i A.nx env1 r
theorem set_ok {K : Fg} {i : Nat} {σ : L2.St} {Y Y1 : Ad} {env env1 : AEnv} {H H1 : Hp} {v : V} {r : RV} {N : AEnv → Prop} {Q : Prop} (hb : B i = false) (rep : Rep K Y H σ env) (g : Adv σ Y env H Y1 env1 H1) (rep1 : Rep K Y1 H1 σ env1) (ok : ResOk K H1 Y Y1 σ env1 v r)
    (q : setR i N env1 r) (k : ∀ env2, Rep K Y H1 (σ.set i (some v)) env2 → AdvS B σ Y env H Y (σ.set i (some v)) env2 H1 → N env2 → Q) : Q := by
  match r, ok, q with
  | .dat d, ok, q =>
    obtain ⟨ey, rd⟩ := ok
    subst ey
    obtain ⟨a, b⟩ := rep1.setDat (B := B) hb rd
    exact k _ a (g.toS.trans rep b) q
  | .new d, ok, q =>
    obtain ⟨a, _, b⟩ := rep1.setNew (B := B) hb g.yu ok
    exact k _ a (b H σ env g.yn g.toS) q
  | .at j, ok, q =>
    obtain ⟨ey, hv, d, w⟩ := ok
    subst ey
    rcases w with w | w
    · have q2 : N ((env1.set j (.dat d)).set i (.dat d)) := by simpa [setR, w] using q
      obtain ⟨r1, g1, u, hu, rd⟩ := rep1.freeze w
      rw [hv] at hu; cases hu
      obtain ⟨a, b⟩ := r1.setDat (B := B) hb rd
      exact k _ a ((g.trans g1).toS.trans rep b) q2
    · have q2 : N (env1.set i (.dat d)) := by simpa [setR, w] using q
      obtain ⟨u, hu, rd⟩ := rep1.dat j d w
      rw [hv] at hu; cases hu
      obtain ⟨a, b⟩ := rep1.setDat (B := B) hb rd
      exact k _ a (g.toS.trans rep b) q2
theorem as_set {i : Nat} {x : Str} {pos' : Pos} {a : AE'} (hN : X.N.Nodup) (hi : X.N[i]? = some x) (hx : Loc X.env.scope x) (he : AE X e a) (hb : B i = false := by rfl) (hs : swapsWith e (some (.Name x pos')) pos.line X.env = pure false := by rfl) (hf : X.fn x = true ∨ X.env.scope.names.lookup x = some .local := by first | exact .inl rfl | exact .inr rfl | assumption) :
    AS X B (.Assign [.Name x pos'] e pos) (aSet i a) := by
  obtain ⟨t, p, s⟩ := he
  refine ⟨_, ps_set hN hi hx p hs hf, fun Y H σ env D A rep q k => ?_⟩
  refine s Y H σ env _ _ rep q fun v H' env' r Y' rep' g ok q' => ?_
  exact set_ok hb rep g rep' ok q' fun env2 r2 g2 q2 => k.nx H' _ env2 r2 g2 q2
end
end AL
namespace AL
open PySem L2
/-! AL8: targets, stores, what a for walks, for, comprehensions. -/
abbrev AG' := D → AEnv → (AEnv → Prop) → Prop
abbrev AGs' := List D → AEnv → (AEnv → Prop) → Prop
def SndG (K : Fg) (B : Nat → Bool) (g : TG) (a : AG') : Prop := ∀ (Y : Ad) (H : Hp) (σ : L2.St) (env : AEnv) (v : V) (d : D) (N : AEnv → Prop) (Q : L2.St → Hp → Prop), Rep K Y H σ env → RD K H (Pw Y σ env) v d → a d env N →
  (∀ H' σ' env', Rep K Y H' σ' env' → AdvS B σ Y env H Y σ' env' H' → N env' → Q σ' H') → g v σ H Q
def SndGs (K : Fg) (B : Nat → Bool) (g : TGs) (a : AGs') : Prop := ∀ (Y : Ad) (H : Hp) (σ : L2.St) (env : AEnv) (v : List V) (d : List D) (N : AEnv → Prop) (Q : L2.St → Hp → Prop), Rep K Y H σ env → RDs K H (Pw Y σ env) v d → a d env N →
  (∀ H' σ' env', Rep K Y H' σ' env' → AdvS B σ Y env H Y σ' env' H' → N env' → Q σ' H') → g v σ H Q
def AG (X : Cx) (B : Nat → Bool) (tg : Expr) (a : AG') : Prop := ∃ t, PG X tg t ∧ SndG X.K B t a
def AGs (X : Cx) (B : Nat → Bool) (tg : List Expr) (a : AGs') : Prop := ∃ t, PGs X tg t ∧ SndGs X.K B t a
def agName (i : Nat) : AG' := fun d env N => N (env.set i (.dat d))
def agNil : AGs' := fun ds env N => ds = [] ∧ N env
def agCons (a : AG') (b : AGs') : AGs' := fun ds env N => match ds with
  | d :: r => a d env fun env1 => b r env1 N
  | [] => False
def agTup (n : Nat) (a : AGs') : AG' := fun d env N => match d with
  | .tup ds => ds.length = n ∧ a ds env N
  | .lst ds => ds.length = n ∧ a ds env N
  | _ => False
theorem PG.or {X : Cx} {tg : Expr} {g g' : TG} (h : PG X tg g) (h' : PG X tg g') : PG X tg (fun v σ H Q => g v σ H Q ∨ g' v σ H Q) := ⟨fun pins s σ H v u Q I r q => q.elim (h.run pins s σ H v u Q I r) (h'.run pins s σ H v u Q I r)⟩
section
variable {X : Cx} {B : Nat → Bool} {pos : Pos}
theorem ag_name (i : Nat) {x : Str} (hN : X.N.Nodup) (hi : X.N[i]? = some x) (hx : Loc X.env.scope x) (hb : B i = false := by rfl) (hf : X.fn x = true ∨ X.env.scope.names.lookup x = some .local := by first | exact .inl rfl | exact .inr rfl | assumption) : AG X B (.Name x pos) (agName i) := by
  refine ⟨_, pg_name (i := i) hN hi hx hf, fun Y H σ env v d N Q rep rd q k => ?_⟩
  obtain ⟨a, b⟩ := rep.setDat (B := B) hb rd
  exact k H _ _ a b q
theorem ags_nil : AGs X B [] agNil := ⟨_, pgs_nil, fun Y H σ env v d N Q rep rd q k => by
  obtain ⟨rfl, q⟩ := q
  cases rd
  exact ⟨rfl, k H σ env rep AdvS.refl q⟩⟩
theorem ags_cons {e : Expr} {es : List Expr} {a : AG'} {b : AGs'} (h1 : AG X B e a) (h2 : AGs X B es b) (hs : (assignEach (e :: es) X.env).map (·.2) = assign e X.env :: (assignEach es X.env).map (·.2) := by rfl) : AGs X B (e :: es) (agCons a b) := by
  obtain ⟨t1, p1, s1⟩ := h1
  obtain ⟨t2, p2, s2⟩ := h2
  refine ⟨_, pgs_cons p1 p2 hs, fun Y H σ env v d N Q rep rd q k => ?_⟩
  cases rd with
  | nil => exact q.elim
  | cons r rr =>
    refine ⟨_, _, rfl, s1 Y H σ env _ _ _ _ rep r q fun H1 σ1 env1 rep1 g1 q1 => ?_⟩
    exact s2 Y H1 σ1 env1 _ _ _ _ rep1 (g1.rds rep rr) q1 fun H2 σ2 env2 rep2 g2 q2 => k H2 σ2 env2 rep2 (g1.trans rep g2) q2
theorem ag_tup {es : List Expr} {k n : Nat} {a : AGs'} (hc : X.calm = true) (h : AGs X B es a)
    (hn : (assignEach es X.env).length = n := by rfl) (hst : (assignEach es X.env).findIdx? (·.1) = none := by rfl) : AG X B (.Tuple es k pos) (agTup n a) := by
  obtain ⟨t1, p1, s1⟩ := h
  refine ⟨_, PG.or (pg_tup hc p1 hn hst) (pg_unl hc p1 hn hst), fun Y H σ env v d N Q rep rd q k => ?_⟩
  match d, rd, q with
  | .tup ds, .tup s r, q => exact .inl ⟨_, _, rfl, s.sq, by rw [r.length]; exact q.1, s1 Y H σ env _ _ _ _ rep r q.2 k⟩
  | .lst ds, .lst s r, q => exact .inr ⟨_, _, rfl, s.sq, by rw [r.length]; exact q.1, s1 Y H σ env _ _ _ _ rep r q.2 k⟩
end
/-! ### an owned thing changes -/
section
variable {K : Fg} {B : Nat → Bool} {σ : L2.St} {Y : Ad} {env : AEnv} {H : Hp}
theorem Rep.mut {i : Nat} {d d1 : D} {p : Addr} {o : HO} (R : Rep K Y H σ env) (h : env[i]? = some (.own d)) (hp : σ[i]? = some (some (.ref p)))
    (ro : ∀ P : Ad, (∀ a, P a ↔ Pw Y σ env a) → Go (fun a => a = p) (Pw Y σ env) P H (upd H p o) → RO K (upd H p o) P p d1) :
    Rep K Y (upd H p o) σ (env.set i (.own d1)) ∧ AdvS B σ Y env H Y σ (env.set i (.own d1)) (upd H p o) := by
  have hi : i < env.length := (List.getElem?_eq_some_iff.mp h).1
  have back : ∀ (j : Nat) (e : D), (env.set i (.own d1))[j]? = some (.own e) → (i = j ∧ e = d1) ∨ (env[j]? = some (.own e) ∧ i ≠ j) := fun j e q => by
    by_cases z : i = j
    · subst z
      rw [List.getElem?_set_self hi] at q; cases q
      exact .inl ⟨rfl, rfl⟩
    · rw [List.getElem?_set_ne z] at q
      exact .inr ⟨q, z⟩
  have ow : ∀ a, Own σ (env.set i (.own d1)) a ↔ Own σ env a := fun a => by
    constructor
    · rintro ⟨j, e, q, w⟩
      rcases back j e q with ⟨z, _⟩ | ⟨q1, _⟩
      · subst z; exact ⟨_, d, h, w⟩
      · exact ⟨j, e, q1, w⟩
    · rintro ⟨j, e, q, w⟩
      by_cases z : i = j
      · subst z
        exact ⟨_, d1, List.getElem?_set_self hi, w⟩
      · exact ⟨j, e, by rw [List.getElem?_set_ne z]; exact q, w⟩
  have pw : ∀ a, Pw Y σ (env.set i (.own d1)) a ↔ Pw Y σ env a := fun a => or_congr Iff.rfl (ow a)
  obtain ⟨p', hp', np, rp⟩ := R.own i d h
  rw [hp] at hp'; cases hp'
  have g : Go (fun a => a = p) (Pw Y σ env) (Pw Y σ (env.set i (.own d1))) H (upd H p o) := ⟨fun a u q n => .inl (by rw [upd_ne n]; exact q), fun a z => .inl ((pw a).mp z)⟩
  have sub : ∀ a, a = p → Pw Y σ env a := fun a z => by subst z; exact .inr ⟨i, d, h, hp⟩
  refine ⟨⟨by rw [List.length_set]; exact R.len, fun j e q => ?_, fun j e q => ?_, fun a z => ?_, fun j k e f a q1 q2 w1 w2 => ?_⟩, ⟨fun a u q n => .inl ?_, fun a z => ?_, fun _ z => z, fun a z => .inl z, fun a z => .inl ((ow a).mp z), fun a u q => ?_, fun _ _ => rfl, fun j _ => ?_, rfl⟩⟩
  · by_cases z : i = j
    · subst z
      rw [List.getElem?_set_self hi] at q; cases q
    · rw [List.getElem?_set_ne z] at q
      obtain ⟨v, w, r⟩ := R.dat j e q
      exact ⟨v, w, r.go g sub⟩
  · rcases back j e q with ⟨z, e1⟩ | ⟨q1, z⟩
    · subst z e1
      exact ⟨p, hp, np, ro _ pw g⟩
    · obtain ⟨p', w, n, r⟩ := R.own j e q1
      have ne : p' ≠ p := fun e' => by
        subst e'
        exact z (R.inj i j d e p' h q1 hp w)
      exact ⟨p', w, n, r.go g sub (upd_ne ne)⟩
  · by_cases e : a = p
    · subst e; exact absurd z np
    · obtain ⟨u, q, m⟩ := R.yim a z
      exact ⟨u, by rw [upd_ne e]; exact q, m⟩
  · have bk : ∀ (j : Nat) (e : D), (env.set i (.own d1))[j]? = some (.own e) → ∃ e', env[j]? = some (.own e') := fun j e q => by
      rcases back j e q with ⟨z, _⟩ | ⟨q, _⟩
      · subst z; exact ⟨d, h⟩
      · exact ⟨e, q⟩
    obtain ⟨e', q1⟩ := bk j e q1
    obtain ⟨f', q2⟩ := bk k f q2
    exact R.inj j k e' f' a q1 q2 w1 w2
  · rw [upd_ne]
    · exact q
    · intro e
      subst e
      exact n ⟨i, d, h, hp⟩
  · rw [upd_ne]
    intro e
    subst e
    exact np z
  · by_cases e : a = p
    · subst e; exact ⟨o, upd_same⟩
    · exact ⟨u, by rw [upd_ne e]; exact q⟩
  · by_cases e : i = j
    · subst e
      rw [List.getElem?_set_self hi, h]
      trivial
    · rw [List.getElem?_set_ne e]
      exact Sh.refl _
end
/-! ### o[i] = v -/
@[irreducible] def setAt (j : Nat) (k d : D) (env : AEnv) (N : AEnv → Prop) : Prop := match env[j]?, k with
  | some (.own (.lst l)), .int i => ∃ m, ixN l.length i = some m ∧ N (env.set j (.own (.lst (l.set m d))))
  | some (.own (.dic ks vs)), k => isKey k = true ∧ ks.length < sizeLine ∧ N (env.set j (.own (.dic (dPutK ks k) (dPutW ks vs k d))))
  | _, _ => False
def agSub (o i : AE') : AG' := fun d env N => o env fun r env1 => i env1 fun s env2 => match r, val env2 s with
  | .at j, some k => setAt j k d env2 N
  | _, _ => False
theorem dput_ok {K : Fg} {H : Hp} {P : Ad} {kvs : List (Key × V)} {vs : List D} {k : Key} {v : V} {d : D} (r : RDs K H P (kvs.map (·.2)) vs) (hv : RD K H P v d) :
    dPutK (kvs.map fun kv => kD kv.1) (kD k) = (putK kvs k v).map (fun kv => kD kv.1) ∧ RDs K H P ((putK kvs k v).map (·.2)) (dPutW (kvs.map fun kv => kD kv.1) vs (kD k) d) := by
  unfold dPutK dPutW putK
  by_cases h : (kvs.any fun kv => decide (kv.1 = k)) = true
  · have h' : kD k ∈ (kvs.map fun kv => kD kv.1) := (mem_key kD_inj k kvs).mpr h
    rw [if_pos h', if_pos h', if_pos h]
    exact ⟨(put_keys (g := kD) k v kvs).symm, put_map kD_inj hv r⟩
  · have h' : ¬ kD k ∈ (kvs.map fun kv => kD kv.1) := fun z => h ((mem_key kD_inj k kvs).mp z)
    rw [if_neg h', if_neg h', if_neg h]
    rw [List.map_append, List.map_append]
    exact ⟨rfl, r.append (.cons hv .nil)⟩
theorem Go.rds {K : Fg} {P0 P1 P2 : Ad} {H H' : Hp} (g : Go P0 P1 P2 H H') (s : ∀ a, P0 a → P1 a) {vs : List V} {ds : List D} (h : RDs K H P1 vs ds) : RDs K H' P2 vs ds := h.go g s
theorem set_at_ok {K : Fg} {B : Nat → Bool} {Y : Ad} {H : Hp} {σ : L2.St} {env : AEnv} {o i v : V} {d k : D} {j : Nat} {N : AEnv → Prop} {Q : Hp → Prop} (rep : Rep K Y H σ env) (ho : σ[j]? = some (some o)) (hk : RC K H (Pw Y σ env) i k) (hv : RD K H (Pw Y σ env) v d)
    (q : setAt j k d env N) (fin : ∀ H' env', Rep K Y H' σ env' → AdvS B σ Y env H Y σ env' H' → N env' → Q H') : rSetL o i v H Q ∨ rSetD o i v H Q := by
  unfold setAt at q
  match w : env[j]?, k, hk, q with
  | some (.own (.lst l)), .int z, hk, q =>
    obtain ⟨m, hm, q⟩ := q
    obtain ⟨p, hp, np, us, hu, r, hl⟩ := rep.own j _ w
    rw [ho] at hp; cases hp
    obtain ⟨a, b⟩ := rep.mut (B := B) (o := .lst (us.set m v)) (d1 := .lst (l.set m d)) w ho fun P pw g => ⟨_, upd_same, Go.rds g (fun a e => by subst e; exact .inr ⟨j, _, w, ho⟩) (r.set hv m), by rw [List.length_set]; exact hl⟩
    exact .inl ⟨p, us, z, m, rfl, hk.int, hu, by rw [r.length]; exact hm, fin _ _ a b q⟩
  | some (.own (.dic ks vs)), k, hk, q =>
    obtain ⟨hkey, hz, q⟩ := q
    obtain ⟨ky, rfl⟩ := isKey_of hkey
    obtain ⟨p, hp, np, kvs, hu, ek, r⟩ := rep.own j _ w
    rw [ho] at hp; cases hp
    subst ek
    obtain ⟨e1, r2⟩ := dput_ok (k := ky) r hv
    obtain ⟨a, b⟩ := rep.mut (B := B) (o := .dK (putK kvs ky v)) (d1 := .dic (dPutK (kvs.map fun kv => kD kv.1) (kD ky)) (dPutW (kvs.map fun kv => kD kv.1) vs (kD ky) d)) w ho fun P pw g => ⟨_, upd_same, e1, Go.rds g (fun a e => by subst e; exact .inr ⟨j, _, w, ho⟩) r2⟩
    refine .inr ⟨p, _, rfl, .inl ⟨kvs, ky, hu, hk.key, by simpa using hz, rfl⟩, fin _ _ a b q⟩
theorem PSet.or {X : Cx} {r r' : V → V → V → Hp → (Hp → Prop) → Prop} (h : PSet X r) (h' : PSet X r') : PSet X (fun o i v H Q => r o i v H Q ∨ r' o i v H Q) := fun pins s σ H o i v ov iv u Q I ro ri rv q => q.elim (h pins s σ H o i v ov iv u Q I ro ri rv) (h' pins s σ H o i v ov iv u Q I ro ri rv)
section
variable {X : Cx} {B : Nat → Bool} {pos : Pos}
theorem ag_sub {o i : Expr} {fo fi : AE'} {k : Nat} (hr : Room k X.A) (ho : AE X o fo) (hi : AE X i fi)
    (ha : ∀ v, assign (.Subscript o i pos) X.env v = (do
      let ov ← holding [v] (eval o X.env)
      let iv ← holding [v, ov] (eval i X.env)
      standAt pos
      holding [v, ov, iv] (setItem ov iv v)
      release [v, ov, iv] []) := by intro _; rfl) : AG X B (.Subscript o i pos) (agSub fo fi) := by
  obtain ⟨t1, p1, s1⟩ := ho
  obtain ⟨t2, p2, s2⟩ := hi
  refine ⟨_, pg_sub p1 p2 (PSet.or set_list (set_dict (by have := hr.un; omega))) ha, fun Y H σ env v d N Q rep rd q k => ?_⟩
  refine s1 Y H σ env _ _ rep q fun ov H1 env1 r1 Y1 rep1 g1 ok1 q1 => ?_
  refine s2 Y1 H1 σ env1 _ _ rep1 q1 fun iv H2 env2 r2 Y2 rep2 g2 ok2 q2 => ?_
  obtain ⟨ky, e2, c2⟩ := ok2.rc rep2
  have gg := g1.trans g2
  have repY := rep2.less gg.yu
  simp only [e2] at q2
  match r1, ok1, q2 with
  | .at j, ok1, q2 =>
    refine set_at_ok (B := B) repY ok1.2.1 (c2.less (pw_less gg.yu)) (gg.drop.rd rd) q2 fun H' env' rep' g' q' => k H' σ env' rep' (gg.drop.toS.trans rep g') q'
/-- target = value, the value as data -/
def aAsg (a : AE') (g : AG') : AS' := fun A env => aFrz a env fun r env1 => match r with
  | .dat d => g d env1 A.nx
  | _ => False
theorem as_asg {tg e : Expr} {a : AE'} {g : AG'} (he : AE X e a) (hg : AG X B tg g) (hs : swapsWithSole [tg] e pos.line X.env = pure false := by rfl) (hw : swappedStores [tg] e X.env = pure none := by rfl)
    (h1 : (assignEach [tg] X.env).map (·.2) = [assign tg X.env] := by rfl) : AS X B (.Assign [tg] e pos) (aAsg a g) := by
  obtain ⟨t1, p1, s1⟩ := he.frz
  obtain ⟨t2, p2, s2⟩ := hg
  refine ⟨_, ps_asg p1 p2 hs hw h1, fun Y H σ env D A rep q k => ?_⟩
  refine s1 Y H σ env _ _ rep q fun v H1 env1 r1 Y1 rep1 g1 ok1 q1 => ?_
  match r1, ok1, q1 with
  | .dat d, ok1, q1 =>
    obtain ⟨ey, rd⟩ := ok1
    subst ey
    exact s2 Y1 H1 σ env1 v d _ _ rep1 rd q1 fun H2 σ2 env2 rep2 g2 q2 => k.nx H2 σ2 env2 rep2 (g1.toS.trans rep g2) q2
end
end AL
namespace AL
open PySem L2
/-! AL9: what a for walks, for, comprehensions. -/
/-- a walk yields these items as long as what stayed data stays data -/
def WalkOk (K : Fg) (J : It) (H : Hp) (P : Ad) (items : List D) : Prop := ∀ (P0 P2 : Ad) (H2 : Hp), (∀ a, P0 a → P a) → Go P0 P P2 H H2 → (∀ a, P2 a → ∃ o, H2 a = some o ∧ Mut (some o)) →
  (∀ i, i < items.length → J.go i H2 ∧ ∀ x H3, J.yld i H2 x H3 → Same H2 H3 ∧ ∃ d, items[i]? = some d ∧ RD K H3 P2 x d) ∧ J.stop items.length H2
abbrev AI' := AEnv → (List D → AEnv → Prop) → Prop
def SndI (K : Fg) (wi : TI) (a : AI') : Prop := ∀ (Y : Ad) (H : Hp) (σ : L2.St) (env : AEnv) (R : List D → AEnv → Prop) (Q : It → Hp → Prop), Rep K Y H σ env → a env R →
  (∀ J H' env' items, Rep K Y H' σ env' → Adv σ Y env H Y env' H' → WalkOk K J H' (Pw Y σ env') items → R items env' → Q J H') → wi σ H Q
def AI (X : Cx) (tg e : Expr) (a : AI') : Prop := ∃ t, PI X tg e t ∧ SndI X.K t a
theorem PI.or {X : Cx} {tg e : Expr} {w w' : TI} (h : PI X tg e w) (h' : PI X tg e w') : PI X tg e (fun σ H R => w σ H R ∨ w' σ H R) := ⟨fun pins s σ H R I q => q.elim (h.run pins s σ H R I) (h'.run pins s σ H R I)⟩
/-- an expression's dict locked behind its evaluation -/
theorem pe_lockv {X : Cx} {e : Expr} {t : TE} (h : PE X e t) : PE X e (fun σ H Q => t σ H fun x H1 => (∃ o kvs d, x = .ref d ∧ H1 d = some (.frz o (.dK kvs)) ∧ Q x H1) ∨ ∃ d kvs, x = .ref d ∧ H1 d = some (.dK kvs) ∧ ∀ od, Q x (upd H1 d (.frz od (.dK kvs)))) := by
  refine ⟨fun pins s σ H Q I q => ?_⟩
  refine thn (h.run pins s σ H _ I q) fun v s1 ⟨x, H1, I1, r1, q1⟩ => ?_
  rcases q1 with ⟨o, kvs, d, e1, _, q1⟩ | ⟨d, kvs, e1, hd, q1⟩
  · exact ⟨x, H1, I1, r1, q1⟩
  · obtain ⟨od, I2⟩ := I1.lock hd trivial
    exact ⟨x, _, I2, r1, q1 od⟩
def itemsR (d : D) (R : List D → Prop) : Prop := match d with
  | .lst l => l.length ≤ sizeLine → R l
  | .tup l => l.length ≤ sizeLine → R l
  | .str z => z.cps.toList.length ≤ sizeLine ∧ R (z.cps.toList.map fun c => D.str ⟨#[c]⟩)
  | .dic ks _ => ks.length ≤ sizeLine ∧ R ks
  | _ => False
/-- over a list, a tuple, a text, a dict's keys -/
def aiSeq (a : AE') : AI' := fun env R => aFrz a env fun r env1 => match r with
  | .dat d => itemsR d fun l => R l env1
  | _ => False
section
variable {K : Fg} {H : Hp} {P : Ad}
theorem walk_lst {a : Addr} {us : List V} {ds : List D} (h : SL H P a us) (r : RDs K H P us ds) : WalkOk K (Itl K a) H P ds := by
  intro P0 P2 H2 s g _
  have h2 := g.sl s h
  have r2 := g.rds s r
  refine ⟨fun i hi => ?_, us, h2.sq, by rw [r.length]; exact Nat.le_refl _⟩
  have e : ds[i]? = some ds[i] := by simp [hi]
  obtain ⟨v, hv, rv⟩ := r2.get e
  refine ⟨⟨us, v, h2.sq, hv⟩, fun x H3 y => ?_⟩
  obtain ⟨e3, y⟩ := y
  subst e3
  have hx := y us h2.sq
  rw [hv] at hx; cases hx
  exact ⟨Same.refl _, _, e, rv⟩
theorem walk_tup {a : Addr} {us : List V} {ds : List D} (h : ST K H P a us) (r : RDs K H P us ds) : WalkOk K (Itt K a) H P ds := by
  intro P0 P2 H2 s g _
  have h2 := g.st s h
  have r2 := g.rds s r
  refine ⟨fun i hi => ?_, us, h2.sq, by rw [r.length]; exact Nat.le_refl _⟩
  have e : ds[i]? = some ds[i] := by simp [hi]
  obtain ⟨v, hv, rv⟩ := r2.get e
  refine ⟨⟨us, v, h2.sq, hv⟩, fun x H3 y => ?_⟩
  obtain ⟨e3, y⟩ := y
  subst e3
  have hx := y us h2.sq
  rw [hv] at hx; cases hx
  exact ⟨Same.refl _, _, e, rv⟩
theorem walk_str (z : Str) : WalkOk K (Its z) H P (z.cps.toList.map fun c => D.str ⟨#[c]⟩) := by
  intro P0 P2 H2 s g _
  refine ⟨fun i hi => ?_, by show z.cps.size ≤ _; simp⟩
  have hi' : i < z.cps.size := by simpa using hi
  refine ⟨hi', fun x H3 y => ?_⟩
  obtain ⟨e3, c, hc, rfl⟩ := y
  subst e3
  refine ⟨Same.refl _, .str ⟨#[c]⟩, ?_, .str _⟩
  rw [List.getElem?_map, Array.getElem?_toList, hc]
  rfl
theorem walk_keys {d : Addr} {od : Obj} {kvs : List (Key × V)} (h : H d = some (.frz od (.dK kvs))) (n : ¬ P d) : WalkOk K (Itk d od kvs) H P (kvs.map fun kv => kD kv.1) := by
  intro P0 P2 H2 s g _
  have h2 := (g.at s h n rfl).1
  refine ⟨fun i hi => ?_, h2, by rw [List.length_map]; exact Nat.le_refl _⟩
  have hi' : i < kvs.length := by simpa using hi
  refine ⟨⟨h2, hi'⟩, fun x H3 y => ?_⟩
  obtain ⟨e3, k, v, hk, e⟩ := y
  subst e3
  refine ⟨Same.refl _, kD k, by rw [List.getElem?_map, hk]; rfl, ?_⟩
  subst e
  cases k with
  | inl i => exact .int i
  | inr z => exact .str z
end
/-- a dict that is data is locked -/
theorem Rep.lock {K : Fg} {Y : Ad} {H : Hp} {σ : L2.St} {env : AEnv} {d : Addr} {kvs : List (Key × V)} {od : Obj} (R : Rep K Y H σ env) (h : H d = some (.dK kvs)) (n : ¬ Pw Y σ env d) :
    Rep K Y (upd H d (.frz od (.dK kvs))) σ env ∧ Adv σ Y env H Y env (upd H d (.frz od (.dK kvs))) := by
  have kp : ∀ a u, H a = some u → KeepO u (upd H d (.frz od (.dK kvs))) a := fun a u q => by
    by_cases e : a = d
    · subst e
      rw [h] at q; cases q
      exact .inr ⟨od, rfl, upd_same⟩
    · exact .inl (by rw [upd_ne e]; exact q)
  have g : Go (fun _ => False) (Pw Y σ env) (Pw Y σ env) H (upd H d (.frz od (.dK kvs))) := ⟨fun a u q _ => kp a u q, fun a z => .inl z⟩
  refine ⟨⟨R.len, fun i e q => ?_, fun i e q => ?_, fun a z => ?_, R.inj⟩, ⟨fun a u q _ => kp a u q, fun a z => ?_, fun _ z => z, fun _ z => .inl z, fun i => Sh.refl _, fun a u q => (kp a u q).some⟩⟩
  · obtain ⟨v, w, r⟩ := R.dat i e q
    exact ⟨v, w, r.go g fun _ z => z.elim⟩
  · obtain ⟨p, w, np, r⟩ := R.own i e q
    exact ⟨p, w, np, r.go g (fun _ z => z.elim) (upd_ne fun e' => n (by subst e'; exact .inr ⟨i, e, q, w⟩))⟩
  · obtain ⟨u, q, m⟩ := R.yim a z
    exact ⟨u, (upd_ne fun e' => n (by subst e'; exact .inl z)).trans q, m⟩
  · exact upd_ne fun e' => n (by subst e'; exact .inl z)
/-- one with tuples as keys -/
theorem Rep.lockT {K : Fg} {Y : Ad} {H : Hp} {σ : L2.St} {env : AEnv} {d : Addr} {kvs : List (List Key × V)} {od : Obj} (R : Rep K Y H σ env) (h : H d = some (.dT kvs)) (n : ¬ Pw Y σ env d) :
    Rep K Y (upd H d (.frz od (.dT kvs))) σ env ∧ Adv σ Y env H Y env (upd H d (.frz od (.dT kvs))) := by
  have kp : ∀ a u, H a = some u → KeepO u (upd H d (.frz od (.dT kvs))) a := fun a u q => by
    by_cases e : a = d
    · subst e
      rw [h] at q; cases q
      exact .inr ⟨od, rfl, upd_same⟩
    · exact .inl (by rw [upd_ne e]; exact q)
  have g : Go (fun _ => False) (Pw Y σ env) (Pw Y σ env) H (upd H d (.frz od (.dT kvs))) := ⟨fun a u q _ => kp a u q, fun a z => .inl z⟩
  refine ⟨⟨R.len, fun i e q => ?_, fun i e q => ?_, fun a z => ?_, R.inj⟩, ⟨fun a u q _ => kp a u q, fun a z => ?_, fun _ z => z, fun _ z => .inl z, fun i => Sh.refl _, fun a u q => (kp a u q).some⟩⟩
  · obtain ⟨v, w, r⟩ := R.dat i e q
    exact ⟨v, w, r.go g fun _ z => z.elim⟩
  · obtain ⟨p, w, np, r⟩ := R.own i e q
    exact ⟨p, w, np, r.go g (fun _ z => z.elim) (upd_ne fun e' => n (by subst e'; exact .inr ⟨i, e, q, w⟩))⟩
  · obtain ⟨u, q, m⟩ := R.yim a z
    exact ⟨u, (upd_ne fun e' => n (by subst e'; exact .inl z)).trans q, m⟩
  · exact upd_ne fun e' => n (by subst e'; exact .inl z)
theorem RDs.keysOf {K : Fg} {H : Hp} {P : Ad} : ∀ ks : List Key, RDs K H P (ks.map kV) (ks.map kD)
  | [] => .nil
  | .inl i :: ks => .cons (.int i) (RDs.keysOf ks)
  | .inr x :: ks => .cons (.str x) (RDs.keysOf ks)
theorem walk_keysT {K : Fg} {H : Hp} {P : Ad} {d : Addr} {od : Obj} {kvs : List (List Key × V)} (h : H d = some (.frz od (.dT kvs))) (n : ¬ P d) (sz : ∀ kv ∈ kvs, kv.1.length ≤ sizeLine) : WalkOk K (Itkt d od kvs) H P (kvs.map fun kv => D.dit (kv.1.map kD) (.non :: kv.1.map kD)) := by
  intro P0 P2 H2 s g yi
  have h2 := (g.at s h n rfl).1
  refine ⟨fun i hi => ?_, h2, by rw [List.length_map]; exact Nat.le_refl _⟩
  have hi' : i < kvs.length := by simpa using hi
  refine ⟨⟨h2, hi'⟩, fun x H3 y => ?_⟩
  obtain ⟨e3, k, v, q, hk, e, hq⟩ := y
  subst e3
  refine ⟨Same.refl _, D.dit (k.map kD) (.non :: k.map kD), by rw [List.getElem?_map, hk]; rfl, ?_⟩
  subst e
  refine .hup hq (fun z => ?_) (by rw [List.length_map]; exact sz _ (List.mem_of_getElem? hk)) (RDs.keysOf k)
  obtain ⟨o, w, m⟩ := yi q z
  rw [hq] at w
  cases w
  exact m
section
variable {X : Cx} {tg e : Expr}
/-- a value that comes is walked: a list, a tuple, a text, a locked dict -/
inductive Seq4 (X : Cx) (H : Hp) : V → It → Prop
  | lst {a : Addr} {us : List V} : SqL X.K H a us → Seq4 X H (.ref a) (Itl X.K a)
  | tup {a : Addr} {us : List V} : SqT X.K H a us → Seq4 X H (.ref a) (Itt X.K a)
  | str (z : Str) : Seq4 X H (.str z) (Its z)
  | dic {a : Addr} {o : Obj} {kvs : List (Key × V)} : H a = some (.frz o (.dK kvs)) → Seq4 X H (.ref a) (Itk a o kvs)
theorem seq4_iter {pins : List (Addr × Obj)} {s : Shared} {σ : L2.St} {H : Hp} {v : V} {u : Value} {J : It} {R : It → Hp → Prop} {E : Value → Shared → Prop} (I : Inv X pins σ H s) (r : RelV v u) (q : Seq4 X H v J) (k : R J H) :
    wpAny (model X.prog X.w) X.A (pyIter u) (PIE X pins σ tg R) E s := by
  cases q with
  | lst h =>
    cases r
    obtain ⟨its, rv, pl, _⟩ := I.list h
    exact wpAny_pyIter_list pl.isList (pi_one I _ (turn_list _ _) ⟨_, Heap.get?_push_size _ rfl, rfl, rfl⟩ k)
  | tup h =>
    cases r
    obtain ⟨its, rv, pl, _⟩ := I.tuple h
    exact wpAny_pyIter_tuple (show s.heap.IsTuple _ its.toArray from pl) (pi_one I _ (turn_tuple _ _) ⟨_, Heap.get?_push_size _ rfl, rfl, rfl⟩ k)
  | str z =>
    obtain ⟨t, rfl⟩ := r
    by_cases asc : z.cps.all (· < 128) = true
    · exact wpAny_pyIter_ascii asc (pi_one I _ (turn_str _ z t _ (.inl rfl)) ⟨_, Heap.get?_push_size _ rfl, rfl, rfl⟩ k)
    · exact wpAny_pyIter_wide (by simpa using asc) (pi_one I _ (turn_str _ z t _ (.inr rfl)) ⟨_, Heap.get?_push_size _ rfl, rfl, rfl⟩ k)
  | dic h =>
    cases r
    obtain ⟨f1, f2, f3, es, ep, vs, f4, f5, f6, f7⟩ := I.frzK h
    refine iter_keys f1 f2 f3 f4 (pi_one I _ (turn_keys _ f4) ⟨_, Heap.get?_push_size _ rfl, rfl, ?_⟩ k)
    rw [f5] <;> rfl
def iSeq4 (X : Cx) (te : TE) : TI := fun σ H R => te σ H fun v H1 => ∃ J H2, ((H2 = H1 ∧ Seq4 X H1 v J ∧ R J H1) ∨ ∃ d kvs, v = .ref d ∧ H1 d = some (.dK kvs) ∧ ∀ od, R (Itk d od kvs) (upd H1 d (.frz od (.dK kvs))))
theorem pi_seq4 {te : TE} (h : PE X e te) : PI X tg e (iSeq4 X te) := by
  refine ⟨fun pins s σ H R I q => ?_⟩
  refine thn (h.run pins s σ H _ I q) fun v s1 ⟨x, H1, I1, r1, J, H2, q1⟩ => ?_
  rcases q1 with ⟨_, sq, k⟩ | ⟨d, kvs, e1, hd, k⟩
  · exact seq4_iter I1 r1 sq k
  · subst e1
    obtain ⟨od, I2⟩ := I1.lock hd trivial
    exact seq4_iter I2 r1 (.dic upd_same) (k od)
theorem ai_seq {a : AE'} (h : AE X e a) : AI X tg e (aiSeq a) := by
  obtain ⟨t, p, s⟩ := h.frz
  refine ⟨_, pi_seq4 p, fun Y H σ env R Q rep q k => ?_⟩
  refine s Y H σ env _ _ rep q fun v H1 env1 r1 Y1 rep1 g1 ok1 q1 => ?_
  match r1, ok1, q1 with
  | .dat d, ok1, q1 =>
    obtain ⟨ey, rd⟩ := ok1
    subst ey
    match d, rd, q1 with
    | .lst l, rd, q1 =>
      cases rd with
      | lst sl r => exact ⟨_, H1, .inl ⟨rfl, .lst sl.sq, k _ H1 env1 l rep1 g1 (walk_lst sl r) (q1 (by rw [← r.length]; exact sl.2.2))⟩⟩
    | .tup l, rd, q1 =>
      cases rd with
      | tup sl r => exact ⟨_, H1, .inl ⟨rfl, .tup sl.sq, k _ H1 env1 l rep1 g1 (walk_tup sl r) (q1 (by rw [← r.length]; exact sl.len))⟩⟩
    | .str z, rd, q1 =>
      cases rd
      exact ⟨_, H1, .inl ⟨rfl, .str z, k _ H1 env1 _ rep1 g1 (walk_str z) q1.2⟩⟩
    | .dic ks vs, rd, q1 =>
      cases rd with
      | dK hr n e1 r =>
        subst e1
        rcases hr with hr | ⟨o, hr⟩
        · refine ⟨Its ⟨#[]⟩, H1, .inr ⟨_, _, rfl, hr, fun od => ?_⟩⟩
          obtain ⟨rep2, g2⟩ := rep1.lock (od := od) hr n
          exact k _ _ env1 _ rep2 (g1.trans g2) (walk_keys upd_same n) q1.2
        · exact ⟨_, H1, .inl ⟨rfl, .dic hr, k _ H1 env1 _ rep1 g1 (walk_keys hr n) q1.2⟩⟩
end

/-! ### ranges -/
def rangeD (lo : Int) (n : Nat) : List D := (List.range n).map fun (i : Nat) => D.int (lo + (i : Int))
theorem walk_range {K : Fg} {H : Hp} {P : Ad} (lo : Int) (n : Nat) : WalkOk K (Itr lo n) H P (rangeD lo n) := by
  intro P0 P2 H2 s g _
  refine ⟨fun i hi => ?_, by show n ≤ _; simp [rangeD]⟩
  have hi' : i < n := by simpa [rangeD] using hi
  refine ⟨hi', fun x H3 y => ?_⟩
  obtain ⟨e3, rfl⟩ := y
  subst e3
  exact ⟨Same.refl _, .int (lo + i), by simp [rangeD, hi'], .int _⟩
def small62 (j : Int) : Prop := -(2 ^ 62) ≤ j ∧ j < 2 ^ 62
def aiRange1 (t : AA') : AI' := fun env R => t env fun rs env1 => match rs with
  | [.dat (.int j)] => small62 j ∧ R (rangeD 0 j.toNat) env1
  | _ => False
def aiRange2 (t : AA') : AI' := fun env R => t env fun rs env1 => match rs with
  | [.dat (.int i), .dat (.int j)] => small62 i ∧ small62 j ∧ R (rangeD i (j - i).toNat) env1
  | _ => False
section
variable {X : Cx} {tg : Expr}
theorem ai_range1 {a : Expr} {t : AA'} {p pos : Pos} (hg : Gl X "range") (hm : X.mg "range" = none) (ha : AA X [a] t) (hs : starEach [a] X.env = [(false, eval a X.env)] := by rfl) : AI X tg (.Call (.Name "range" p) [a] [] pos) (aiRange1 t) := by
  obtain ⟨u, pa, s⟩ := ha
  refine ⟨_, pi_range1 hg hm pa hs, fun Y H σ env R Q rep q k => ?_⟩
  refine s Y H σ env _ _ rep q fun vs H1 env1 rs rep1 g1 ok q1 => ?_
  match rs, ok, q1 with
  | [.dat (.int j)], .cons h .nil, q1 =>
    obtain ⟨_, rd⟩ := h
    cases rd
    exact ⟨j, rfl, q1.1.1, q1.1.2, k _ H1 env1 _ rep1 g1 (walk_range 0 _) q1.2⟩
theorem ai_range2 {a b : Expr} {t : AA'} {p pos : Pos} (hg : Gl X "range") (hm : X.mg "range" = none) (ha : AA X [a, b] t) (hs : starEach [a, b] X.env = [(false, eval a X.env), (false, eval b X.env)] := by rfl) (hs2 : starEach [b] X.env = [(false, eval b X.env)] := by rfl) : AI X tg (.Call (.Name "range" p) [a, b] [] pos) (aiRange2 t) := by
  obtain ⟨u, pa, s⟩ := ha
  refine ⟨_, pi_range2 hg hm pa hs hs2, fun Y H σ env R Q rep q k => ?_⟩
  refine s Y H σ env _ _ rep q fun vs H1 env1 rs rep1 g1 ok q1 => ?_
  match rs, ok, q1 with
  | [.dat (.int i), .dat (.int j)], .cons h (.cons h2 .nil), q1 =>
    obtain ⟨_, rd⟩ := h
    obtain ⟨_, rd2⟩ := h2
    cases rd
    cases rd2
    exact ⟨i, j, rfl, ⟨q1.1.1, q1.1.2, q1.2.1.1, q1.2.1.2⟩, k _ H1 env1 _ rep1 g1 (walk_range i _) q1.2.2⟩
end

/-! ### for -/
def forL (g : AG') (b : AS') (A : AEnds) : List D → AEnv → Prop
  | [], env => A.nx env
  | d :: ds, env => g d env fun env1 => b { nx := forL g b A ds, ct := forL g b A ds, bk := A.nx, rt := A.rt } env1
def aFor (ai : AI') (g : AG') (b : AS') : AS' := fun A env => ai env fun items env1 => forL g b A items env1
theorem as_for {X : Cx} {B : Nat → Bool} {tg iter : Expr} {body : List Stmt} {ai : AI'} {g : AG'} {b : AS'} {pos : Pos} (hp : PassesOwn (model X.prog X.w) X.A X.env X.xe) (hc : X.calm = true) (hi : AI X tg iter ai) (hg : AG X B tg g) (hb : ASs X B body b)
    (hs : ∀ x, foldedSetIterable iter X.env x = pure x := by intro _; rfl) : AS X B (.For tg iter body [] pos) (aFor ai g b) := by
  obtain ⟨wi, pI, sI⟩ := hi
  obtain ⟨tg', pG, sG⟩ := hg
  obtain ⟨tb, pB, sB⟩ := hb
  refine ⟨_, ps_for hp hc pI pG pB hs, fun Y H0 σ0 env0 D A rep0 q k => ?_⟩
  refine sI Y H0 σ0 env0 _ _ rep0 q fun J H1 env1 items rep1 g1 walk q1 => ?_
  -- the base of the loop: (σ0, env1, H1)
  have kb := k.after rep0 g1.toS
  refine ⟨fun i m σ H => ∃ env, m = items.length - i ∧ i ≤ items.length ∧ Rep X.K Y H σ env ∧ AdvS B σ0 Y env1 H1 Y σ env H ∧ forL g b A (items.drop i) env, ⟨_, env1, rfl, Nat.zero_le _, rep1, AdvS.refl, q1⟩, ?_⟩
  rintro i m σ H ⟨env, rfl, hi, rep, adv, q⟩
  have wk := walk (Own σ0 env1) (Pw Y σ env) H (fun a z => .inr z) (adv.go rep1) fun a z => by
    rcases z with z | ⟨j, d, e, w⟩
    · exact rep.yim a z
    · obtain ⟨p, hp, _, r⟩ := rep.own j d e
      rw [w] at hp; cases hp
      exact r.some
  by_cases hlt : i < items.length
  · obtain ⟨hgo, hy⟩ := wk.1 i hlt
    refine .inr ⟨hgo, fun σ' H' => ∃ env', Rep X.K Y H' σ' env' ∧ AdvS B σ0 Y env1 H1 Y σ' env' H' ∧ forL g b A (items.drop (i + 1)) env', fun σ' H' ⟨env', r', a', q'⟩ => ⟨_, by omega, env', rfl, hlt, r', a', q'⟩, fun x H3 y => ?_⟩
    obtain ⟨same, d, hd, rd⟩ := hy x H3 y
    have e : items.drop i = d :: items.drop (i + 1) := by
      rw [List.drop_eq_getElem_cons hlt]
      rw [List.getElem?_eq_getElem hlt] at hd
      rw [Option.some.inj hd]
    rw [e] at q
    have rep3 : Rep X.K Y H3 σ env := rep.same same
    have adv3 : AdvS B σ0 Y env1 H1 Y σ env H3 := adv.trans rep1 (Adv.same rep same).toS
    refine sG Y H3 σ env x d _ _ rep3 rd q fun H4 σ4 env4 rep4 g4 q4 => ?_
    have adv4 := adv3.trans rep1 g4
    refine sB Y H4 σ4 env4 _ _ rep4 q4 ⟨fun H5 σ5 env5 r5 a5 q5 => ⟨env5, r5, adv4.trans rep1 a5, q5⟩, fun v H5 σ5 env5 r Y5 r5 a5 ok5 q5 => kb.rt v H5 σ5 env5 r Y5 r5 (adv4.trans rep1 a5) ok5 q5,
      fun H5 σ5 env5 r5 a5 q5 => kb.nx H5 σ5 env5 r5 (adv4.trans rep1 a5) q5, fun H5 σ5 env5 r5 a5 q5 => ⟨env5, r5, adv4.trans rep1 a5, q5⟩⟩
  · have e : i = items.length := by omega
    subst e
    rw [List.drop_length] at q
    exact .inl ⟨wk.2, kb.nx H σ env rep adv q⟩
end AL
namespace AL
open PySem L2
/-! AL10: comprehensions. -/
def wipeE (env : AEnv) : List Nat → AEnv
  | [] => env
  | v :: vs => (wipeE env vs).set v .un
theorem wipeE_len (env : AEnv) : ∀ vs : List Nat, (wipeE env vs).length = env.length
  | [] => rfl
  | v :: vs => by unfold wipeE; rw [List.length_set, wipeE_len env vs]
theorem wipeE_out {env : AEnv} {i : Nat} : ∀ {vs : List Nat}, i ∉ vs → (wipeE env vs)[i]? = env[i]?
  | [], _ => rfl
  | v :: vs, h => by
    unfold wipeE
    rw [List.getElem?_set_ne (fun e => h (by simp [e])), wipeE_out (fun z => h (by simp [z]))]
theorem wipeE_in {env : AEnv} {i : Nat} : ∀ {vs : List Nat} {a : AV}, i ∈ vs → (wipeE env vs)[i]? = some a → a = .un
  | v :: vs, a, h, e => by
    unfold wipeE at e
    by_cases z : v = i
    · subst z
      by_cases hl : v < (wipeE env vs).length
      · rw [List.getElem?_set_self hl] at e
        exact (Option.some.inj e).symm
      · rw [List.getElem?_eq_none (by rw [List.length_set]; omega)] at e; cases e
    · rw [List.getElem?_set_ne z] at e
      exact wipeE_in (by rcases List.mem_cons.mp h with y | y; exact absurd y.symm z; exact y) e
theorem wipe_out {σ : L2.St} {i : Nat} : ∀ {vs : List Nat}, i ∉ vs → (wipe σ vs)[i]? = σ[i]?
  | [], _ => rfl
  | v :: vs, h => by
    unfold wipe
    rw [List.getElem?_set_ne (fun e => h (by simp [e])), wipe_out (fun z => h (by simp [z]))]
theorem wipe_in {σ : L2.St} {i : Nat} : ∀ {vs : List Nat}, i ∈ vs → (wipe σ vs)[i]? = if i < σ.length then some none else none
  | v :: vs, h => by
    unfold wipe
    by_cases z : v = i
    · subst z
      by_cases hl : v < σ.length
      · rw [if_pos hl, List.getElem?_set_self (by rw [wipe_length]; exact hl)]
      · rw [if_neg hl, List.getElem?_eq_none (by rw [List.length_set, wipe_length]; omega)]
    · rw [List.getElem?_set_ne z]
      exact wipe_in (by rcases List.mem_cons.mp h with y | y; exact absurd y.symm z; exact y)
theorem wipe_eq {σ σ2 : L2.St} {vs : List Nat} (hl : σ2.length = σ.length) (h : ∀ i, i ∉ vs → σ2[i]? = σ[i]?) : wipe σ2 vs = wipe σ vs := by
  apply List.ext_getElem?
  intro i
  by_cases m : i ∈ vs
  · rw [wipe_in m, wipe_in m, hl]
  · rw [wipe_out m, wipe_out m, h i m]
theorem wipe_wipe (σ : L2.St) (vs : List Nat) : wipe (wipe σ vs) vs = wipe σ vs := wipe_eq (wipe_length σ vs) fun i h => wipe_out h
def noOwn (env : AEnv) (vs : List Nat) : Prop := ∀ v ∈ vs, ∀ d, env[v]? ≠ some (.own d)
/-- a target that stores at these slots alone -/
def GLoc (vs : List Nat) (g : AG') : Prop := ∀ d env N, noOwn env vs → g d env N → g d env (fun env' => N env' ∧ (∀ i, i ∉ vs → env'[i]? = env[i]?) ∧ noOwn env' vs)
def GLocs (vs : List Nat) (g : AGs') : Prop := ∀ d env N, noOwn env vs → g d env N → g d env (fun env' => N env' ∧ (∀ i, i ∉ vs → env'[i]? = env[i]?) ∧ noOwn env' vs)
theorem gloc_name {vs : List Nat} {j : Nat} (h : j ∈ vs := by decide) : GLoc vs (agName j) := fun d env N no q => ⟨q, fun i hi => List.getElem?_set_ne (fun (e : j = i) => hi (by rw [← e]; exact h)), fun v hv d' => by
  by_cases e : j = v
  · subst e
    by_cases hl : j < env.length
    · rw [List.getElem?_set_self hl]
      intro z; cases z
    · rw [List.getElem?_eq_none (by rw [List.length_set]; omega)]
      intro z; cases z
  · rw [List.getElem?_set_ne e]
    exact no v hv d'⟩
theorem gloc_nil {vs : List Nat} : GLocs vs agNil := fun d env N no q => ⟨q.1, q.2, fun _ _ => rfl, no⟩
theorem AGmono {X : Cx} {B : Nat → Bool} {tg : Expr} {a : AG'} (h : AG X B tg a) : True := trivial
/-- targets are monotone -/
def GMono (g : AG') : Prop := ∀ d env (N N' : AEnv → Prop), (∀ e, N e → N' e) → g d env N → g d env N'
def GMonos (g : AGs') : Prop := ∀ d env (N N' : AEnv → Prop), (∀ e, N e → N' e) → g d env N → g d env N'
theorem gmono_name (j : Nat) : GMono (agName j) := fun d env N N' h q => h _ q
theorem gmono_nil : GMonos agNil := fun d env N N' h q => ⟨q.1, h _ q.2⟩
theorem gmono_cons {a : AG'} {b : AGs'} (ha : GMono a) (hb : GMonos b) : GMonos (agCons a b) := fun d env N N' h q => by
  match d, q with
  | d :: r, q => exact ha d env _ _ (fun e q' => hb r e _ _ h q') q
theorem gmono_tup {n : Nat} {a : AGs'} (ha : GMonos a) : GMono (agTup n a) := fun d env N N' h q => by
  match d, q with
  | .tup ds, q => exact ⟨q.1, ha ds env _ _ h q.2⟩
  | .lst ds, q => exact ⟨q.1, ha ds env _ _ h q.2⟩
theorem gloc_cons {vs : List Nat} {a : AG'} {b : AGs'} (ha : GLoc vs a) (hb : GLocs vs b) (ma : GMono a) (mb : GMonos b) : GLocs vs (agCons a b) := fun d env N no q => by
  match d, q with
  | d :: r, q =>
    refine ma d env _ _ (fun e q' => ?_) (ha d env _ no q)
    exact mb r e _ _ (fun e2 q2 => ⟨q2.1, fun i hi => (q2.2.1 i hi).trans (q'.2.1 i hi), q2.2.2⟩) (hb r e _ q'.2.2 q'.1)
theorem gloc_tup {vs : List Nat} {n : Nat} {a : AGs'} (h : GLocs vs a) : GLoc vs (agTup n a) := fun d env N no q => by
  match d, q with
  | .tup ds, q => exact ⟨q.1, h ds env N no q.2⟩
  | .lst ds, q => exact ⟨q.1, h ds env N no q.2⟩
/-! ### tests of a clause -/
def atYes : AT' := fun env R => R true env
def ATs (X : Cx) (ifs : List Expr) (a : AT') : Prop := ∃ t, PTs X ifs t ∧ SndT X.K t a
theorem ats_nil {X : Cx} : ATs X [] atYes := ⟨_, pts_nil, fun Y H σ env R Q rep q k => k true H env rep Adv.refl q⟩
theorem ats_one {X : Cx} {c : Expr} {t : AT'} (h : AT X c t) : ATs X [c] t := let ⟨u, p, s⟩ := h; ⟨u, pts_one p, s⟩
/-! ### the reading -/
def lcL (g : AG') (t : AT') (e : AE') (vs : List Nat) : List D → (List D → AEnv → Prop) → AEnv → Prop
  | [], R, env => R [] env
  | d :: ds, R, env => g d env fun env1 => t env1 fun b env2 => brP b (aFrz e env2 (fun r env3 => match r with
      | .dat z => lcL g t e vs ds (fun zs env4 => R (z :: zs) env4) (wipeE env3 vs)
      | _ => False)) (lcL g t e vs ds R (wipeE env2 vs))
/-- the block's names stand as they stood ahead -/
def restoreE (env1 : AEnv) (env : AEnv) : List Nat → AEnv
  | [] => env
  | v :: vs => match env1[v]? with
    | some a => (restoreE env1 env vs).set v a
    | none => restoreE env1 env vs
def aLc (ai : AI') (g : AG') (t : AT') (e : AE') (vs : List Nat) : AE' := fun env R => ai env fun items env1 => noOwn env1 vs ∧ items.length ≤ sizeLine ∧ lcL g t e vs items (fun zs env2 => R (.new (.lst zs)) (restoreE env1 env2 vs)) (wipeE env1 vs)
theorem restoreE_len (env1 env : AEnv) : ∀ vs : List Nat, (restoreE env1 env vs).length = env.length
  | [] => rfl
  | v :: vs => by
    unfold restoreE
    split
    · rw [List.length_set, restoreE_len env1 env vs]
    · exact restoreE_len env1 env vs
theorem restoreE_out {env1 env : AEnv} {i : Nat} : ∀ {vs : List Nat}, i ∉ vs → (restoreE env1 env vs)[i]? = env[i]?
  | [], _ => rfl
  | v :: vs, h => by
    have hv : v ≠ i := fun e => h (by simp [e])
    have hi : i ∉ vs := fun z => h (by simp [z])
    unfold restoreE
    split
    · rw [List.getElem?_set_ne hv, restoreE_out hi]
    · exact restoreE_out hi
theorem restoreE_in {env1 env : AEnv} (hl : env.length = env1.length) {i : Nat} : ∀ {vs : List Nat}, i ∈ vs → (restoreE env1 env vs)[i]? = env1[i]?
  | v :: vs, h => by
    unfold restoreE
    by_cases z : v = i
    · subst z
      cases w : env1[v]? with
      | none =>
        simp only
        have : env1.length ≤ v := List.getElem?_eq_none_iff.mp w
        exact List.getElem?_eq_none (by rw [restoreE_len]; omega)
      | some a =>
        simp only
        have : v < env1.length := (List.getElem?_eq_some_iff.mp w).1
        rw [List.getElem?_set_self (by rw [restoreE_len]; omega)]
    · have hi : i ∈ vs := by
        rcases List.mem_cons.mp h with y | y
        · exact absurd y.symm z
        · exact y
      cases w : env1[v]? with
      | none => exact restoreE_in hl hi
      | some a =>
        simp only
        rw [List.getElem?_set_ne z]
        exact restoreE_in hl hi
section
variable {K : Fg} {B : Nat → Bool} {σ σ2 : L2.St} {Y : Ad} {env : AEnv} {H : Hp} {vs : List Nat}
/-- some slots forgotten -/
theorem Rep.wipe (R : Rep K Y H σ2 env) (hl : σ.length = σ2.length) (h : ∀ i, i ∉ vs → σ[i]? = σ2[i]?) : Rep K Y H σ (wipeE env vs) ∧ (∀ a, Own σ (wipeE env vs) a → Own σ2 env a) := by
  have back : ∀ (j : Nat) (e : AV), (wipeE env vs)[j]? = some e → e ≠ .un → j ∉ vs ∧ env[j]? = some e := fun j e q n => by
    by_cases m : j ∈ vs
    · exact absurd (wipeE_in m q) n
    · exact ⟨m, by rw [wipeE_out m] at q; exact q⟩
  have ow : ∀ a, Own σ (wipeE env vs) a → Own σ2 env a := fun a ⟨j, e, q, w⟩ => by
    obtain ⟨m, q'⟩ := back j _ q (fun z => by cases z)
    exact ⟨j, e, q', by rw [← h j m]; exact w⟩
  have pw : ∀ a, Pw Y σ (wipeE env vs) a → Pw Y σ2 env a := fun a z => z.imp id (ow a)
  refine ⟨⟨by rw [wipeE_len, hl]; exact R.len, fun j e q => ?_, fun j e q => ?_, R.yim, fun j k e f a q1 q2 w1 w2 => ?_⟩, ow⟩
  · obtain ⟨m, q'⟩ := back j _ q (fun z => by cases z)
    obtain ⟨v, w, r⟩ := R.dat j e q'
    exact ⟨v, by rw [h j m]; exact w, r.less pw⟩
  · obtain ⟨m, q'⟩ := back j _ q (fun z => by cases z)
    obtain ⟨p, w, n, r⟩ := R.own j e q'
    exact ⟨p, by rw [h j m]; exact w, n, r.less pw⟩
  · obtain ⟨m1, q1'⟩ := back j _ q1 (fun z => by cases z)
    obtain ⟨m2, q2'⟩ := back k _ q2 (fun z => by cases z)
    rw [h j m1] at w1
    rw [h k m2] at w2
    exact R.inj j k e f a q1' q2' w1 w2
/-- a borrowed thing of the caller's changes: nothing here speaks of it -/
theorem Rep.updY {p : Addr} {o : HO} (R : Rep K Y H σ env) (hp : Y p) (mo : Mut (some o) := by trivial) : Rep K Y (upd H p o) σ env := by
  have g : Go (fun a => a = p) (Pw Y σ env) (Pw Y σ env) H (upd H p o) := ⟨fun a u q n => .inl (by rw [upd_ne n]; exact q), fun a z => .inl z⟩
  have sub : ∀ a, a = p → Pw Y σ env a := fun a e => by subst e; exact .inl hp
  refine ⟨R.len, fun j e q => ?_, fun j e q => ?_, fun a z => ?_, R.inj⟩
  · obtain ⟨v, w, r⟩ := R.dat j e q
    exact ⟨v, w, r.go g sub⟩
  · obtain ⟨p', w, n, r⟩ := R.own j e q
    exact ⟨p', w, n, r.go g sub (upd_ne fun e' => n (by rw [e']; exact hp))⟩
  · by_cases e : a = p
    · subst e; exact ⟨o, upd_same, mo⟩
    · obtain ⟨u, q, m⟩ := R.yim a z
      exact ⟨u, by rw [upd_ne e]; exact q, m⟩
end

/-- the relation to the base of a block, which the new list does not touch -/
structure Bk (σ : L2.St) (Y : Ad) (env1 : AEnv) (H1 : Hp) (σw : L2.St) (vs : List Nat) (env : AEnv) (H : Hp) : Prop where
  keep : ∀ a o, H1 a = some o → ¬ Own σ env1 a → KeepO o H a
  ky : ∀ a, Y a → H a = H1 a
  ow : ∀ a, Own σw env a → Own σ env1 a
  live : ∀ a o, H1 a = some o → ∃ o', H a = some o'
  sh : ∀ i, i ∉ vs → Sh env1[i]? env[i]?
section
variable {K : Fg} {σ σw σ2 : L2.St} {Y : Ad} {env1 env env2 : AEnv} {H1 H H2 : Hp} {vs : List Nat} {L : Addr}
theorem Bk.step {B : Nat → Bool} (b : Bk σ Y env1 H1 σw vs env H) (R : Rep K (fun a => Y a ∨ a = L) H σw env) (g : AdvS B σw (fun a => Y a ∨ a = L) env H (fun a => Y a ∨ a = L) σ2 env2 H2) (ow2 : ∀ a, Own σ2 env2 a → Own σw env a) (sh2 : ∀ i, i ∉ vs → Sh env[i]? env2[i]?) : Bk σ Y env1 H1 σ2 vs env2 H2 := by
  refine ⟨fun a o h n => (b.keep a o h n).trans fun u q => g.keep a u q fun z => n (b.ow a z), fun a z => (g.ky a (.inl z)).trans (b.ky a z), fun a z => b.ow a (ow2 a z), fun a o h => ?_, fun i hi => (b.sh i hi).trans (sh2 i hi)⟩
  obtain ⟨o', w⟩ := b.live a o h
  exact g.live a o' w
theorem Bk.upd {o : HO} (b : Bk σ Y env1 H1 σw vs env H) (n : H1 L = none) (R1 : Rep K Y H1 σ env1) : Bk σ Y env1 H1 σw vs env (upd H L o) := by
  have ne : ∀ a u, H1 a = some u → a ≠ L := fun a u q e => by subst e; rw [n] at q; cases q
  refine ⟨fun a u h w => ?_, fun a z => ?_, b.ow, fun a u h => ?_, b.sh⟩
  · rcases b.keep a u h w with q | ⟨od, d, q⟩
    · exact .inl (by rw [upd_ne (ne a u h)]; exact q)
    · exact .inr ⟨od, d, by rw [upd_ne (ne a u h)]; exact q⟩
  · obtain ⟨u, q⟩ := R1.yin a z
    rw [upd_ne (ne a u q)]
    exact b.ky a z
  · obtain ⟨o', w⟩ := b.live a u h
    exact ⟨o', by rw [upd_ne (ne a u h)]; exact w⟩
theorem Bk.go (b : Bk σ Y env1 H1 σw vs env H) (n : H1 L = none) : Go (Own σ env1) (Pw Y σ env1) (Pw (fun a => Y a ∨ a = L) σw env) H1 H := by
  refine ⟨b.keep, fun a z => ?_⟩
  rcases z with (z | z) | z
  · exact .inl (.inl z)
  · subst z; exact .inr n
  · exact .inl (.inr (b.ow a z))
end
theorem adv_at {X : Cx} : True := trivial
theorem snd_lc {K : Fg} {wi : TI} {g : TG} {tt : TT} {te : TE} {ai : AI'} {ag : AG'} {at' : AT'} {e : AE'} {vs : List Nat} (hi : SndI K wi ai) (hg : SndG K (fun i => !decide (i ∈ vs)) g ag) (hl : GLoc vs ag) (ht : SndT K tt at') (he : Snd K te e) :
    Snd K (tLc wi g tt te vs) (aLc ai ag at' e vs) := by
  intro Y H0 σ env0 R Q rep0 q k
  refine hi Y H0 σ env0 _ _ rep0 q fun J H1 env1 items rep1 g1 walk q1 => ?_
  obtain ⟨no, hlen, q1⟩ := q1
  intro L nL
  have R0 := rep1.wipe (σ := wipe σ vs) (vs := vs) (by rw [wipe_length]) (fun i h => wipe_out h)
  have b0 : Bk σ Y env1 H1 (wipe σ vs) vs (wipeE env1 vs) (upd H1 L (.lst [])) := Bk.upd (K := K) ⟨fun a o h _ => .inl h, fun _ _ => rfl, R0.2, fun a o h => ⟨o, h⟩, fun i h => by rw [wipeE_out h]; exact Sh.refl _⟩ nL rep1
  have repL0 : Rep K (fun a => Y a ∨ a = L) (upd H1 L (.lst [])) (wipe σ vs) (wipeE env1 vs) := R0.1.grow (fun a z => z.imp id fun e => by rw [e]; exact nL) (upd_keep nL) fun a z => by
    rcases z with z | z
    · obtain ⟨u, q, m⟩ := R0.1.yim a z
      exact ⟨u, upd_keep nL a u q, m⟩
    · subst z; exact ⟨_, upd_same, trivial⟩
  refine ⟨fun i m H => ∃ env zs acc, m = items.length - i ∧ i ≤ items.length ∧ Rep K (fun a => Y a ∨ a = L) H (wipe σ vs) env ∧ Bk σ Y env1 H1 (wipe σ vs) vs env H ∧ (H L = some (.lst acc) ∧ RDs K H (Pw (fun a => Y a ∨ a = L) (wipe σ vs) env) acc zs ∧ zs.length ≤ i) ∧ (∀ v ∈ vs, ∀ a, env[v]? = some a → a = .un) ∧
    lcL ag at' e vs (items.drop i) (fun ds env2 => R (.new (.lst (zs ++ ds))) (restoreE env1 env2 vs)) env, ⟨_, wipeE env1 vs, [], [], rfl, Nat.zero_le _, repL0, b0, ⟨upd_same, .nil, Nat.le_refl _⟩, fun v hv a z => wipeE_in hv z, q1⟩, ?_⟩
  rintro i m H ⟨env, zs, acc, rfl, hi', rep, bk, ⟨hL, rz, lz⟩, bk0, q⟩
  have wk := walk (Own σ env1) (Pw (fun a => Y a ∨ a = L) (wipe σ vs) env) H (fun a z => .inr z) (bk.go nL) fun a z => by
    rcases z with z | ⟨j, d, e, w⟩
    · exact rep.yim a z
    · obtain ⟨p, hp, _, r⟩ := rep.own j d e
      rw [w] at hp; cases hp
      exact r.some
  by_cases hlt : i < items.length
  · obtain ⟨hgo, hy⟩ := wk.1 i hlt
    refine .inr ⟨hgo, fun H' => ∃ env zs acc, Rep K (fun a => Y a ∨ a = L) H' (wipe σ vs) env ∧ Bk σ Y env1 H1 (wipe σ vs) vs env H' ∧ (H' L = some (.lst acc) ∧ RDs K H' (Pw (fun a => Y a ∨ a = L) (wipe σ vs) env) acc zs ∧ zs.length ≤ i + 1) ∧ (∀ v ∈ vs, ∀ a, env[v]? = some a → a = .un) ∧
      lcL ag at' e vs (items.drop (i + 1)) (fun ds env2 => R (.new (.lst (zs ++ ds))) (restoreE env1 env2 vs)) env, fun H' ⟨env, zs, acc, r, b, c, u, q⟩ => ⟨_, by omega, env, zs, acc, rfl, hlt, r, b, c, u, q⟩, fun x H3 y => ?_⟩
    obtain ⟨same, d, hd, rd⟩ := hy x H3 y
    have ed : items.drop i = d :: items.drop (i + 1) := by
      rw [List.drop_eq_getElem_cons hlt]
      rw [List.getElem?_eq_getElem hlt] at hd
      rw [Option.some.inj hd]
    rw [ed] at q
    have rep3 := rep.same same
    have bk3 : Bk σ Y env1 H1 (wipe σ vs) vs env H3 := bk.step (B := fun _ => true) rep (Adv.same rep same).toS (fun _ z => z) fun _ _ => Sh.refl _
    have no0 : noOwn env vs := fun v hv d' z => by
      have := bk0 v hv (.own d') z
      cases this
    refine hg _ H3 (wipe σ vs) env x d _ _ rep3 rd (hl _ _ _ no0 q) fun H4 σ4 env4 rep4 g4 q4 => ?_
    obtain ⟨q4, eq4, no4⟩ := q4
    have st4 : ∀ j, j ∉ vs → σ4[j]? = (wipe σ vs)[j]? := fun j hj => g4.st j (by simp [hj])
    have l4 : σ4.length = (wipe σ vs).length := g4.len
    have w4 : wipe σ4 vs = wipe σ vs := by
      rw [wipe_eq l4 st4, wipe_wipe]
    refine ⟨w4, ?_⟩
    have own4 : ∀ a, Own σ4 env4 a → Own (wipe σ vs) env a := fun a ⟨j, e', q', w'⟩ => by
      by_cases hj : j ∈ vs
      · exact (no4 j hj e' q').elim
      · rw [eq4 j hj] at q'
        rw [st4 j hj] at w'
        exact ⟨j, e', q', w'⟩
    have bk4 : Bk σ Y env1 H1 σ4 vs env4 H4 := bk3.step rep3 g4 own4 fun i hi => by rw [eq4 i hi]; exact Sh.refl _
    have hL4 : H4 L = some (.lst acc) := (g4.ky L (.inr rfl)).trans (same _ _ hL)
    have rz4 := g4.rds rep3 (rz.same same)
    refine ht _ H4 σ4 env4 _ _ rep4 q4 fun b H5 env5 rep5 g5 q5 => ?_
    have bk5 : Bk σ Y env1 H1 σ4 vs env5 H5 := bk4.step (B := fun _ => true) rep4 g5.toS (fun a z => g5.own z) fun i _ => g5.sh i
    have hL5 : H5 L = some (.lst acc) := (g5.ky L (.inr rfl)).trans hL4
    have rz5 := g5.rds rz4
    have back : ∀ {env6 : AEnv} {H6 : Hp}, Rep K (fun a => Y a ∨ a = L) H6 σ4 env6 → Bk σ Y env1 H1 σ4 vs env6 H6 → Rep K (fun a => Y a ∨ a = L) H6 (wipe σ vs) (wipeE env6 vs) ∧ Bk σ Y env1 H1 (wipe σ vs) vs (wipeE env6 vs) H6 ∧ ∀ a, Pw (fun a => Y a ∨ a = L) (wipe σ vs) (wipeE env6 vs) a → Pw (fun a => Y a ∨ a = L) σ4 env6 a := fun {env6 H6} r b => by
      obtain ⟨r', o'⟩ := r.wipe (σ := wipe σ vs) (vs := vs) l4.symm fun i hi => (st4 i hi).symm
      exact ⟨r', ⟨b.keep, b.ky, fun a z => b.ow a (o' a z), b.live, fun i hi => by rw [wipeE_out hi]; exact b.sh i hi⟩, fun a z => z.imp id (o' a)⟩
    cases b with
    | false =>
      refine iteF ?_
      obtain ⟨r6, b6, p6⟩ := back rep5 bk5
      have q5' : lcL ag at' e vs (items.drop (i + 1)) (fun ds env2 => R (.new (.lst (zs ++ ds))) (restoreE env1 env2 vs)) (wipeE env5 vs) := by simpa using q5
      exact ⟨_, zs, acc, r6, b6, ⟨hL5, rz5.less p6, by omega⟩, fun v hv a z => wipeE_in hv z, q5'⟩
    | true =>
      refine iteT ?_
      have q5' := q5
      simp only [brP_true] at q5'
      refine he.frz _ H5 σ4 env5 _ _ rep5 q5' fun v H6 env6 r6 Y6 rep6 g6 ok6 q6 => ?_
      match r6, ok6, q6 with
      | .dat z, ok6, q6 =>
        obtain ⟨ey, rd6⟩ := ok6
        subst ey
        have bk6 : Bk σ Y env1 H1 σ4 vs env6 H6 := bk5.step (B := fun _ => true) rep5 g6.toS (fun a z => g6.own z) fun i _ => g6.sh i
        have hL6 : H6 L = some (.lst acc) := (g6.ky L (.inr rfl)).trans hL5
        have rz6 := g6.rds rz5
        obtain ⟨r7, b7, p7⟩ := back rep6 bk6
        have gu : Go (fun a => a = L) (Pw (fun a => Y a ∨ a = L) (wipe σ vs) (wipeE env6 vs)) (Pw (fun a => Y a ∨ a = L) (wipe σ vs) (wipeE env6 vs)) H6 (upd H6 L (.lst (acc ++ [v]))) := ⟨fun a u q n => .inl (by rw [upd_ne n]; exact q), fun a z => .inl z⟩
        have su : ∀ a, a = L → Pw (fun a => Y a ∨ a = L) (wipe σ vs) (wipeE env6 vs) a := fun a z => .inl (.inr z)
        have la : acc.length = zs.length := rz.length
        refine ⟨acc, hL6, by omega, wipeE env6 vs, zs ++ [z], acc ++ [v], r7.updY (.inr rfl), b7.upd nL rep1, ⟨upd_same, (((rz6.less p7).append (.cons (rd6.less p7) .nil)).go gu su), by rw [List.length_append]; exact Nat.succ_le_succ lz⟩, fun w hv a z => wipeE_in hv z, ?_⟩
        simpa using q6
  · have ei : i = items.length := by omega
    subst ei
    rw [List.drop_length] at q
    refine .inl ⟨wk.2, ?_⟩
    have q' : R (.new (.lst (zs ++ []))) (restoreE env1 env vs) := q
    rw [List.append_nil] at q'
    have lenE : env.length = env1.length := by rw [← rep.len, wipe_length, rep1.len]
    have backO : ∀ (j : Nat) (d : D), (restoreE env1 env vs)[j]? = some (.own d) → j ∉ vs ∧ env[j]? = some (.own d) := fun j d z => by
      by_cases hj : j ∈ vs
      · rw [restoreE_in lenE hj] at z
        exact (no j hj d z).elim
      · exact ⟨hj, by rw [restoreE_out hj] at z; exact z⟩
    have owf : ∀ a, Own σ (restoreE env1 env vs) a → Own (wipe σ vs) env a := fun a ⟨j, d, z, w⟩ => by
      obtain ⟨hj, z'⟩ := backO j d z
      exact ⟨j, d, z', by rw [wipe_out hj]; exact w⟩
    have pwf : ∀ a, Pw (fun a => Y a ∨ a = L) σ (restoreE env1 env vs) a → Pw (fun a => Y a ∨ a = L) (wipe σ vs) env a := fun a z => z.imp id (owf a)
    have repF : Rep K (fun a => Y a ∨ a = L) H σ (restoreE env1 env vs) := by
      refine ⟨by rw [restoreE_len, lenE]; exact rep1.len, fun j d z => ?_, fun j d z => ?_, rep.yim, fun j k d f a z1 z2 w1 w2 => ?_⟩
      · by_cases hj : j ∈ vs
        · rw [restoreE_in lenE hj] at z
          obtain ⟨v, w, r⟩ := rep1.dat j d z
          exact ⟨v, w, (r.go (bk.go nL) fun a z => .inr z).less pwf⟩
        · rw [restoreE_out hj] at z
          obtain ⟨v, w, r⟩ := rep.dat j d z
          rw [wipe_out hj] at w
          exact ⟨v, w, r.less pwf⟩
      · obtain ⟨hj, z'⟩ := backO j d z
        obtain ⟨p, w, n, r⟩ := rep.own j d z'
        rw [wipe_out hj] at w
        exact ⟨p, w, n, r.less pwf⟩
      · obtain ⟨h1, z1'⟩ := backO j d z1
        obtain ⟨h2, z2'⟩ := backO k f z2
        exact rep.inj j k d f a z1' z2' (by rw [wipe_out h1]; exact w1) (by rw [wipe_out h2]; exact w2)
    have advF : Adv σ Y env1 H1 (fun a => Y a ∨ a = L) (restoreE env1 env vs) H := ⟨bk.keep, bk.ky, fun _ z => .inl z, fun a z => z.imp id fun e => by rw [e]; exact nL, fun j => by
      by_cases hj : j ∈ vs
      · rw [restoreE_in lenE hj]; exact Sh.refl _
      · rw [restoreE_out hj]; exact bk.sh j hj, bk.live⟩
    refine k (.ref L) H (restoreE env1 env vs) (.new (.lst zs)) _ repF (g1.trans advF) ⟨L, rfl, rfl, fun z => ?_, acc, hL, rz.less pwf, ?_⟩ q'
    · rcases z with z | z
      · obtain ⟨u, w⟩ := rep1.yin L z
        rw [nL] at w; cases w
      · obtain ⟨j, d, e', w'⟩ := owf L z
        obtain ⟨p, hp, n, r⟩ := rep.own j d e'
        rw [w'] at hp; cases hp
        exact n (.inr rfl)
    · have la : acc.length = zs.length := rz.length
      omega
end AL
namespace AL
open PySem L2
/-! AL11: comprehensions as expressions; built-in calls and methods by data. -/
def canE (K : Fg) (a : AE') : TE := fun σ H Q => ∃ Y env R, Rep K Y H σ env ∧ a env R ∧ ∀ v H' env' r Y', Rep K Y' H' σ env' → Adv σ Y env H Y' env' H' → ResOk K H' Y Y' σ env' v r → R r env' → Q v H'
def canT (K : Fg) (a : AT') : TT := fun σ H Q => ∃ Y env R, Rep K Y H σ env ∧ a env R ∧ ∀ b H' env', Rep K Y H' σ env' → Adv σ Y env H Y env' H' → R b env' → Q b H'
def canG (K : Fg) (B : Nat → Bool) (a : AG') : TG := fun v σ H Q => ∃ Y env d N, Rep K Y H σ env ∧ RD K H (Pw Y σ env) v d ∧ a d env N ∧ ∀ H' σ' env', Rep K Y H' σ' env' → AdvS B σ Y env H Y σ' env' H' → N env' → Q σ' H'
section
variable {K : Fg} {X : Cx}
theorem snd_canE {a : AE'} : Snd K (canE K a) a := fun Y H σ env R Q rep h k => ⟨Y, env, R, rep, h, k⟩
theorem snd_canT {a : AT'} : SndT K (canT K a) a := fun Y H σ env R Q rep h k => ⟨Y, env, R, rep, h, k⟩
theorem snd_canG {B : Nat → Bool} {a : AG'} : SndG K B (canG K B a) a := fun Y H σ env v d N Q rep rd h k => ⟨Y, env, d, N, rep, rd, h, k⟩
theorem AE.can {e : Expr} {a : AE'} (h : AE X e a) : PE X e (canE X.K a) := by
  obtain ⟨t, p, s⟩ := h
  exact ⟨fun pins s0 σ H Q I ⟨Y, env, R, rep, h', k⟩ => p.run pins s0 σ H Q I (s Y H σ env R Q rep h' k)⟩
theorem ATs.can {e : List Expr} {a : AT'} (h : ATs X e a) : PTs X e (canT X.K a) := by
  obtain ⟨t, p, s⟩ := h
  exact ⟨fun pins s0 σ H Q I ⟨Y, env, R, rep, h', k⟩ => p.run pins s0 σ H Q I (s Y H σ env R Q rep h' k)⟩
theorem AG.can {B : Nat → Bool} {e : Expr} {a : AG'} (h : AG X B e a) : PG X e (canG X.K B a) := by
  obtain ⟨t, p, s⟩ := h
  exact ⟨fun pins s0 σ H v u Q I r ⟨Y, env, d, N, rep, rd, h', k⟩ => p.run pins s0 σ H v u Q I r (s Y H σ env v d N Q rep rd h' k)⟩
end
section
variable {X : Cx} {elt tg iter : Expr} {ifs : List Expr} {scope : Scope} {own : List (Str × Nat)} {pos : Pos} {ai : AI'} {ag : AG'} {t : AT'} {e : AE'}
theorem ae_lc (hc : X.calm = true) (hN : X.N.Nodup) (hi : AI X tg iter ai) (ok : BlkOk X.N X.env.scope scope own) (hl : GLoc (own.map (·.2)) ag)
    (hg : ∀ (s : Shared) (H : Hp) (C : Addr) (cl : List (Str × Addr)) (fp : List Addr), AG (X.blk s H scope (compEnvC scope cl C X.env) fp) (fun i => !decide (i ∈ own.map (·.2))) tg ag)
    (ht : ∀ (s : Shared) (H : Hp) (C : Addr) (cl : List (Str × Addr)) (fp : List Addr), ATs (X.blk s H scope (compEnvC scope cl C X.env) fp) ifs t)
    (he : ∀ (s : Shared) (H : Hp) (C : Addr) (cl : List (Str × Addr)) (fp : List Addr), AE (X.blk s H scope (compEnvC scope cl C X.env) fp) elt e) (hs : ∀ x, foldedSetIterable iter X.env x = pure x := by intro _; rfl) :
    AE X (.ListComp elt [⟨tg, iter, ifs, 0⟩] scope pos) (aLc ai ag t e (own.map (·.2))) := by
  obtain ⟨wi, pI, sI⟩ := hi
  have h1 : ∀ (s : Shared) (H : Hp) (C : Addr) (cl : List (Str × Addr)) (fp : List Addr), PG (X.blk s H scope (compEnvC scope cl C X.env) fp) tg (canG X.K (fun i => !decide (i ∈ own.map (·.2))) ag) := fun s H C cl fp => (hg s H C cl fp).can
  have h2 : ∀ (s : Shared) (H : Hp) (C : Addr) (cl : List (Str × Addr)) (fp : List Addr), PTs (X.blk s H scope (compEnvC scope cl C X.env) fp) ifs (canT X.K t) := fun s H C cl fp => (ht s H C cl fp).can
  have h3 : ∀ (s : Shared) (H : Hp) (C : Addr) (cl : List (Str × Addr)) (fp : List Addr), PE (X.blk s H scope (compEnvC scope cl C X.env) fp) elt (canE X.K e) := fun s H C cl fp => (he s H C cl fp).can
  exact ⟨_, pe_lc (own := own) hc hN pI ok h1 h2 h3 hs, snd_lc sI snd_canG hl snd_canT snd_canE⟩
/-- name = [..] on one line, the name a local -/
theorem as_setLc {B : Nat → Bool} {i : Nat} {y : Str} {py spos : Pos} (hc : X.calm = true) (hN : X.N.Nodup) (hy : X.N[i]? = some y) (hyl : X.env.scope.names.lookup y = some .local)
    (hsw : swapsWith (.ListComp elt [⟨tg, iter, ifs, 0⟩] scope pos) (some (.Name y py)) spos.line X.env = pure true) (hi : AI X tg iter ai) (ok : BlkOk X.N X.env.scope scope own) (hl : GLoc (own.map (·.2)) ag)
    (hg : ∀ (s : Shared) (H : Hp) (C : Addr) (cl : List (Str × Addr)) (fp : List Addr), AG (X.blk s H scope (compEnvC scope cl C X.env) fp) (fun i => !decide (i ∈ own.map (·.2))) tg ag)
    (ht : ∀ (s : Shared) (H : Hp) (C : Addr) (cl : List (Str × Addr)) (fp : List Addr), ATs (X.blk s H scope (compEnvC scope cl C X.env) fp) ifs t)
    (he : ∀ (s : Shared) (H : Hp) (C : Addr) (cl : List (Str × Addr)) (fp : List Addr), AE (X.blk s H scope (compEnvC scope cl C X.env) fp) elt e) (hb : B i = false := by rfl) (hs : ∀ x, foldedSetIterable iter X.env x = pure x := by intro _; rfl) :
    AS X B (.Assign [.Name y py] (.ListComp elt [⟨tg, iter, ifs, 0⟩] scope pos) spos) (aSet i (aLc ai ag t e (own.map (·.2)))) := by
  obtain ⟨wi, pI, sI⟩ := hi
  have h1 : ∀ (s : Shared) (H : Hp) (C : Addr) (cl : List (Str × Addr)) (fp : List Addr), PG (X.blk s H scope (compEnvC scope cl C X.env) fp) tg (canG X.K (fun i => !decide (i ∈ own.map (·.2))) ag) := fun s H C cl fp => (hg s H C cl fp).can
  have h2 : ∀ (s : Shared) (H : Hp) (C : Addr) (cl : List (Str × Addr)) (fp : List Addr), PTs (X.blk s H scope (compEnvC scope cl C X.env) fp) ifs (canT X.K t) := fun s H C cl fp => (ht s H C cl fp).can
  have h3 : ∀ (s : Shared) (H : Hp) (C : Addr) (cl : List (Str × Addr)) (fp : List Addr), PE (X.blk s H scope (compEnvC scope cl C X.env) fp) elt (canE X.K e) := fun s H C cl fp => (he s H C cl fp).can
  refine ⟨_, ps_setLc (own := own) hc hN hy hyl hsw pI ok h1 h2 h3 hs, fun Y H σ env D A rep q k => ?_⟩
  refine snd_lc sI snd_canG hl snd_canT snd_canE Y H σ env _ _ rep q fun v H' env' r Y' rep' g ok q' => ?_
  exact set_ok hb rep g rep' ok q' fun env2 r2 g2 q2 => k.nx H' _ env2 r2 g2 q2
end
/-! ### built-in functions by data -/
abbrev OpN := List D → (RV → Prop) → Prop
def CallS (K : Fg) (r : List V → Hp → VK → Prop) (f : OpN) : Prop := ∀ (Y : Ad) (H : Hp) (σ : L2.St) (env : AEnv) (us : List V) (ds : List D) (F : RV → Prop) (Q : VK), Rep K Y H σ env → RDs K H (Pw Y σ env) us ds → f ds F → Fin K Y H σ env F Q → r us H Q
def aCall (f : OpN) (t : AA') : AE' := fun env R => t env fun rs env1 => match dats rs with
  | some ds => f ds fun z => R z env1
  | none => False
theorem snd_call {K : Fg} {r : List V → Hp → VK → Prop} {f : OpN} {ta : TA} {t : AA'} (o : CallS K r f) (s : SndA K ta t) : Snd K (tCB r ta) (aCall f t) := by
  intro Y H σ env R Q rep q k
  refine s Y H σ env _ _ rep q fun vs H' env' rs rep' g ok q' => ?_
  match w : dats rs, q' with
  | some ds, q' => exact o Y H' σ env' vs ds _ _ rep' (ok.dats w) q' fun v H2 z Y2 rep2 g2 ok2 q2 => k v H2 env' z Y2 rep2 (g.trans g2) ok2 q2
section
variable {X : Cx} {x : Str} {p pos : Pos} {e : Expr} {es : List Expr} {t : AA'} {f : OpN}
theorem ae_callB {id : String} {r : List V → Hp → VK → Prop} (hc : CallR X (.builtin id) r) (o : CallS X.K r f) (hg : Gl X x) (hm : X.mg x = none) (hv : bootBuiltins x = some (.builtin id)) (ha : AA X (e :: es) t) (hn : x ≠ "__name__" := by decide) (hdb : (x == ("__debug__" : Str)) = false := by decide)
    (he : starEach (e :: es) X.env = (false, eval e X.env) :: starEach es X.env := by rfl) (hpl : (backTo pos (starEach es X.env)).any (·.1) = false := by rfl) : AE X (.Call (.Name x p) (e :: es) [] pos) (aCall f t) := by
  obtain ⟨u, pa, s⟩ := ha
  exact ⟨_, pe_callB hc hg hm hv pa hn hdb he hpl, snd_call o s⟩
theorem ae_callTy {T : String} {r : List V → Hp → VK → Prop} (hc : CallR X (.type T) r) (o : CallS X.K r f) (hg : Gl X x) (hm : X.mg x = none) (hv : bootBuiltins x = some (.type T)) (ha : AA X (e :: es) t) (hn : x ≠ "__name__" := by decide) (hdb : (x == ("__debug__" : Str)) = false := by decide)
    (he : starEach (e :: es) X.env = (false, eval e X.env) :: starEach es X.env := by rfl) (hpl : (backTo pos (starEach es X.env)).any (·.1) = false := by rfl) : AE X (.Call (.Name x p) (e :: es) [] pos) (aCall f t) := by
  obtain ⟨u, pa, s⟩ := ha
  exact ⟨_, pe_callTy hc hg hm hv pa hn hdb he hpl, snd_call o s⟩
end
end AL
namespace AL
open PySem L2
/-! AL12: promises of defs over data, and their calls. -/
abbrev ASp := AEnv → (RV → AEnv → Prop) → Prop
def toSp (K : Fg) (S : ASp) : Sp := fun vs H Q _ => ∃ Y avs R, Rep K Y H (vs.map some) avs ∧ S avs R ∧ ∀ v H' r avs' Y', Rep K Y' H' (vs.map some) avs' → AdvS (fun _ => true) (vs.map some) Y avs H Y' (vs.map some) avs' H' →
  (∀ a, Y' a → Y a ∨ H a = none) → ResOk K H' Y Y' (vs.map some) avs' v r → (∀ i, r ≠ .at i) → R r avs' → Q v H'
/-- the parameters' slots behind a call: a lent one as the body left it -/
def outs : AEnv → AEnv → AEnv
  | [], _ => []
  | .own _ :: r, e :: es => e :: outs r es
  | a :: r, _ :: es => a :: outs r es
  | a :: r, [] => a :: r
theorem outs_len : ∀ (a e : AEnv), (outs a e).length = a.length
  | [], _ => rfl
  | .own _ :: r, _ :: es => by simp [outs, outs_len r es]
  | .dat _ :: r, _ :: es => by simp [outs, outs_len r es]
  | .un :: r, _ :: es => by simp [outs, outs_len r es]
  | .own _ :: r, [] => rfl
  | .dat _ :: r, [] => rfl
  | .un :: r, [] => rfl
theorem outs_get : ∀ {a e : AEnv} {i : Nat} {x : AV}, (outs a e)[i]? = some x → a.length ≤ e.length → (∃ d, a[i]? = some (.own d) ∧ e[i]? = some x) ∨ (a[i]? = some x ∧ ∀ d, x ≠ .own d)
  | .own d :: r, y :: es, 0, x, h, _ => by
    simp only [outs, List.getElem?_cons_zero, Option.some.injEq] at h
    subst h
    exact .inl ⟨d, rfl, rfl⟩
  | .dat d :: r, y :: es, 0, x, h, _ => by
    simp only [outs, List.getElem?_cons_zero, Option.some.injEq] at h
    subst h
    exact .inr ⟨rfl, fun d z => by cases z⟩
  | .un :: r, y :: es, 0, x, h, _ => by
    simp only [outs, List.getElem?_cons_zero, Option.some.injEq] at h
    subst h
    exact .inr ⟨rfl, fun d z => by cases z⟩
  | .own d :: r, y :: es, i + 1, x, h, l => by
    simp only [outs, List.getElem?_cons_succ] at h
    simpa using outs_get h (by simpa using l)
  | .dat d :: r, y :: es, i + 1, x, h, l => by
    simp only [outs, List.getElem?_cons_succ] at h
    simpa using outs_get h (by simpa using l)
  | .un :: r, y :: es, i + 1, x, h, l => by
    simp only [outs, List.getElem?_cons_succ] at h
    simpa using outs_get h (by simpa using l)
  | _ :: _, [], _, _, _, l => by simp at l
  | [], _, _, _, h, _ => by simp [outs] at h
theorem outs_sh : ∀ {a e : AEnv} (i : Nat), a.length ≤ e.length → (∀ d, a[i]? = some (.own d) → Sh a[i]? e[i]?) → Sh a[i]? (outs a e)[i]?
  | [], _, i, _, _ => by simp [outs, Sh]
  | .own d :: r, y :: es, 0, _, h => h d rfl
  | .dat d :: r, y :: es, 0, _, h => Sh.refl _
  | .un :: r, y :: es, 0, _, h => Sh.refl _
  | .own d :: r, y :: es, i + 1, l, h => by simpa [outs] using outs_sh i (by simpa using l) (by simpa using h)
  | .dat d :: r, y :: es, i + 1, l, h => by simpa [outs] using outs_sh i (by simpa using l) (by simpa using h)
  | .un :: r, y :: es, i + 1, l, h => by simpa [outs] using outs_sh i (by simpa using l) (by simpa using h)
  | _ :: _, [], _, l, _ => by simp at l
def start0 (n : Nat) (avs : AEnv) : AEnv := avs ++ List.replicate (n - avs.length) .un
section
variable {K : Fg} {σ : L2.St} {Y : Ad} {env avs : AEnv} {H : Hp} {vs : List V}
theorem own_start {N : List Str} (hl : vs.length = avs.length) : ∀ a, Own (L2.start N vs) (start0 N.length avs) a ↔ Own (vs.map some) avs a := fun a => by
  have e1 : ∀ (i : Nat) (d : D), (start0 N.length avs)[i]? = some (.own d) → avs[i]? = some (.own d) := fun i d q => by
    unfold start0 at q
    by_cases h : i < avs.length
    · rwa [List.getElem?_append_left h] at q
    · rw [List.getElem?_append_right (by omega), List.getElem?_replicate] at q
      split at q <;> cases q
  constructor
  · rintro ⟨i, d, q, w⟩
    have q' := e1 i d q
    have h : i < avs.length := (List.getElem?_eq_some_iff.mp q').1
    unfold L2.start at w
    rw [List.getElem?_append_left (by rw [List.length_map]; omega)] at w
    exact ⟨i, d, q', w⟩
  · rintro ⟨i, d, q, w⟩
    have h : i < avs.length := (List.getElem?_eq_some_iff.mp q).1
    refine ⟨i, d, ?_, ?_⟩
    · unfold start0
      rw [List.getElem?_append_left h]; exact q
    · unfold L2.start
      rw [List.getElem?_append_left (by rw [List.length_map]; omega)]; exact w
theorem Rep.start {N : List Str} (R : Rep K Y H (vs.map some) avs) (hN : avs.length ≤ N.length) : Rep K Y H (L2.start N vs) (start0 N.length avs) := by
  have hl : vs.length = avs.length := by simpa using R.len
  have pw : ∀ a, Pw Y (L2.start N vs) (start0 N.length avs) a ↔ Pw Y (vs.map some) avs a := fun a => or_congr Iff.rfl (own_start hl a)
  have e1 : ∀ (i : Nat) (x : AV), (start0 N.length avs)[i]? = some x → x ≠ .un → avs[i]? = some x := fun i x q n => by
    unfold start0 at q
    by_cases h : i < avs.length
    · rwa [List.getElem?_append_left h] at q
    · rw [List.getElem?_append_right (by omega), List.getElem?_replicate] at q
      split at q
      · cases q; exact absurd rfl n
      · cases q
  have s1 : ∀ i, i < avs.length → (L2.start N vs)[i]? = (vs.map some)[i]? := fun i h => by
    unfold L2.start
    rw [List.getElem?_append_left (by rw [List.length_map]; omega)]
  refine ⟨?_, fun i d q => ?_, fun i d q => ?_, R.yim, fun i j d e p q1 q2 w1 w2 => ?_⟩
  · unfold L2.start start0
    simp only [List.length_append, List.length_map, List.length_replicate]
    omega
  · have q' := e1 i _ q (fun z => by cases z)
    obtain ⟨v, w, r⟩ := R.dat i d q'
    exact ⟨v, by rw [s1 i (List.getElem?_eq_some_iff.mp q').1]; exact w, r.less fun a z => (pw a).mp z⟩
  · have q' := e1 i _ q (fun z => by cases z)
    obtain ⟨p, w, n, r⟩ := R.own i d q'
    exact ⟨p, by rw [s1 i (List.getElem?_eq_some_iff.mp q').1]; exact w, n, r.less fun a z => (pw a).mp z⟩
  · have q1' := e1 i _ q1 (fun z => by cases z)
    have q2' := e1 j _ q2 (fun z => by cases z)
    rw [s1 i (List.getElem?_eq_some_iff.mp q1').1] at w1
    rw [s1 j (List.getElem?_eq_some_iff.mp q2').1] at w2
    exact R.inj i j d e p q1' q2' w1 w2
end
theorem RD.ref_not {K : Fg} {H : Hp} {P : Ad} {a : Addr} {d : D} (h : RD K H P (.ref a) d) (o : ownable d = true) : ¬ P a := by
  cases h with
  | tup s r => cases o
  | lst s r => exact s.2.1
  | dK s n e r => exact n
  | dT s n e r => exact n
  | hup s n l r => exact n
  | obj s n e r => exact n
  | scr s r => cases o
section
variable {P : Program} {w : World} {K : Fg} {mg : Str → Option Value} {base : Heap}
/-- the end of a body -/
theorem fin_body {N : List Str} {B : Nat → Bool} {vs : List V} {avs : AEnv} {Y Y' : Ad} {H H' : Hp} {σ' : L2.St} {env' : AEnv} {v : V} {r : RV} (R : Rep K Y H (vs.map some) avs) (hN : avs.length ≤ N.length) (hB : ∀ (i : Nat) (d : D), avs[i]? = some (.own d) → B i = true)
    (R' : Rep K Y' H' σ' env') (g : AdvS B (L2.start N vs) Y (start0 N.length avs) H Y' σ' env' H') (hr : ∀ i, r ≠ .at i) (ok : ResOk K H' Y Y' σ' env' v r) :
    Rep K Y' H' (vs.map some) (outs avs env') ∧ AdvS (fun _ => true) (vs.map some) Y avs H Y' (vs.map some) (outs avs env') H' ∧ (∀ a, Y' a → Y a ∨ H a = none) ∧ ResOk K H' Y Y' (vs.map some) (outs avs env') v r := by
  have hl : vs.length = avs.length := by simpa using R.len
  have R0 := R.start hN
  have ow0 := own_start (N := N) hl
  have e0 : ∀ i, i < avs.length → (start0 N.length avs)[i]? = avs[i]? := fun i h => by
    unfold start0
    rw [List.getElem?_append_left h]
  have s0 : ∀ i, i < avs.length → (L2.start N vs)[i]? = (vs.map some)[i]? := fun i h => by
    unfold L2.start
    rw [List.getElem?_append_left (by rw [List.length_map]; omega)]
  have lenE : avs.length ≤ env'.length := by
    rw [← R'.len, g.len, R0.len]
    unfold start0
    rw [List.length_append]
    omega
  have shp : ∀ (i : Nat) (d : D), avs[i]? = some (.own d) → Sh avs[i]? env'[i]? := fun i d q => by
    have h : i < avs.length := (List.getElem?_eq_some_iff.mp q).1
    have := g.pr i (hB i d q)
    rwa [e0 i h] at this
  have sts : ∀ (i : Nat) (d : D), avs[i]? = some (.own d) → σ'[i]? = (vs.map some)[i]? := fun i d q => by
    have h : i < avs.length := (List.getElem?_eq_some_iff.mp q).1
    rw [g.st i (hB i d q), s0 i h]
  have bk : ∀ (i : Nat) (d : D), (outs avs env')[i]? = some (.own d) → (∃ e, avs[i]? = some (.own e)) ∧ env'[i]? = some (.own d) := fun i d q => by
    rcases outs_get q lenE with ⟨e, a, b⟩ | ⟨_, b⟩
    · exact ⟨⟨e, a⟩, b⟩
    · exact absurd rfl (b d)
  have owF : ∀ a, Own (vs.map some) (outs avs env') a → Own σ' env' a := fun a ⟨i, d, q, w⟩ => by
    obtain ⟨⟨e, a1⟩, b1⟩ := bk i d q
    exact ⟨i, d, b1, by rw [sts i e a1]; exact w⟩
  have pwF : ∀ a, Pw Y' (vs.map some) (outs avs env') a → Pw Y' σ' env' a := fun a z => z.imp id (owF a)
  have gd := g.go R0
  have y3 : ∀ a, Y' a → Y a ∨ H a = none := fun a z => by
    rcases g.yn a z with q | q | q
    · exact .inl q
    · exact .inr q
    · exfalso
      obtain ⟨i, d, q1, q2⟩ := (ow0 a).mp q
      have s := shp i d q1
      rw [← sts i d q1] at q2
      rw [q1] at s
      match w : env'[i]?, s with
      | some (.own d'), _ =>
        obtain ⟨p, hp, n, _⟩ := R'.own i d' w
        rw [q2] at hp; cases hp
        exact n z
      | some (.dat d'), s =>
        obtain ⟨u, hu, rd⟩ := R'.dat i d' w
        rw [q2] at hu; cases hu
        exact rd.ref_not s (.inl z)
  refine ⟨⟨by rw [outs_len]; simpa using hl, fun i d q => ?_, fun i d q => ?_, R'.yim, fun i j d e p q1 q2 w1 w2 => ?_⟩, ⟨fun a o h n => g.keep a o h fun z => n ((ow0 a).mp z), g.ky, g.yu, fun a z => (y3 a z).imp id .inl, fun a z => ?_, g.live, fun _ _ => rfl, fun i _ => outs_sh i lenE (shp i), rfl⟩, y3, ?_⟩
  · rcases outs_get q lenE with ⟨e, a1, b1⟩ | ⟨a1, _⟩
    · obtain ⟨u, hu, rd⟩ := R'.dat i d b1
      exact ⟨u, by rw [← sts i e a1]; exact hu, rd.less pwF⟩
    · obtain ⟨u, hu, rd⟩ := R.dat i d a1
      refine ⟨u, hu, ((rd.less (P' := Pw Y (L2.start N vs) (start0 N.length avs)) fun a z => z.imp id (ow0 a).mp).go gd fun _ z => .inr z).less pwF⟩
  · obtain ⟨⟨e, a1⟩, b1⟩ := bk i d q
    obtain ⟨p, hp, n, ro⟩ := R'.own i d b1
    exact ⟨p, by rw [← sts i e a1]; exact hp, n, ro.less pwF⟩
  · obtain ⟨⟨e1, a1⟩, b1⟩ := bk i d q1
    obtain ⟨⟨e2, a2⟩, b2⟩ := bk j e q2
    exact R'.inj i j d e p b1 b2 (by rw [sts i e1 a1]; exact w1) (by rw [sts j e2 a2]; exact w2)
  · obtain ⟨i, d, q, w⟩ := z
    obtain ⟨⟨e, a1⟩, _⟩ := bk i d q
    exact .inl ⟨i, e, a1, w⟩
  · match r, hr, ok with
    | .dat d, _, ok =>
      obtain ⟨ey, rd⟩ := ok
      subst ey
      exact ⟨rfl, rd.less pwF⟩
    | .new d, _, ok =>
      obtain ⟨p, e, ey, n, ro⟩ := ok
      refine ⟨p, e, ey, fun z => n (z.imp id (owF p)), ro.less pwF⟩
    | .at i, hr, _ => exact absurd rfl (hr i)
/-- THE RULE for a def: its body's reading -/
theorem fn_of {x qual : Str} {st : Stmt} {f : Addr} {fd : FuncData} {N ps : List Str} {k : Nat} {S : ASp} {B : Nat → Bool} {a : AS'} (F : Fun K x qual st f fd) (Sc : FnScope N ps (defScope st)) (hlen : ps.length ≤ N.length)
    (hbody : ∀ (cdv : Value) (A : Around) (outer : List Env) (s : Shared) (H : Hp) (E : XK), Room k (A.deeper (PyProof.Rows.envOfC qual (defScope st) s.heap.objs.size f cdv)) →
      ASs (cxOf CX0 P w K mg base N qual (defScope st) f cdv A outer s H E).nox B (defBody st) a)
    (hspec : ∀ avs R, S avs R → avs.length = ps.length ∧ (∀ (i : Nat) (d : D), avs[i]? = some (.own d) → B i = true) ∧
      a { nx := fun env => R (.dat .non) (outs avs env), rt := fun r env => (∀ i, r ≠ .at i) ∧ R r (outs avs env) } (start0 N.length avs)) :
    FnOk P w K mg base CX0 (k + 1) f fd ps (toSp K S) := by
  refine F.ok Sc (fun vs H Q E h => ?_) (fun cdv A outer s H vs Q E hr h => ?_)
  · obtain ⟨Y, avs, R, rep, hs, _⟩ := h
    have := (hspec avs R hs).1
    have hl : vs.length = avs.length := by simpa using rep.len
    omega
  · obtain ⟨Y, avs, R, rep, hs, fin⟩ := h
    obtain ⟨h1, h2, h3⟩ := hspec avs R hs
    have hN : avs.length ≤ N.length := by omega
    obtain ⟨t, p, sd⟩ := hbody cdv A outer s H E hr
    refine ⟨t, p, sd Y H (L2.start N vs) (start0 N.length avs) _ _ (rep.start hN) h3 ⟨fun H' σ' env' r' g q => ?_, fun v H' σ' env' r Y' r' g ok q => ?_, fun H' σ' env' _ _ q => q.elim, fun H' σ' env' _ _ q => q.elim⟩⟩
    · obtain ⟨a1, a2, a3, a4⟩ := fin_body (B := B) rep hN h2 r' g (r := .dat .non) (v := .non) (fun i z => by cases z) ⟨rfl, .non⟩
      exact fin .non H' (.dat .non) _ Y a1 a2 a3 a4 (fun i z => by cases z) q
    · obtain ⟨a1, a2, a3, a4⟩ := fin_body (B := B) rep hN h2 r' g (r := r) (v := v) q.1 ok
      exact fin v H' r _ Y' a1 a2 a3 a4 q.1 q.2
end
end AL
namespace AL
open PySem L2
/-! AL13: calls of defs. -/
/-- the slots that are lent -/
def lents : List RV → List Nat
  | [] => []
  | .at i :: r => i :: lents r
  | _ :: r => lents r
/-- the parameters as they are handed in -/
def argsE (env : AEnv) : List RV → AEnv
  | [] => []
  | .dat d :: r => .dat d :: argsE env r
  | .at i :: r => (match env[i]? with | some a => a | none => .un) :: argsE env r
  | .new _ :: r => .un :: argsE env r
/-- the lent ones come back -/
def backE (env : AEnv) : List RV → AEnv → AEnv
  | .at i :: r, a :: as => backE (env.set i a) r as
  | _ :: r, _ :: as => backE env r as
  | _, _ => env
def lentOk (env : AEnv) (rs : List RV) : Prop := (lents rs).Nodup ∧ ∀ i ∈ lents rs, ∃ d, env[i]? = some (.own d)
@[irreducible] def callR (S : ASp) (rs : List RV) (env : AEnv) (R : RV → AEnv → Prop) : Prop := lentOk env rs ∧ S (argsE env rs) fun r avs' => R r (backE env rs avs')
def aFn (S : ASp) (t : AA') : AE' := fun env R => t env fun rs env1 => callR S rs env1 R
theorem argsE_len (env : AEnv) : ∀ rs : List RV, (argsE env rs).length = rs.length
  | [] => rfl
  | .dat d :: r => congrArg Nat.succ (argsE_len env r)
  | .at i :: r => congrArg Nat.succ (argsE_len env r)
  | .new d :: r => congrArg Nat.succ (argsE_len env r)
theorem backE_len : ∀ (env : AEnv) (rs : List RV) (as : AEnv), (backE env rs as).length = env.length
  | env, .at i :: r, a :: as => by rw [backE, backE_len, List.length_set]
  | env, .dat _ :: r, a :: as => backE_len env r as
  | env, .new _ :: r, a :: as => backE_len env r as
  | env, [], _ => by simp [backE]
  | env, .at i :: r, [] => rfl
  | env, .dat i :: r, [] => rfl
  | env, .new i :: r, [] => rfl
theorem backE_out : ∀ {env : AEnv} {rs : List RV} {as : AEnv} {i : Nat}, i ∉ lents rs → (backE env rs as)[i]? = env[i]?
  | env, .at j :: r, a :: as, i, h => by
    rw [backE, backE_out (fun z => h (by simp [lents, z])), List.getElem?_set_ne (fun e => h (by simp [lents, e]))]
  | env, .dat _ :: r, a :: as, i, h => backE_out (rs := r) (as := as) h
  | env, .new _ :: r, a :: as, i, h => backE_out (rs := r) (as := as) h
  | env, [], _, i, h => by simp [backE]
  | env, .at j :: r, [], i, h => rfl
  | env, .dat j :: r, [], i, h => rfl
  | env, .new j :: r, [], i, h => rfl
theorem backE_in : ∀ {env : AEnv} {rs : List RV} {as : AEnv} {j i : Nat} {a : AV}, (lents rs).Nodup → rs[j]? = some (.at i) → as[j]? = some a → i < env.length → (backE env rs as)[i]? = some a
  | env, .at k :: r, b :: as, 0, i, a, n, h, e, l => by
    simp only [List.getElem?_cons_zero, Option.some.injEq] at h e
    cases h
    subst e
    rw [backE, backE_out (List.nodup_cons.mp n).1, List.getElem?_set_self l]
  | env, .dat k :: r, b :: as, 0, i, a, n, h, e, l => by simp at h
  | env, .new k :: r, b :: as, 0, i, a, n, h, e, l => by simp at h
  | env, .at k :: r, b :: as, j + 1, i, a, n, h, e, l => by
    rw [backE]
    exact backE_in (j := j) (List.nodup_cons.mp n).2 (by simpa using h) (by simpa using e) (by rw [List.length_set]; exact l)
  | env, .dat k :: r, b :: as, j + 1, i, a, n, h, e, l => backE_in (rs := r) (as := as) (j := j) n (by simpa using h) (by simpa using e) l
  | env, .new k :: r, b :: as, j + 1, i, a, n, h, e, l => backE_in (rs := r) (as := as) (j := j) n (by simpa using h) (by simpa using e) l
  | env, [], _, j, i, a, n, h, e, l => by simp at h
  | env, _ :: _, [], j, i, a, n, h, e, l => by simp at e
theorem lents_mem : ∀ {rs : List RV} {i : Nat}, i ∈ lents rs ↔ ∃ j : Nat, rs[j]? = some (.at i)
  | [], i => by simp [lents]
  | .at k :: r, i => by
    simp only [lents, List.mem_cons]
    constructor
    · rintro (h | h)
      · subst h; exact ⟨0, rfl⟩
      · obtain ⟨j, e⟩ := lents_mem.mp h
        exact ⟨j + 1, e⟩
    · rintro ⟨j, e⟩
      cases j with
      | zero => simp at e; exact .inl e.symm
      | succ j => exact .inr (lents_mem.mpr ⟨j, by simpa using e⟩)
  | .dat k :: r, i => by
    simp only [lents]
    constructor
    · intro h
      obtain ⟨j, e⟩ := lents_mem.mp h
      exact ⟨j + 1, e⟩
    · rintro ⟨j, e⟩
      cases j with
      | zero => simp at e
      | succ j => exact lents_mem.mpr ⟨j, by simpa using e⟩
  | .new k :: r, i => by
    simp only [lents]
    constructor
    · intro h
      obtain ⟨j, e⟩ := lents_mem.mp h
      exact ⟨j + 1, e⟩
    · rintro ⟨j, e⟩
      cases j with
      | zero => simp at e
      | succ j => exact lents_mem.mpr ⟨j, by simpa using e⟩
theorem lents_inj : ∀ {rs : List RV} {j k i : Nat}, (lents rs).Nodup → rs[j]? = some (.at i) → rs[k]? = some (.at i) → j = k
  | .at m :: r, 0, 0, i, n, _, _ => rfl
  | .at m :: r, 0, k + 1, i, n, h, e => by
    simp at h
    subst h
    exact ((List.nodup_cons.mp n).1 (lents_mem.mpr ⟨k, by simpa using e⟩)).elim
  | .at m :: r, j + 1, 0, i, n, h, e => by
    simp at e
    subst e
    exact ((List.nodup_cons.mp n).1 (lents_mem.mpr ⟨j, by simpa using h⟩)).elim
  | .at m :: r, j + 1, k + 1, i, n, h, e => congrArg Nat.succ (lents_inj (List.nodup_cons.mp n).2 (by simpa using h) (by simpa using e))
  | .dat m :: r, 0, _, i, n, h, e => by simp at h
  | .dat m :: r, _ + 1, 0, i, n, h, e => by simp at e
  | .dat m :: r, j + 1, k + 1, i, n, h, e => congrArg Nat.succ (lents_inj (rs := r) n (by simpa using h) (by simpa using e))
  | .new m :: r, 0, _, i, n, h, e => by simp at h
  | .new m :: r, _ + 1, 0, i, n, h, e => by simp at e
  | .new m :: r, j + 1, k + 1, i, n, h, e => congrArg Nat.succ (lents_inj (rs := r) n (by simpa using h) (by simpa using e))
  | [], _, _, i, n, h, e => by simp at h
theorem argsE_get : ∀ {env : AEnv} {rs : List RV} {j : Nat} {r : RV}, rs[j]? = some r → (argsE env rs)[j]? = some (match r with | .dat d => .dat d | .at i => (match env[i]? with | some a => a | none => .un) | .new _ => .un)
  | env, .dat d :: rs, 0, r, h => by simp at h; subst h; rfl
  | env, .at d :: rs, 0, r, h => by simp at h; subst h; rfl
  | env, .new d :: rs, 0, r, h => by simp at h; subst h; rfl
  | env, .dat d :: rs, j + 1, r, h => by
    have := argsE_get (env := env) (rs := rs) (j := j) (r := r) (by simpa using h)
    simpa [argsE] using this
  | env, .at d :: rs, j + 1, r, h => by
    have := argsE_get (env := env) (rs := rs) (j := j) (r := r) (by simpa using h)
    simpa [argsE] using this
  | env, .new d :: rs, j + 1, r, h => by
    have := argsE_get (env := env) (rs := rs) (j := j) (r := r) (by simpa using h)
    simpa [argsE] using this
  | env, [], j, r, h => by simp at h
section
variable {K : Fg} {σ : L2.St} {Y : Ad} {env : AEnv} {H : Hp}
theorem ArgsOk.len : ∀ {vs : List V} {rs : List RV}, ArgsOk K H Y σ env vs rs → vs.length = rs.length
  | _, _, .nil => rfl
  | _, _, .cons _ r => congrArg Nat.succ r.len
theorem ArgsOk.get : ∀ {vs : List V} {rs : List RV} {j : Nat} {r : RV}, ArgsOk K H Y σ env vs rs → rs[j]? = some r → ∃ v, vs[j]? = some v ∧ ResOk K H Y Y σ env v r
  | _, _, 0, r, .cons h _, e => by simp at e; subst e; exact ⟨_, rfl, h⟩
  | _, _, j + 1, r, .cons _ t, e => by
    obtain ⟨v, a, b⟩ := ArgsOk.get (j := j) (r := r) t (by simpa using e)
    exact ⟨v, by simpa using a, b⟩
  | _, _, j, r, .nil, e => by simp at e
/-- a call by a promise over data -/
theorem call_ok {S : ASp} {rs : List RV} {vs : List V} {R : RV → AEnv → Prop} {Q : VK} (rep : Rep K Y H σ env) (ok : ArgsOk K H Y σ env vs rs) (q : callR S rs env R)
    (k : ∀ v H' env' r Y', Rep K Y' H' σ env' → Adv σ Y env H Y' env' H' → ResOk K H' Y Y' σ env' v r → R r env' → Q v H') (E : XK) : toSp K S vs H Q E := by
  unfold callR at q
  obtain ⟨⟨nd, low⟩, q⟩ := q
  -- the address lent at a place
  have lent : ∀ {j i : Nat}, rs[j]? = some (.at i) → ∃ p d, vs[j]? = some (.ref p) ∧ σ[i]? = some (some (.ref p)) ∧ env[i]? = some (.own d) ∧ ¬ Y p ∧ RO K H (Pw Y σ env) p d := fun {j i} h => by
    obtain ⟨v, hv, o⟩ := ok.get h
    obtain ⟨d, hd⟩ := low i (lents_mem.mpr ⟨j, h⟩)
    obtain ⟨p, hp, np, ro⟩ := rep.own i d hd
    have hs := o.2.1
    rw [hp] at hs
    cases hs
    exact ⟨p, d, hv, hp, hd, np, ro⟩
  have hl : vs.length = rs.length := ok.len
  have getr : ∀ {j : Nat} {a : AV}, (argsE env rs)[j]? = some a → ∃ r, rs[j]? = some r := fun {j a} h => by
    have : j < rs.length := by
      have := (List.getElem?_eq_some_iff.mp h).1
      rwa [argsE_len] at this
    exact ⟨rs[j], by simp [this]⟩
  -- an owned parameter is a lent slot
  have ownA : ∀ {j : Nat} {d : D}, (argsE env rs)[j]? = some (.own d) → ∃ i, rs[j]? = some (.at i) ∧ env[i]? = some (.own d) := fun {j d} h => by
    obtain ⟨r, hr⟩ := getr h
    rw [argsE_get hr] at h
    match r, h with
    | .at i, h =>
      obtain ⟨p, d', _, _, hd, _⟩ := lent hr
      simp only [hd, Option.some.injEq] at h
      exact ⟨i, hr, by rw [hd]; exact congrArg some h⟩
  let L : Addr → Prop := fun a => ∃ i, i ∈ lents rs ∧ σ[i]? = some (some (.ref a))
  let Yc : Ad := fun a => Pw Y σ env a ∧ ¬ L a
  have ownC : ∀ a, Own (vs.map some) (argsE env rs) a ↔ L a := fun a => by
    constructor
    · rintro ⟨j, d, h, w⟩
      obtain ⟨i, hr, hd⟩ := ownA h
      obtain ⟨p, _, hv, hp, _, _⟩ := lent hr
      rw [List.getElem?_map, hv] at w
      cases w
      exact ⟨i, lents_mem.mpr ⟨j, hr⟩, hp⟩
    · rintro ⟨i, hi, w⟩
      obtain ⟨j, hr⟩ := lents_mem.mp hi
      obtain ⟨p, d, hv, hp, hd, _⟩ := lent hr
      rw [w] at hp; cases hp
      exact ⟨j, d, by rw [argsE_get hr]; simp [hd], by rw [List.getElem?_map, hv]; rfl⟩
  have lPw : ∀ a, L a → Pw Y σ env a := fun a ⟨i, hi, w⟩ => by
    obtain ⟨d, hd⟩ := low i hi
    exact .inr ⟨i, d, hd, w⟩
  have pwC : ∀ a, Pw Yc (vs.map some) (argsE env rs) a ↔ Pw Y σ env a := fun a => by
    constructor
    · rintro (z | z)
      · exact z.1
      · exact lPw a ((ownC a).mp z)
    · intro z
      by_cases h : L a
      · exact .inr ((ownC a).mpr h)
      · exact .inl ⟨z, h⟩
  have tracked : ∀ a, Pw Y σ env a → ∃ o, H a = some o ∧ Mut (some o) := fun a z => by
    rcases z with z | ⟨i, d, e, w⟩
    · exact rep.yim a z
    · obtain ⟨p, hp, _, ro⟩ := rep.own i d e
      rw [w] at hp; cases hp
      exact ro.some
  have repC : Rep K Yc H (vs.map some) (argsE env rs) := by
    refine ⟨by rw [List.length_map, argsE_len, hl], fun j d h => ?_, fun j d h => ?_, fun a z => tracked a z.1, fun j m d e p h1 h2 w1 w2 => ?_⟩
    · obtain ⟨r, hr⟩ := getr h
      obtain ⟨v, hv, o⟩ := ok.get hr
      rw [argsE_get hr] at h
      match r, o, h, hr with
      | .dat d', o, h, hr =>
        cases h
        exact ⟨v, by rw [List.getElem?_map, hv]; rfl, o.2.less fun a z => (pwC a).mp z⟩
      | .at i, o, h, hr =>
        obtain ⟨p, d', _, _, hd, _⟩ := lent hr
        simp only [hd] at h
        cases h
    · obtain ⟨i, hr, hd⟩ := ownA h
      obtain ⟨p, d', hv, hp, hd', np, ro⟩ := lent hr
      rw [hd] at hd'; cases hd'
      exact ⟨p, by rw [List.getElem?_map, hv]; rfl, fun z => z.2 ⟨i, lents_mem.mpr ⟨j, hr⟩, hp⟩, ro.less fun a z => (pwC a).mp z⟩
    · obtain ⟨i1, hr1, hd1⟩ := ownA h1
      obtain ⟨i2, hr2, hd2⟩ := ownA h2
      obtain ⟨p1, _, hv1, hp1, _⟩ := lent hr1
      obtain ⟨p2, _, hv2, hp2, _⟩ := lent hr2
      rw [List.getElem?_map, hv1] at w1
      rw [List.getElem?_map, hv2] at w2
      cases w1
      cases w2
      have := rep.inj i1 i2 d e p hd1 hd2 hp1 hp2
      subst this
      exact lents_inj nd hr1 hr2
  refine ⟨Yc, argsE env rs, _, repC, q, fun v H' r avs' Yc' repc advc yc okc noat q' => ?_⟩
  -- what the result adds
  have goC := advc.go repC
  have yk : ∀ a, Yc a → H' a = H a := advc.ky
  have yy : ∀ a, Y a → Yc a := fun a z => ⟨.inl z, fun ⟨i, hi, w⟩ => by
    obtain ⟨d, hd⟩ := low i hi
    obtain ⟨p, hp, np, _⟩ := rep.own i d hd
    rw [w] at hp; cases hp
    exact np z⟩
  have lav : avs'.length = rs.length := by
    have := repc.len
    rw [List.length_map] at this
    omega
  have bin : ∀ {j i : Nat}, rs[j]? = some (.at i) → ∃ a, avs'[j]? = some a ∧ (backE env rs avs')[i]? = some a := fun {j i} h => by
    have hj : j < avs'.length := by
      rw [lav]
      exact (List.getElem?_eq_some_iff.mp h).1
    obtain ⟨p, d, _, _, hd, _⟩ := lent h
    exact ⟨avs'[j], by simp [hj], backE_in nd h (by simp [hj]) (List.getElem?_eq_some_iff.mp hd).1⟩
  have fin : ∀ (Y' : Ad), (∀ a, Y' a → Yc' a) → (∀ a, Y a → Y' a) → (∀ a, Y' a → Y a ∨ H a = none) → Rep K Y' H' σ (backE env rs avs') ∧ Adv σ Y env H Y' (backE env rs avs') H' ∧ (∀ a, Own σ (backE env rs avs') a → Yc a ∨ Own (vs.map some) avs' a) := fun Y' y1 y2 y3 => by
    have slot : ∀ (i : Nat) (a : AV), (backE env rs avs')[i]? = some a → (i ∉ lents rs ∧ env[i]? = some a) ∨ ∃ j : Nat, rs[j]? = some (.at i) ∧ avs'[j]? = some a := fun i a h => by
      by_cases hi : i ∈ lents rs
      · obtain ⟨j, hr⟩ := lents_mem.mp hi
        obtain ⟨b, h1, h2⟩ := bin hr
        rw [h2] at h
        exact .inr ⟨j, hr, by rw [h1]; exact h⟩
      · rw [backE_out hi] at h
        exact .inl ⟨hi, h⟩
    have notL : ∀ {i : Nat} {d : D} {p : Addr}, i ∉ lents rs → env[i]? = some (.own d) → σ[i]? = some (some (.ref p)) → Yc p := fun {i d p} hi h w => by
      refine ⟨.inr ⟨i, d, h, w⟩, fun ⟨m, hm, w2⟩ => ?_⟩
      obtain ⟨e, he⟩ := low m hm
      exact hi (rep.inj i m d e p h he w w2 ▸ hm)
    have owB : ∀ a, Own σ (backE env rs avs') a → Yc a ∨ Own (vs.map some) avs' a := fun a ⟨i, d, h, w⟩ => by
      rcases slot i _ h with ⟨hi, h'⟩ | ⟨j, hr, h'⟩
      · exact .inl (notL hi h' w)
      · obtain ⟨p, _, hv, hp, _⟩ := lent hr
        rw [w] at hp; cases hp
        exact .inr ⟨j, d, h', by rw [List.getElem?_map, hv]; rfl⟩
    have pwB : ∀ a, Pw Y' σ (backE env rs avs') a → Pw Yc' (vs.map some) avs' a := fun a z => by
      rcases z with z | z
      · exact .inl (y1 a z)
      · rcases owB a z with z | z
        · exact .inl (advc.yu a z)
        · exact .inr z
    have move : ∀ {v : V} {d : D}, RD K H (Pw Y σ env) v d → RD K H' (Pw Y' σ (backE env rs avs')) v d := fun {v d} r => (((r.less fun a z => (pwC a).mp z).go goC fun a z => .inr z).less pwB)
    refine ⟨⟨by rw [backE_len]; exact rep.len, fun i d h => ?_, fun i d h => ?_, fun a z => ?_, fun i m d e p h1 h2 w1 w2 => ?_⟩, ⟨fun a o h n => advc.keep a o h fun z => ?_, fun a z => yk a (yy a z), y2, y3, fun i => ?_, advc.live⟩, owB⟩
    · rcases slot i _ h with ⟨hi, h'⟩ | ⟨j, hr, h'⟩
      · obtain ⟨v, w, r⟩ := rep.dat i d h'
        exact ⟨v, w, move r⟩
      · obtain ⟨v, w, r⟩ := repc.dat j d h'
        obtain ⟨p, _, hv, hp, _⟩ := lent hr
        rw [List.getElem?_map, hv] at w
        cases w
        exact ⟨_, hp, r.less pwB⟩
    · rcases slot i _ h with ⟨hi, h'⟩ | ⟨j, hr, h'⟩
      · obtain ⟨p, w, n, ro⟩ := rep.own i d h'
        have yp := notL hi h' w
        refine ⟨p, w, fun z => ?_, ((ro.less fun a z => (pwC a).mp z).go goC (fun a z => .inr z) (yk p yp)).less pwB⟩
        rcases y3 p z with z | z
        · exact n z
        · obtain ⟨o, e, _⟩ := ro.some
          rw [e] at z; cases z
      · obtain ⟨p, w, n, ro⟩ := repc.own j d h'
        obtain ⟨p', _, hv, hp, _⟩ := lent hr
        rw [List.getElem?_map, hv] at w
        cases w
        exact ⟨_, hp, fun z => n (y1 _ z), ro.less pwB⟩
    · exact repc.yim a (y1 a z)
    · rcases slot i _ h1 with ⟨hi, h1'⟩ | ⟨j1, hr1, h1'⟩
      · rcases slot m _ h2 with ⟨hm, h2'⟩ | ⟨j2, hr2, h2'⟩
        · exact rep.inj i m d e p h1' h2' w1 w2
        · obtain ⟨p2, d2, _, hp2, hd2, _⟩ := lent hr2
          rw [w2] at hp2; cases hp2
          exact rep.inj i m d d2 p h1' hd2 w1 w2
      · obtain ⟨p1, d1, _, hp1, hd1, _⟩ := lent hr1
        rw [w1] at hp1; cases hp1
        rcases slot m _ h2 with ⟨hm, h2'⟩ | ⟨j2, hr2, h2'⟩
        · exact rep.inj i m d1 e p hd1 h2' w1 w2
        · obtain ⟨p2, d2, _, hp2, hd2, _⟩ := lent hr2
          rw [w2] at hp2; cases hp2
          exact rep.inj i m d1 d2 p hd1 hd2 w1 w2
    · obtain ⟨i, hi, w⟩ := (ownC a).mp z
      obtain ⟨d, hd⟩ := low i hi
      exact n ⟨i, d, hd, w⟩
    · by_cases hi : i ∈ lents rs
      · obtain ⟨j, hr⟩ := lents_mem.mp hi
        obtain ⟨b, h1, h2⟩ := bin hr
        obtain ⟨p, d, _, _, hd, _⟩ := lent hr
        have s := advc.pr j rfl
        rw [argsE_get hr, h1] at s
        rw [hd, h2]
        simpa [hd] using s
      · rw [backE_out hi]
        exact Sh.refl _
  match r, okc, q', noat with
  | .dat d, okc, q', _ =>
    obtain ⟨ey, rd⟩ := okc
    subst ey
    obtain ⟨a, b, c⟩ := fin Y yy (fun _ z => z) fun _ z => .inl z
    refine k v H' _ (.dat d) Y a b ⟨rfl, rd.less fun x z => ?_⟩ q'
    rcases z with z | z
    · exact .inl (yy x z)
    · exact (c x z).imp id id
  | .new d, okc, q', _ =>
    obtain ⟨p, e, ey, n, ro⟩ := okc
    have nY : ∀ a, a = p → H a = none := fun a z => by
      subst z
      rcases yc a (by rw [ey]; exact .inr rfl) with w | w
      · exact (n (.inl w)).elim
      · exact w
    obtain ⟨a, b, c⟩ := fin (fun a => Y a ∨ a = p) (fun a z => by rw [ey]; exact z.imp (yy a) id) (fun _ z => .inl z) fun a z => z.imp id (nY a)
    refine k v H' _ (.new d) _ a b ⟨p, e, rfl, fun z => ?_, ro.less fun x z => ?_⟩ q'
    · rcases z with z | z
      · exact n (.inl (yy p z))
      · exact n (c p z)
    · rw [ey]
      rcases z with z | z
      · exact .inl (z.imp (yy x) id)
      · rcases c x z with z | z
        · exact .inl (.inl z)
        · exact .inr z
  | .at i, okc, q', noat => exact absurd rfl (noat i)
end
section
variable {X : Cx} {x : Str} {p pos : Pos} {e : Expr} {es : List Expr} {t : AA'} {S : ASp} {k : Nat} {f : Addr} {fd : FuncData} {ps : List Str}
theorem ae_fn (F : FnOk X.prog X.w X.K X.mg X.base CX0 k f fd ps (toSp X.K S)) (hr : Room k X.A) (hg : Gl X x) (hm : X.mg x = some (.ref f)) (hk : PySem.W.keepIn X.K (.ref f) = true) (hb : Binds X.K fd ps []) (ha : AA X (e :: es) t) (hdb : (x == ("__debug__" : Str)) = false := by decide)
    (he : starEach (e :: es) X.env = (false, eval e X.env) :: starEach es X.env := by rfl) (hpl : (backTo pos (starEach es X.env)).any (·.1) = false := by rfl) : AE X (.Call (.Name x p) (e :: es) [] pos) (aFn S t) := by
  obtain ⟨u, pa, s⟩ := ha
  refine ⟨_, pe_call F hr hg hm hk hb .nil pass0 pa hdb he hpl, fun Y H σ env R Q rep q k => ?_⟩
  refine s Y H σ env _ _ rep q fun vs H' env' rs rep' g ok q' => ?_
  rw [List.append_nil]
  exact call_ok rep' ok q' (fun v H2 env2 r Y2 rep2 g2 ok2 q2 => k v H2 env2 r Y2 rep2 (g.trans g2) ok2 q2) _
end
end AL
namespace AL
open PySem L2
/-! AL14: built-in functions of one thing that is read, methods, fields, instances. -/
abbrev Op1 := D → (RV → Prop) → Prop
def Rd1S (K : Fg) (r : List V → Hp → VK → Prop) (f : Op1) : Prop := ∀ (Y : Ad) (H : Hp) (σ : L2.St) (env : AEnv) (x : V) (d : D) (F : RV → Prop) (Q : VK), Rep K Y H σ env → RC K H (Pw Y σ env) x d → f d F → Fin K Y H σ env F Q → r [x] H Q
/-- a thing is read: not handed over -/
def aRd (f : Op1) (a : AE') : AE' := fun env R => a env fun r env1 => match val env1 r with
  | some d => f d fun z => R z env1
  | none => False
theorem snd_rd {K : Fg} {r : List V → Hp → VK → Prop} {f : Op1} {t : TE} {a : AE'} (o : Rd1S K r f) (s : Snd K t a) : Snd K (tCB r (tCons t tNil)) (aRd f a) := by
  intro Y H σ env R Q rep q k
  refine s Y H σ env _ _ rep q fun v H' env' z Y' rep' g ok q' => ?_
  obtain ⟨d, e1, c⟩ := ok.rc rep'
  simp only [e1] at q'
  exact o Y H' σ env' v d _ _ (rep'.less g.yu) (c.less (pw_less g.yu)) q' fun w H2 z2 Y2 rep2 g2 ok2 q2 => k w H2 env' z2 Y2 rep2 (g.drop.trans g2) ok2 q2
section
variable {X : Cx} {x : Str} {p pos : Pos} {e : Expr} {a : AE'} {f : Op1}
theorem ae_rdB {id : String} {r : List V → Hp → VK → Prop} (hc : CallR X (.builtin id) r) (o : Rd1S X.K r f) (hg : Gl X x) (hm : X.mg x = none) (hv : bootBuiltins x = some (.builtin id)) (ha : AE X e a) (hn : x ≠ "__name__" := by decide) (hdb : (x == ("__debug__" : Str)) = false := by decide)
    (he : starEach [e] X.env = (false, eval e X.env) :: starEach [] X.env := by rfl) : AE X (.Call (.Name x p) [e] [] pos) (aRd f a) := by
  obtain ⟨u, pe, s⟩ := ha
  exact ⟨_, pe_callB hc hg hm hv (pa_cons pe pa_nil he) hn hdb he rfl, snd_rd o s⟩
theorem ae_rdT {T : String} {r : List V → Hp → VK → Prop} (hc : CallR X (.type T) r) (o : Rd1S X.K r f) (hg : Gl X x) (hm : X.mg x = none) (hv : bootBuiltins x = some (.type T)) (ha : AE X e a) (hn : x ≠ "__name__" := by decide) (hdb : (x == ("__debug__" : Str)) = false := by decide)
    (he : starEach [e] X.env = (false, eval e X.env) :: starEach [] X.env := by rfl) : AE X (.Call (.Name x p) [e] [] pos) (aRd f a) := by
  obtain ⟨u, pe, s⟩ := ha
  exact ⟨_, pe_callTy hc hg hm hv (pa_cons pe pa_nil he) hn hdb he rfl, snd_rd o s⟩
end
/-! len -/
def fLen : Op1 := fun d F => match d with
  | .lst l => F (.dat (.int l.length))
  | .tup l => F (.dat (.int l.length))
  | .str z => z.length ≤ sizeLine ∧ F (.dat (.int z.length))
  | _ => False
abbrev rLen1 (K : Fg) : List V → Hp → VK → Prop := fun xs H Q => ∃ x n, xs = [x] ∧ LenV K x H n ∧ Q (.int n) H
theorem rs_len (K : Fg) : Rd1S K (rLen1 K) fLen := by
  intro Y H σ env x d F Q R c f k
  match d, c, f with
  | .lst l, c, f =>
    obtain ⟨p, us, e, h, r, _⟩ := c.lst
    subst e
    refine ⟨_, us.length, rfl, .inl ⟨us, .of h, rfl⟩, ?_⟩
    rw [r.length]
    exact fin_dat R k (.int _) f
  | .tup l, c, f =>
    obtain ⟨p, us, e, h, r, _, _⟩ := c.tup
    subst e
    refine ⟨_, us.length, rfl, .inr ⟨us, h, rfl⟩, ?_⟩
    rw [r.length]
    exact fin_dat R k (.int _) f
  | .str z, c, f =>
    rw [c.str]
    exact ⟨_, z.length, rfl, ⟨f.1, rfl⟩, fin_dat R k (.int _) f.2⟩
/-! int -/
def fInt : Op1 := fun d F => match d with
  | .int i => F (.dat (.int i))
  | .bl b => F (.dat (.int (if b then 1 else 0)))
  | _ => False
theorem rs_int (K : Fg) : Rd1S K (fun xs H Q => (∃ i, xs = [.int i] ∧ Q (.int i) H) ∨ ∃ k, xs = [.bl k] ∧ Q (.int (if k then 1 else 0)) H) fInt := by
  intro Y H σ env x d F Q R c f k
  match d, c, f with
  | .int i, c, f => rw [c.int]; exact .inl ⟨i, rfl, fin_dat R k (.int _) f⟩
  | .bl b, c, f => rw [c.bl]; exact .inr ⟨b, rfl, fin_dat R k (.int _) f⟩
/-! list, tuple -/
def fList : Op1 := fun d F => match d with
  | .lst l => F (.new (.lst l))
  | .tup l => F (.new (.lst l))
  | _ => False
def fTuple : Op1 := fun d F => match d with
  | .lst l => F (.dat (.tup l))
  | .tup l => F (.dat (.tup l))
  | _ => False
theorem rs_list (K : Fg) : Rd1S K (fun xs H Q => ∃ p ys, xs = [.ref p] ∧ (SqL K H p ys ∨ SqT K H p ys) ∧ ∀ l, H l = none → Q (.ref l) (upd H l (.lst ys))) fList := by
  intro Y H σ env x d F Q R c f k
  match d, c, f with
  | .lst l, c, f =>
    obtain ⟨p, us, e, h, r, hl⟩ := c.lst
    subst e
    exact ⟨p, us, rfl, .inl (.of h), fun q n => fin_lst R k r hl f n⟩
  | .tup l, c, f =>
    obtain ⟨p, us, e, h, r, _, hl⟩ := c.tup
    subst e
    exact ⟨p, us, rfl, .inr h, fun q n => fin_lst R k r hl f n⟩
theorem rs_tuple (K : Fg) : Rd1S K (fun xs H Q => ∃ p ys, xs = [.ref p] ∧ ((SqL K H p ys ∧ ∀ l, H l = none → Q (.ref l) (upd H l (.tup ys))) ∨ (SqT K H p ys ∧ Q (.ref p) H))) fTuple := by
  intro Y H σ env x d F Q R c f k
  match d, c, f with
  | .lst l, c, f =>
    obtain ⟨p, us, e, h, r, hl⟩ := c.lst
    subst e
    exact ⟨p, us, rfl, .inl ⟨.of h, fun q n => fin_tup R k r hl f n⟩⟩
  | .tup l, c, f =>
    obtain ⟨p, us, e, h, r, rd, hl⟩ := c.tup
    subst e
    exact ⟨p, us, rfl, .inr ⟨h, fin_dat R k rd f⟩⟩
/-! all, any -/
def fAll : Op1 := fun d F => match d with
  | .lst l => ∃ bs : List Bool, l = bs.map D.bl ∧ F (.dat (.bl (bs.all id)))
  | _ => False
def fAny : Op1 := fun d F => match d with
  | .lst l => ∃ bs : List Bool, l = bs.map D.bl ∧ F (.dat (.bl (bs.any id)))
  | _ => False
theorem rs_all (K : Fg) : Rd1S K (rAll K) fAll := by
  intro Y H σ env x d F Q R c f k
  match d, c, f with
  | .lst l, c, f =>
    obtain ⟨bs, rfl, f⟩ := f
    obtain ⟨p, us, e, h, r, hl⟩ := c.lst
    subst e
    have := r.ofBls
    subst this
    exact ⟨p, bs, rfl, .of h, fin_dat R k (.bl _) f⟩
theorem rs_any (K : Fg) : Rd1S K (rAny K) fAny := by
  intro Y H σ env x d F Q R c f k
  match d, c, f with
  | .lst l, c, f =>
    obtain ⟨bs, rfl, f⟩ := f
    obtain ⟨p, us, e, h, r, hl⟩ := c.lst
    subst e
    have := r.ofBls
    subst this
    exact ⟨p, bs, rfl, .of h, fin_dat R k (.bl _) f⟩
/-! sorted of ints -/
def fSorted : Op1 := fun d F => match d with
  | .lst l => ∃ ns : List Int, l = ns.map D.int ∧ ∀ ns' : List Int, ns'.Perm ns → ns'.Pairwise (· ≤ ·) → F (.new (.lst (ns'.map D.int)))
  | _ => False
theorem rs_sorted (K : Fg) : Rd1S K (rSortedI K) fSorted := by
  intro Y H σ env x d F Q R c f k
  match d, c, f with
  | .lst l, c, f =>
    obtain ⟨ns, rfl, f⟩ := f
    obtain ⟨p, us, e, h, r, hl⟩ := c.lst
    subst e
    have := r.ofInts
    subst this
    refine ⟨p, ns, rfl, .of h, fun ns' q pm pw n => fin_lst R k (RDs.ints ns') ?_ (f ns' pm pw) n⟩
    have := pm.length_eq
    rw [List.length_map] at hl ⊢
    omega
/-! isinstance with a built-in type -/
def tyD : D → Option String
  | .non => some "NoneType"
  | .bl _ => some "bool"
  | .int _ => some "int"
  | .str _ => some "str"
  | .tup _ => some "tuple"
  | .lst _ => some "list"
  | .dic _ _ => some "dict"
  | _ => none
def aIsi (T : String) (a : AE') : AE' := fun env R => a env fun r env1 => match val env1 r with
  | some d => ∃ ty b, tyD d = some ty ∧ kitB ty T = some b ∧ R (.dat (.bl b)) env1
  | none => False
theorem RC.ty {K : Fg} {H : Hp} {P : Ad} {v : V} {d : D} {ty : String} (c : RC K H P v d) (h : tyD d = some ty) : TyX K H v (.type ty) := by
  match d, c, h with
  | .non, c, h => cases h; rw [c.non]; exact .base .non
  | .bl b, c, h => cases h; rw [c.bl]; exact .base (.bl b)
  | .int b, c, h => cases h; rw [c.int]; exact .base (.int b)
  | .str b, c, h => cases h; rw [c.str]; exact .base (.str b)
  | .lst l, c, h =>
    cases h
    obtain ⟨p, us, e, h, r, _⟩ := c.lst
    subst e
    exact .base (.lst h)
  | .tup l, c, h =>
    cases h
    obtain ⟨p, us, e, h, r, _, _⟩ := c.tup
    subst e
    rcases h with (h | ⟨o, h⟩) | ⟨o, its, n, h1, h2, _⟩
    · exact .base (.tup h)
    · exact .fTuple h
    · exact .kTuple h1 h2
  | .dic l m, c, h =>
    cases h
    obtain ⟨p, e, kvs, h, _⟩ := c.dic
    subst e
    rcases h with h | ⟨o, h⟩
    · exact .base (.dK h)
    · exact .fDict h
theorem ae_isi {X : Cx} {e : Expr} {a : AE'} {T : String} {y : Str} {p p2 pos : Pos} (ha : AE X e a) (hg : Gl X "isinstance") (hm : X.mg "isinstance" = none) (gT : Gl X y) (mT : X.mg y = none) (vT : bootBuiltins y = some (.type T)) (nT : y ≠ "__name__" := by decide) (dT : (y == ("__debug__" : Str)) = false := by decide)
    (he : starEach [e, .Name y p2] X.env = (false, eval e X.env) :: starEach [.Name y p2] X.env := by rfl) (he2 : starEach [.Name y p2] X.env = (false, eval (.Name y p2) X.env) :: starEach [] X.env := by rfl) (hpl : (backTo pos (starEach [.Name y p2] X.env)).any (·.1) = false := by rfl) :
    AE X (.Call (.Name "isinstance" p) [e, .Name y p2] [] pos) (aIsi T a) := by
  obtain ⟨t, pe, s⟩ := ha
  refine ⟨_, pe_callB call_isi hg hm (by decide +kernel) (pa_cons pe (pa_cons (pe_bltn (v := .ty T) gT mT vT rfl nT dT) pa_nil he2) he) (by decide) (by decide) he hpl, fun Y H σ env R Q rep q k => ?_⟩
  refine s Y H σ env _ _ rep q fun v H' env' z Y' rep' g ok q' => ?_
  obtain ⟨d, e1, c⟩ := ok.rc rep'
  simp only [e1] at q'
  obtain ⟨ty, b, h1, h2, q'⟩ := q'
  exact ⟨v, .ty T, _, _, b, rfl, .ty T, c.ty h1, kit_ty h2, k (.bl b) H' env' (.dat (.bl b)) Y (rep'.less g.yu) g.drop ⟨rfl, .bl b⟩ q'⟩

/-! ### methods of lists -/
/-- x.append(e), x.extend(e), x.pop(e): x an owned list's name, e data -/
def aMut (i : Nat) (t : AA') (f : List D → List D → (List D → D → Prop) → Prop) : AE' := fun env R => (∃ l, env[i]? = some (.own (.lst l))) ∧ t env fun rs env1 => match env1[i]?, dats rs with
  | some (.own (.lst l)), some ds => f l ds fun l' z => R (.dat z) (env1.set i (.own (.lst l')))
  | _, _ => False
def fAppend (l : List D) (ds : List D) (N : List D → D → Prop) : Prop := match ds with
  | [d] => l.length < sizeLine ∧ N (l ++ [d]) .non
  | _ => False
def fExtend (l : List D) (ds : List D) (N : List D → D → Prop) : Prop := match ds with
  | [.lst m] => l.length + m.length ≤ sizeLine ∧ N (l ++ m) .non
  | _ => False
def fPopAt (l : List D) (ds : List D) (N : List D → D → Prop) : Prop := match ds with
  | [.int i] => -(2 ^ 63) ≤ i ∧ i < 2 ^ 63 ∧ ∃ k z, seqIndex? i l.length = some k ∧ l[k]? = some z ∧ N (l.eraseIdx k) z
  | _ => False
end AL
namespace AL
open PySem L2
/-! AL15: methods, fields, instances. -/
/-- what a method that changes an owned list does -/
def MutS (K : Fg) (r : V → List V → Hp → VK → Prop) (f : List D → List D → (List D → D → Prop) → Prop) : Prop := ∀ (Y : Ad) (H : Hp) (σ : L2.St) (env : AEnv) (i : Nat) (p : Addr) (l ds : List D) (us : List V) (N : List D → D → Prop) (Q : VK), Rep K Y H σ env →
  env[i]? = some (.own (.lst l)) → σ[i]? = some (some (.ref p)) → RDs K H (Pw Y σ env) us ds → f l ds N →
  (∀ v H' l' z, Rep K Y H' σ (env.set i (.own (.lst l'))) → Adv σ Y env H Y (env.set i (.own (.lst l'))) H' → RD K H' (Pw Y σ (env.set i (.own (.lst l')))) v z → N l' z → Q v H') → r (.ref p) us H Q
section
variable {K : Fg} {σ : L2.St} {Y : Ad} {env : AEnv} {H : Hp}
/-- an owned list is stored anew -/
theorem mut_lst {i : Nat} {p : Addr} {l l' : List D} {us' : List V} (R : Rep K Y H σ env) (h : env[i]? = some (.own (.lst l))) (hp : σ[i]? = some (some (.ref p))) (r : RDs K H (Pw Y σ env) us' l') (hl : l'.length ≤ sizeLine) :
    Rep K Y (upd H p (.lst us')) σ (env.set i (.own (.lst l'))) ∧ Adv σ Y env H Y (env.set i (.own (.lst l'))) (upd H p (.lst us')) ∧ (∀ {v : V} {d : D}, RD K H (Pw Y σ env) v d → RD K (upd H p (.lst us')) (Pw Y σ (env.set i (.own (.lst l')))) v d) := by
  have hi : i < env.length := (List.getElem?_eq_some_iff.mp h).1
  obtain ⟨a, b⟩ := R.mut (B := fun _ => false) (o := .lst us') (d1 := .lst l') h hp fun P pw g => ⟨us', upd_same, Go.rds g (fun a e => by subst e; exact .inr ⟨i, _, h, hp⟩) r, by rw [r.length]; exact hl⟩
  refine ⟨a, ⟨b.keep, b.ky, b.yu, fun a z => .inl z, fun j => ?_, b.live⟩, fun rd => b.rd R rd⟩
  by_cases e : i = j
  · subst e
    rw [List.getElem?_set_self hi, h]
    trivial
  · rw [List.getElem?_set_ne e]
    exact Sh.refl _
end
theorem ms_append (K : Fg) : MutS K rAppend fAppend := by
  intro Y H σ env i p l ds us N Q R h hp r f k
  match ds, r, f with
  | [d], .cons r .nil, f =>
    obtain ⟨q, hq, _, us0, hu, r0, hl⟩ := R.own i _ h
    rw [hp] at hq; cases hq
    obtain ⟨a, b, c⟩ := mut_lst (us' := us0 ++ [_]) (l' := l ++ [d]) R h hp (r0.append (.cons r .nil)) (by rw [List.length_append]; exact f.1)
    exact ⟨p, us0, _, rfl, rfl, hu, by rw [r0.length]; exact f.1, k .non _ _ .non a b .non f.2⟩
theorem ms_extend (K : Fg) : MutS K rExtend fExtend := by
  intro Y H σ env i p l ds us N Q R h hp r f k
  match ds, r, f with
  | [.lst m], .cons r .nil, f =>
    obtain ⟨q, hq, _, us0, hu, r0, hl⟩ := R.own i _ h
    rw [hp] at hq; cases hq
    cases r with
    | lst sl rm =>
      obtain ⟨a, b, c⟩ := mut_lst (us' := us0 ++ _) (l' := l ++ m) R h hp (r0.append rm) (by rw [List.length_append]; exact f.1)
      exact ⟨p, _, us0, _, rfl, rfl, hu, sl.1, by rw [r0.length, rm.length]; exact f.1, k .non _ _ .non a b .non f.2⟩
theorem RDs.eraseIdx {K : Fg} {H : Hp} {P : Ad} : ∀ {us : List V} {ds : List D} (n : Nat), RDs K H P us ds → RDs K H P (us.eraseIdx n) (ds.eraseIdx n)
  | _, _, _, .nil => .nil
  | _, _, 0, .cons _ t => t
  | _, _, n + 1, .cons r t => .cons r (RDs.eraseIdx n t)
theorem ms_popAt (K : Fg) : MutS K rPopAt fPopAt := by
  intro Y H σ env i p l ds us N Q R h hp r f k
  match ds, r, f with
  | [.int j], .cons r .nil, f =>
    cases r
    obtain ⟨f1, f2, m, z, f3, f4, f⟩ := f
    obtain ⟨q, hq, _, us0, hu, r0, hl⟩ := R.own i _ h
    rw [hp] at hq; cases hq
    obtain ⟨v, hv, rz⟩ := r0.get f4
    obtain ⟨a, b, c⟩ := mut_lst (us' := us0.eraseIdx m) (l' := l.eraseIdx m) R h hp (r0.eraseIdx m) (by
      have := List.length_eraseIdx_le l m
      rw [r0.length] at hl
      omega)
    exact ⟨p, us0, j, m, v, rfl, rfl, hu, f1, f2, by rw [r0.length]; exact f3, hv, k v _ _ z a b (c rz) f⟩
section
variable {X : Cx} {x name : Str} {pos apos cpos : Pos} {e : Expr} {es : List Expr} {t : AA'} {f : List D → List D → (List D → D → Prop) → Prop} {id : String} {r : V → List V → Hp → VK → Prop}
theorem ae_mut (i : Nat) (slot : Slot "list" name id) (hty : typeOf (.builtin id) = pure (.type "method_descriptor")) (hm : MtR X id r) (ms : MutS X.K r f) (ha : AA X (e :: es) t)
    (hN : X.N[i]? = some x := by rfl) (hv : Vis X.env.scope x := by first | exact Or.inl rfl | exact Or.inr (Or.inl rfl) | exact Or.inr (Or.inr rfl)) (hd : (x == ("__debug__" : Str)) = false := by decide) (hcd : (x == ("__classdict__" : Str)) = false := by decide)
    (hbase : attributeBase (.Name x pos) name X.env (eval (.Name x pos) X.env) = eval (.Name x pos) X.env := by rfl)
    (hfew : ((backTo cpos (starEach (e :: es) X.env)).all (fun x => !x.1) && (backToKw cpos (keywordEach [] X.env)).all (fun x => x.1.isSome)
      && decide ((e :: es).length + ([] : List Keyword).length + (if ([] : List Keyword).isEmpty then 0 else 1) < 30)) = true := by rfl)
    (hline : (apos.endLine == cpos.line) = true := by rfl) (hs : starEach (e :: es) X.env = (false, eval e X.env) :: starEach es X.env := by rfl) (hplain : (backTo cpos (starEach es X.env)).any (·.1) = false := by rfl) :
    AE X (.Call (.Attribute (.Name x pos) name apos) (e :: es) [] cpos) (aMut i t f) := by
  obtain ⟨ta, pa, sa⟩ := ha
  refine ⟨_, pe_bm PySem.F.plainAttrs_list slot hty hm (pe_var hN hv hd hcd) pa hbase hfew hline hs hplain, fun Y H σ env R Q rep q k => ?_⟩
  obtain ⟨⟨l0, h0⟩, q⟩ := q
  obtain ⟨p, hp, np, us0, hu0, _, _⟩ := rep.own i _ h0
  refine ⟨.ref p, hp, .inl ⟨rfl, us0, .of hu0⟩, ?_⟩
  refine sa Y H σ env _ _ rep q fun vs H1 env1 rs rep1 g1 ok1 q1 => ?_
  match w : env1[i]?, w2 : dats rs, q1 with
  | some (.own (.lst l)), some ds, q1 =>
    exact ms Y H1 σ env1 i p l ds vs _ _ rep1 w hp (ok1.dats w2) q1 fun v H2 l' z rep2 g2 rd q2 => k v H2 _ (.dat z) Y rep2 (g1.trans g2) ⟨rfl, rd⟩ q2
end
/-! ### d.get(k, e) -/
def aGet (o k e : AE') : AE' := fun env R => o env fun r env1 => (match val env1 r with | some (.dic _ _) => True | _ => False) ∧ aFrz k env1 fun rk env2 => aFrz e env2 fun re env3 => match val env3 r, rk, re with
  | some (.dic ks vs), .dat key, .dat dflt => isKey key = true ∧ R (.dat ((dGet ks vs key).getD dflt)) env3
  | _, _, _ => False
theorem ae_get {X : Cx} {o e f : Expr} {apos cpos : Pos} {fo fk fe : AE'} {j : Nat} (hr : Room j X.A) (ho : AE X o fo) (hk : AE X e fk) (he : AE X f fe) (m : M2 X o "get" apos e f cpos := by exact ⟨rfl, rfl, rfl, rfl⟩) : AE X (.Call (.Attribute o "get" apos) [e, f] [] cpos) (aGet fo fk fe) := by
  obtain ⟨t1, p1, s1⟩ := ho
  obtain ⟨t2, p2, s2⟩ := hk.frz
  obtain ⟨t3, p3, s3⟩ := he.frz
  refine ⟨_, pe_dget2 (by have := hr.un; omega) p1 p2 p3 m, fun Y H σ env R Q rep q k => ?_⟩
  refine s1 Y H σ env _ _ rep q fun v H1 env1 r1 Y1 rep1 g1 ok1 q1 => ?_
  obtain ⟨isd, q1⟩ := q1
  obtain ⟨d1, e1, c1⟩ := ok1.rc rep1
  rw [e1] at isd
  match d1, c1, isd with
  | .dic ks0 vs0, c1, _ =>
    obtain ⟨p, ep, kvs, hrd, _, _⟩ := c1.dic
    refine ⟨p, ep, .inl ⟨kvs, hrd⟩, ?_⟩
    refine s2 Y1 H1 σ env1 _ _ rep1 q1 fun vk H2 env2 r2 Y2 rep2 g2 ok2 q2 => ?_
    refine s3 Y2 H2 σ env2 _ _ rep2 q2 fun ve H3 env3 r3 Y3 rep3 g3 ok3 q3 => ?_
    obtain ⟨d, ed, cd⟩ := ok1.later (g2.trans g3) rep3
    have gg := (g1.trans g2).trans g3
    rw [ed] at q3
    match d, cd, r2, ok2, r3, ok3, q3 with
    | .dic ks vs, cd, .dat key, ok2, .dat dflt, ok3, q3 =>
      obtain ⟨hk, q3⟩ := q3
      obtain ⟨ey2, rd2⟩ := ok2
      obtain ⟨ey3, rd3⟩ := ok3
      subst ey2
      subst ey3
      obtain ⟨ky, rfl⟩ := isKey_of hk
      obtain ⟨p', ov, ep', g, _, _, hs, hn⟩ := dic_get cd (.inl (g3.rd rd2))
      rw [ep] at ep'
      cases ep'
      refine ⟨ov, g, ?_⟩
      have rd : RD X.K H3 (Pw Y3 σ env3) (ov.getD ve) ((dGet ks vs (kD ky)).getD dflt) := by
        cases w : dGet ks vs (kD ky) with
        | none => rw [hn w]; exact rd3
        | some z =>
          obtain ⟨u, e2, r⟩ := hs z w
          rw [e2]
          exact r
      exact k _ H3 env3 (.dat _) Y (rep3.less gg.yu) gg.drop ⟨rfl, rd.less (pw_less gg.yu)⟩ q3
/-! ### "".join(e) -/
def aJoin (s : Str) (a : AE') : AE' := fun env R => aFrz a env fun r env1 => match r with
  | .dat (.lst l) => ∃ ys : List Str, l = ys.map D.str ∧ (ys.map (·.length)).sum + ys.length * s.length ≤ 16777216 ∧ R (.dat (.str (Txt.join s ys))) env1
  | _ => False
theorem ae_join {X : Cx} {s : Str} {e : Expr} {j : Nat} {apos pos p : Pos} {a : AE'} (he : AE X e a) (hs : starEach [e] X.env = [(false, eval e X.env)] := by rfl) (hline : (apos.endLine == pos.line) = true := by rfl)
    (hbase : attributeBase (.Constant (.str s) j p) "join" X.env (eval (.Constant (.str s) j p) X.env) = eval (.Constant (.str s) j p) X.env := by rfl) :
    AE X (.Call (.Attribute (.Constant (.str s) j p) "join" apos) [e] [] pos) (aJoin s a) := by
  obtain ⟨t, pe, se⟩ := he.frz
  refine ⟨_, pe_join pe_str pe hs hbase hline, fun Y H σ env R Q rep q k => ⟨⟨s, rfl⟩, ?_⟩⟩
  refine se Y H σ env _ _ rep q fun v H1 env1 r1 Y1 rep1 g1 ok1 q1 => ?_
  match r1, ok1, q1 with
  | .dat (.lst l), ok1, q1 =>
    obtain ⟨ys, e1, hz, q1⟩ := q1
    obtain ⟨ey, rd⟩ := ok1
    subst ey
    subst e1
    cases rd with
    | lst sl r =>
      have := r.ofStrs
      subst this
      exact ⟨s, _, ys, rfl, rfl, .inl sl.sq, hz, k _ H1 env1 (.dat _) Y1 rep1 g1 ⟨rfl, .str _⟩ q1⟩
/-! ### l.index(e) -/
def aIndex (o e : AE') : AE' := fun env R => o env fun r env1 => (match val env1 r with | some (.lst _) => True | _ => False) ∧ aFrz e env1 fun re env2 => match val env2 r, re with
  | some (.lst l), .dat d => d.sh ∧ (D.lst l).sh ∧ ∃ (j : Nat) (z : D), l[j]? = some z ∧ PyData.eqv z.pd d.pd = true ∧ (∀ (m : Nat) (z' : D), m < j → l[m]? = some z' → PyData.eqv z'.pd d.pd = false) ∧ R (.dat (.int j)) env2
  | _, _ => False
theorem pds_get : ∀ {l : List D} {j : Nat}, (pds l)[j]? = (l[j]?).map D.pd
  | [], _ => rfl
  | d :: l, 0 => rfl
  | d :: l, j + 1 => by
    simp only [pds, List.getElem?_cons_succ]
    exact pds_get
theorem ae_index {X : Cx} {o e : Expr} {apos cpos : Pos} {fo fe : AE'} {j : Nat} (hr : Room j X.A) (ho : AE X o fo) (he : AE X e fe)
    (hbase : attributeBase o "index" X.env (eval o X.env) = eval o X.env := by rfl)
    (hfew : ((backTo cpos (starEach [e] X.env)).all (fun x => !x.1) && (backToKw cpos (keywordEach [] X.env)).all (fun x => x.1.isSome)
      && decide (([e] : List Expr).length + ([] : List Keyword).length + (if ([] : List Keyword).isEmpty then 0 else 1) < 30)) = true := by rfl)
    (hline : (apos.endLine == cpos.line) = true := by rfl) (hs : starEach [e] X.env = (false, eval e X.env) :: starEach [] X.env := by rfl) : AE X (.Call (.Attribute o "index" apos) [e] [] cpos) (aIndex fo fe) := by
  obtain ⟨t1, p1, s1⟩ := ho
  obtain ⟨t2, p2, s2⟩ := he.frz
  refine ⟨_, pe_bm PySem.F.plainAttrs_list PySem.F.slot_list_index PySem.F.type_list_index (mt_indexD (by have := hr.un; omega)) p1 (pa_cons p2 pa_nil hs) hbase hfew hline hs rfl, fun Y H σ env R Q rep q k => ?_⟩
  refine s1 Y H σ env _ _ rep q fun v H1 env1 r1 Y1 rep1 g1 ok1 q1 => ?_
  obtain ⟨isl, q1⟩ := q1
  obtain ⟨d1, e1, c1⟩ := ok1.rc rep1
  rw [e1] at isl
  match d1, c1, isl with
  | .lst l0, c1, _ =>
    obtain ⟨p, us0, ep, hu0, _, _⟩ := c1.lst
    subst ep
    refine ⟨.inl ⟨rfl, us0, .of hu0⟩, ?_⟩
    refine s2 Y1 H1 σ env1 _ _ rep1 q1 fun ve H2 env2 r2 Y2 rep2 g2 ok2 q2 => ?_
    obtain ⟨d, ed, cd⟩ := ok1.later g2 rep2
    have gg := g1.trans g2
    rw [ed] at q2
    match d, cd, r2, ok2, q2 with
    | .lst l, cd, .dat x, ok2, q2 =>
      obtain ⟨h1, h2, jj, z, h3, h4, h5, q2⟩ := q2
      obtain ⟨ey, rd⟩ := ok2
      subst ey
      have hd := cd.dp h2
      simp only [D.pd, D.sh] at hd h2
      refine ⟨p, ve, x.pd, pds l, jj, z.pd, rfl, rfl, hd, (RC.dp (.inl rd) h1), h2, h1, by rw [pds_get, h3]; rfl, h4, fun m z' hm hz' => ?_, k _ H2 env2 (.dat (.int jj)) Y (rep2.less gg.yu) gg.drop ⟨rfl, .int _⟩ q2⟩
      rw [pds_get] at hz'
      cases w : l[m]? with
      | none => rw [w] at hz'; cases hz'
      | some y =>
        rw [w] at hz'
        cases hz'
        exact h5 m y hm w
/-! ### fields -/
def fldD (C : Addr) (f : Str) : D → Option D
  | .obj C' ns l => if C' = C then (ns.zip l).lookup f else none
  | _ => none
def aFld (C : Addr) (f : Str) (a : AE') : AE' := fun env R => a env fun r env1 => match val env1 r with
  | some d => ∃ z, fldD C f d = some z ∧ R (.dat z) env1
  | none => False
theorem RDs.lookup {K : Fg} {H : Hp} {P : Ad} {f : Str} {z : D} : ∀ {fs : List (Str × V)} {l : List D}, RDs K H P (fs.map (·.2)) l → ((fs.map (·.1)).zip l).lookup f = some z → ∃ v, fs.lookup f = some v ∧ RD K H P v z
  | [], _, .nil, h => by cases h
  | (g, v) :: r, _, .cons h1 h2, h => by
    simp only [List.map_cons, List.zip_cons_cons, List.lookup_cons] at h ⊢
    cases e : (f == g) with
    | true =>
      rw [e] at h
      cases h
      exact ⟨v, rfl, h1⟩
    | false =>
      rw [e] at h
      exact RDs.lookup h2 h
theorem RC.obj {K : Fg} {H : Hp} {P : Ad} {v : V} {C : Addr} {ns : List Str} {l : List D} (h : RC K H P v (.obj C ns l)) : ∃ p dx fs, v = .ref p ∧ H p = some (.ins C dx fs) ∧ ns = fs.map (·.1) ∧ RDs K H P (fs.map (·.2)) l := by
  rcases h with h | ⟨p, e, h⟩
  · cases h with
    | obj s n e r => exact ⟨_, _, _, rfl, s, e, r⟩
  · obtain ⟨dx, fs, a, b, c⟩ := h
    exact ⟨p, dx, fs, e, a, b, c⟩
theorem ae_fld {X : Cx} {e : Expr} {f : Str} {pos : Pos} {a : AE'} {C : Addr} (c : Cls X.K C) (n : NoAttr X.K C f) (h : AE X e a) (hb : attributeBase e f X.env (eval e X.env) = eval e X.env := by rfl) : AE X (.Attribute e f pos) (aFld C f a) := by
  obtain ⟨t, p, s⟩ := h
  refine ⟨_, pe_fld p hb, fun Y H σ env R Q rep q k => ?_⟩
  refine s Y H σ env _ _ rep q fun v H1 env1 r1 Y1 rep1 g1 ok1 q1 => ?_
  obtain ⟨d, e1, cd⟩ := ok1.rc rep1
  simp only [e1] at q1
  obtain ⟨z, hz, q1⟩ := q1
  match d, cd, hz with
  | .obj C' ns l, cd, hz =>
    simp only [fldD] at hz
    split at hz
    · rename_i ec
      subst ec
      obtain ⟨p, dx, fs, e2, h2, e3, r⟩ := cd.obj
      subst e3
      obtain ⟨u, h3, r3⟩ := r.lookup hz
      exact ⟨p, C', dx, fs, u, e2, h2, c, n, h3, k u H1 env1 (.dat z) Y (rep1.less g1.yu) g1.drop ⟨rfl, r3.less (pw_less g1.yu)⟩ q1⟩
    · cases hz
end AL
namespace AL
open PySem L2
/-! AL16: fields stored, methods of objects, objects made. -/
def oPut (f : Str) (d : D) : List Str → List D → List Str × List D
  | [], _ => ([f], [d])
  | g :: ns, u :: l => if g = f then (g :: ns, d :: l) else (g :: (oPut f d ns l).1, u :: (oPut f d ns l).2)
  | g :: ns, [] => (g :: ns, [])
theorem RDs.putF {K : Fg} {H : Hp} {P : Ad} {f : Str} {v : V} {d : D} (h : RD K H P v d) : ∀ {fs : List (Str × V)} {l : List D}, RDs K H P (fs.map (·.2)) l →
    (oPut f d (fs.map (·.1)) l).1 = (L2.putF f v fs).map (·.1) ∧ RDs K H P ((L2.putF f v fs).map (·.2)) (oPut f d (fs.map (·.1)) l).2
  | [], _, .nil => ⟨rfl, .cons h .nil⟩
  | (g, u) :: r, _, .cons h1 h2 => by
    simp only [List.map_cons, oPut, L2.putF]
    by_cases e : g = f
    · rw [if_pos e, if_pos e]
      exact ⟨rfl, .cons h h2⟩
    · rw [if_neg e, if_neg e]
      obtain ⟨a, b⟩ := RDs.putF h h2
      exact ⟨congrArg (g :: ·) a, .cons h1 b⟩
/-- x.f = e: x an owned object's name -/
def aFldSet (i : Nat) (C : Addr) (f : Str) (a : AE') : AS' := fun A env => aFrz a env fun r env1 => match r, env1[i]? with
  | .dat d, some (.own (.obj C' ns l)) => C' = C ∧ ns.length < 1000 ∧ A.nx (env1.set i (.own (.obj C (oPut f d ns l).1 (oPut f d ns l).2)))
  | _, _ => False
section
variable {X : Cx} {B : Nat → Bool} {x f m : Str} {e o : Expr} {es : List Expr} {pos p pos' apos : Pos} {a : AE'} {C : Addr}
theorem as_fldset (i : Nat) (c : Cls X.K C) (n : NoAttr X.K C f) (h : AE X e a) (hN : X.N[i]? = some x := by rfl) (hv : Vis X.env.scope x := by first | exact Or.inl rfl | exact Or.inr (Or.inl rfl) | exact Or.inr (Or.inr rfl)) (hd : (x == ("__debug__" : Str)) = false := by decide)
    (hcd : (x == ("__classdict__" : Str)) = false := by decide) (hs : swapsWith e (some (.Attribute (.Name x p) f pos')) pos.line X.env = pure false := by rfl) : AS X B (.Assign [.Attribute (.Name x p) f pos'] e pos) (aFldSet i C f a) := by
  obtain ⟨t, pe, s⟩ := h.frz
  refine ⟨_, ps_fld (pe_var hN hv hd hcd) pe hs, fun Y H σ env D A rep q k => ?_⟩
  refine s Y H σ env _ _ rep q fun v H1 env1 r Y1 rep1 g1 ok q1 => ?_
  match r, ok, w : env1[i]?, q1 with
  | .dat d, ok, some (.own (.obj C' ns l)), q1 =>
    obtain ⟨ey, rd⟩ := ok
    subst ey
    obtain ⟨rfl, hl, q1⟩ := q1
    obtain ⟨q0, hq, np, dx, fs, ha, en, r⟩ := rep1.own i _ w
    subst en
    obtain ⟨e1, r2⟩ := r.putF (f := f) rd
    obtain ⟨r3, g3⟩ := rep1.mut (B := B) (o := .ins C' dx (putF f v fs)) (d1 := .obj C' (oPut f d (fs.map (·.1)) l).1 (oPut f d (fs.map (·.1)) l).2) w hq fun P pw g => ⟨dx, _, upd_same, e1, Go.rds g (fun a e => by subst e; exact .inr ⟨i, _, w, hq⟩) r2⟩
    exact ⟨_, hq, q0, C', dx, fs, rfl, ha, c, n, by simpa using hl, k.nx _ σ _ r3 (g1.toS.trans rep g3) q1⟩
end
/-! ### o.m(e, ..) -/
def aMeth (C : Addr) (m : Str) (S : ASp) (a : AE') (t : AA') : AE' := fun env R => a env fun r env1 => (match r with | .new _ => False | _ => True) ∧ (∃ ns l, val env1 r = some (.obj C ns l) ∧ ns.all (fun g => !(m == g)) = true) ∧ t env1 fun rs env2 => callR S (r :: rs) env2 R
theorem lookup_none {m : Str} : ∀ {fs : List (Str × V)}, (fs.map (·.1)).all (fun g => !(m == g)) = true → fs.lookup m = none
  | [], _ => rfl
  | (g, v) :: r, h => by
    rw [List.map_cons, List.all_cons, Bool.and_eq_true] at h
    have e : (m == g) = false := by simpa using h.1
    rw [List.lookup_cons, e]
    exact lookup_none h.2
section
variable {X : Cx} {m : Str} {e o : Expr} {es : List Expr} {pos apos : Pos} {a : AE'} {t : AA'} {C f : Addr} {S : ASp} {k : Nat} {fd : FuncData} {ps : List Str}
theorem snd_meth {ta : TE} {tt : TA} (sa : Snd X.K ta a) (st : SndA X.K tt t) (E : XK) : Snd X.K (tMeth C m (toSp X.K S) [] E ta tt) (aMeth C m S a t) := by
  intro Y H σ env R Q rep q k
  refine sa Y H σ env _ _ rep q fun v H1 env1 r Y1 rep1 g1 ok1 q1 => ?_
  obtain ⟨nn, ⟨ns, l, e1, nm⟩, q1⟩ := q1
  have ey : Y1 = Y := by
    match r, ok1, nn with
    | .dat _, ok, _ => exact ok.1
    | .at _, ok, _ => exact ok.1
  subst ey
  obtain ⟨d, e2, c⟩ := ok1.rc rep1
  rw [e1] at e2
  cases e2
  obtain ⟨p, dx, fs, ev, hp, en, _⟩ := c.obj
  subst ev
  subst en
  refine ⟨p, dx, fs, rfl, hp, lookup_none nm, ?_⟩
  refine st Y1 H1 σ env1 _ _ rep1 q1 fun vs H2 env2 rs rep2 g2 ok2 q2 => ?_
  rw [List.append_nil]
  exact call_ok rep2 (.cons (ok1.on g2) ok2) q2 (fun v H3 env3 r Y3 rep3 g3 ok3 q3 => k v H3 env3 r Y3 rep3 ((g1.trans g2).trans g3) ok3 q3) _
theorem ae_meth {pl : Sem Bool} (c : Cls X.K C) (hm : Meth X.K C m f) (F : FnOk X.prog X.w X.K X.mg X.base CX0 k f fd ps (toSp X.K S)) (hr : Room k X.A) (hb : Binds X.K fd ps []) (he : AE X o a) (ha : AA X (e :: es) t)
    (hst : starEach (e :: es) X.env = (false, eval e X.env) :: starEach es X.env := by rfl) (hpl : (backTo pos (starEach es X.env)).any (·.1) = false := by rfl)
    (ht : eval (.Call (.Attribute o m apos) (e :: es) [] pos) X.env = (do
      let ov ← eval o X.env
      standAt apos.atName
      let (f, first) ← holding [ov] (getMethod ov m pl)
      callWith pos f first (backTo pos (starEach (e :: es) X.env)) (backToKw pos (keywordEach [] X.env))) := by rfl) : AE X (.Call (.Attribute o m apos) (e :: es) [] pos) (aMeth C m S a t) := by
  obtain ⟨ta, pa, sa⟩ := he
  obtain ⟨tt, pt, st⟩ := ha
  exact ⟨_, pe_meth (pl := pl) pa c hm F hr hb .nil pass0 pt hst hpl ht, snd_meth sa st _⟩
theorem ae_meth0 {pl : Sem Bool} (c : Cls X.K C) (hm : Meth X.K C m f) (F : FnOk X.prog X.w X.K X.mg X.base CX0 k f fd ps (toSp X.K S)) (hr : Room k X.A) (hb : Binds X.K fd ps []) (he : AE X o a)
    (ht : eval (.Call (.Attribute o m apos) [] [] pos) X.env = (do
      let ov ← eval o X.env
      standAt apos.atName
      let (f, first) ← holding [ov] (getMethod ov m pl)
      callWith pos f first (backTo pos (starEach [] X.env)) (backToKw pos (keywordEach [] X.env))) := by rfl) : AE X (.Call (.Attribute o m apos) [] [] pos) (aMeth C m S a aNil) := by
  obtain ⟨ta, pa, sa⟩ := he
  exact ⟨_, pe_meth0 (pl := pl) pa c hm F hr hb .nil pass0 ht, snd_meth sa (fun Y H σ env R Q rep h k => k [] H env [] rep Adv.refl .nil h) _⟩
theorem ae_fn0 {x : Str} {p : Pos} (F : FnOk X.prog X.w X.K X.mg X.base CX0 k f fd ps (toSp X.K S)) (hr : Room k X.A) (hg : Gl X x) (hm : X.mg x = some (.ref f)) (hk : PySem.W.keepIn X.K (.ref f) = true) (hb : Binds X.K fd ps []) (hdb : (x == ("__debug__" : Str)) = false := by decide) : AE X (.Call (.Name x p) [] [] pos) (aFn S aNil) := by
  refine ⟨_, pe_call0 F hr hg hm hk hb .nil pass0 hdb, fun Y H σ env R Q rep q k => ?_⟩
  exact call_ok rep .nil q (fun v H2 env2 r Y2 rep2 g2 ok2 q2 => k v H2 env2 r Y2 rep2 g2 ok2 q2) E0
end
/-! ### a slot more -/
section
variable {K : Fg} {σ : L2.St} {Y Y' : Ad} {env env' : AEnv} {H H' : Hp} {s : Option V}
theorem own_snoc_un (hl : σ.length = env.length) (a : Addr) : Own (σ ++ [s]) (env ++ [.un]) a ↔ Own σ env a := by
  constructor
  · rintro ⟨i, d, e, w⟩
    by_cases h : i < env.length
    · rw [List.getElem?_append_left h] at e
      rw [List.getElem?_append_left (by omega)] at w
      exact ⟨i, d, e, w⟩
    · rw [List.getElem?_append_right (by omega)] at e
      cases z : i - env.length with
      | zero => rw [z] at e; cases e
      | succ n => rw [z] at e; cases e
  · rintro ⟨i, d, e, w⟩
    have h : i < env.length := (List.getElem?_eq_some_iff.mp e).1
    exact ⟨i, d, by rw [List.getElem?_append_left h]; exact e, by rw [List.getElem?_append_left (by omega)]; exact w⟩
theorem Rep.unsnoc (R : Rep K Y H (σ ++ [s]) (env ++ [.un])) : Rep K Y H σ env := by
  have hl : σ.length = env.length := by simpa using R.len
  have pw : ∀ a, Pw Y σ env a → Pw Y (σ ++ [s]) (env ++ [.un]) a := fun a z => z.imp id (own_snoc_un hl a).mpr
  have up : ∀ {i : Nat} {x : AV}, env[i]? = some x → (env ++ [.un])[i]? = some x ∧ (σ ++ [s])[i]? = σ[i]? := fun {i x} e => by
    have h : i < env.length := (List.getElem?_eq_some_iff.mp e).1
    exact ⟨by rw [List.getElem?_append_left h]; exact e, by rw [List.getElem?_append_left (by omega)]⟩
  refine ⟨hl, fun i d e => ?_, fun i d e => ?_, R.yim, fun i j d e p q1 q2 w1 w2 => ?_⟩
  · obtain ⟨v, h, r⟩ := R.dat i d (up e).1
    rw [(up e).2] at h
    exact ⟨v, h, r.less pw⟩
  · obtain ⟨p, h, n, r⟩ := R.own i d (up e).1
    rw [(up e).2] at h
    exact ⟨p, h, n, r.less pw⟩
  · exact R.inj i j d e p (up q1).1 (up q2).1 (by rw [(up q1).2]; exact w1) (by rw [(up q2).2]; exact w2)
/-- a new thing stands at one slot more -/
theorem Rep.snoc {p : Addr} {d : D} {Y1 : Ad} (R : Rep K Y1 H σ env) (e : Y1 = fun a => Y a ∨ a = p) (n : ¬ Pw Y σ env p) (r : RO K H (Pw Y1 σ env) p d) : Rep K Y H (σ ++ [some (.ref p)]) (env ++ [.own d]) := by
  subst e
  have hl : σ.length = env.length := R.len
  have at_ : ∀ {i : Nat} {x : AV}, (env ++ [.own d])[i]? = some x → (env[i]? = some x ∧ (σ ++ [some (.ref p)])[i]? = σ[i]?) ∨ (x = .own d ∧ i = env.length ∧ (σ ++ [some (V.ref p)])[i]? = some (some (.ref p))) := fun {i x} q => by
    by_cases h : i < env.length
    · rw [List.getElem?_append_left h] at q
      exact .inl ⟨q, by rw [List.getElem?_append_left (by omega)]⟩
    · rw [List.getElem?_append_right (by omega)] at q
      cases z : i - env.length with
      | zero =>
        rw [z] at q
        cases q
        refine .inr ⟨rfl, by omega, ?_⟩
        rw [List.getElem?_append_right (by omega), hl, z]
        rfl
      | succ n => rw [z] at q; cases q
  have ow : ∀ a, Own (σ ++ [some (.ref p)]) (env ++ [.own d]) a → Own σ env a ∨ a = p := fun a ⟨i, d', q, w⟩ => by
    rcases at_ q with ⟨q1, q2⟩ | ⟨_, _, q2⟩
    · rw [q2] at w
      exact .inl ⟨i, d', q1, w⟩
    · rw [q2] at w
      cases w
      exact .inr rfl
  have pw : ∀ a, Pw Y (σ ++ [some (.ref p)]) (env ++ [.own d]) a → Pw (fun a => Y a ∨ a = p) σ env a := fun a z => by
    rcases z with z | z
    · exact .inl (.inl z)
    · rcases ow a z with z | z
      · exact .inr z
      · exact .inl (.inr z)
  refine ⟨by simp [hl], fun i d' q => ?_, fun i d' q => ?_, fun a z => R.yim a (.inl z), fun i j d1 d2 p' q1 q2 w1 w2 => ?_⟩
  · rcases at_ q with ⟨q1, q2⟩ | ⟨z, _, _⟩
    · obtain ⟨v, h, r⟩ := R.dat i d' q1
      exact ⟨v, by rw [q2]; exact h, r.less pw⟩
    · cases z
  · rcases at_ q with ⟨q1, q2⟩ | ⟨z, _, q2⟩
    · obtain ⟨p', h, m, r⟩ := R.own i d' q1
      exact ⟨p', by rw [q2]; exact h, fun z => m (.inl z), r.less pw⟩
    · cases z
      exact ⟨p, q2, fun z => n (.inl z), r.less pw⟩
  · rcases at_ q1 with ⟨a1, b1⟩ | ⟨z1, a1, b1⟩
    · rcases at_ q2 with ⟨a2, b2⟩ | ⟨z2, a2, b2⟩
      · exact R.inj i j d1 d2 p' a1 a2 (by rw [← b1]; exact w1) (by rw [← b2]; exact w2)
      · rw [b2] at w2
        cases w2
        rw [b1] at w1
        exact (n (.inr ⟨i, d1, a1, w1⟩)).elim
    · rcases at_ q2 with ⟨a2, b2⟩ | ⟨z2, a2, b2⟩
      · rw [b1] at w1
        cases w1
        rw [b2] at w2
        exact (n (.inr ⟨j, d2, a2, w2⟩)).elim
      · omega
end
end AL
namespace AL
open PySem L2
/-! AL17: objects made. -/
def aMake (C : Addr) (S : ASp) (t : AA') : AE' := fun env R => t env fun rs env1 => callR S (.at env1.length :: rs) (env1 ++ [.own (.obj C [] [])]) fun r env2 => r = .dat .non ∧ ∃ d, env2[env1.length]? = some (.own d) ∧ R (.new d) (env2.take env1.length)
section
variable {K : Fg} {σ : L2.St} {Y Y' : Ad} {env : AEnv} {H H' : Hp}
theorem own_snoc {p : Addr} {d : D} (hl : σ.length = env.length) {a : Addr} : Own (σ ++ [some (.ref p)]) (env ++ [.own d]) a → Own σ env a ∨ a = p := fun ⟨i, d', q, w⟩ => by
  by_cases h : i < env.length
  · rw [List.getElem?_append_left h] at q
    rw [List.getElem?_append_left (by omega)] at w
    exact .inl ⟨i, d', q, w⟩
  · rw [List.getElem?_append_right (by omega)] at q
    cases z : i - env.length with
    | zero =>
      rw [List.getElem?_append_right (by omega), hl, z] at w
      cases w
      exact .inr rfl
    | succ n => rw [z] at q; cases q
theorem ResOk.snoc {p : Addr} {d : D} {v : V} (hl : σ.length = env.length) (n : H p = none) (k : Same H H') : ∀ {r : RV}, ResOk K H Y Y σ env v r → ResOk K H' Y Y (σ ++ [some (.ref p)]) (env ++ [.own d]) v r
  | .dat e, h => by
    refine ⟨rfl, h.2.go (P0 := fun _ => False) ⟨fun a o q _ => .inl (k a o q), fun a z => ?_⟩ fun _ z => z.elim⟩
    rcases z with z | z
    · exact .inl (.inl z)
    · rcases own_snoc hl z with z | z
      · exact .inl (.inr z)
      · exact .inr (by rw [z]; exact n)
  | .at i, h => by
    obtain ⟨_, h1, e, h2⟩ := h
    have hi : i < env.length := by
      rcases h2 with h2 | h2 <;> exact (List.getElem?_eq_some_iff.mp h2).1
    refine ⟨rfl, by rw [List.getElem?_append_left (by omega)]; exact h1, e, ?_⟩
    rw [List.getElem?_append_left hi]
    exact h2
  | .new e, h => by
    obtain ⟨q, _, ey, m, _⟩ := h
    refine (m (.inl ?_)).elim
    rw [ey]
    exact .inr rfl
theorem ArgsOk.snoc {p : Addr} {d : D} (hl : σ.length = env.length) (n : H p = none) (k : Same H H') : ∀ {vs : List V} {rs : List RV}, ArgsOk K H Y σ env vs rs → ArgsOk K H' Y (σ ++ [some (.ref p)]) (env ++ [.own d]) vs rs
  | _, _, .nil => .nil
  | _, _, .cons h r => .cons (h.snoc hl n k) (ArgsOk.snoc hl n k r)
end
theorem snd_make {K : Fg} {C : Addr} {S : ASp} {tt : TA} {t : AA'} (st : SndA K tt t) (E : XK) : Snd K (tMake C (toSp K S) [] E tt) (aMake C S t) := by
  intro Y H σ env R Q rep q k
  refine st Y H σ env _ _ rep q fun vs H1 env1 rs rep1 g1 ok1 q1 => ?_
  intro x dx hx hdx hne
  rw [List.append_nil]
  have hl : σ.length = env1.length := rep1.len
  have s2 : Same H1 (upd (upd H1 dx (.own x)) x (.ins C dx [])) := fun b o e => by
    rw [upd_ne (ne_of_none e hx), upd_ne (ne_of_none e hdx)]
    exact e
  have nf := rep1.fresh hx
  have rep2 : Rep K (fun a => Y a ∨ a = x) (upd (upd H1 dx (.own x)) x (.ins C dx [])) σ env1 := rep1.grow (fun a z => z.imp id fun e => by rw [e]; exact hx) s2 fun a z => by
    rcases z with z | z
    · obtain ⟨o, e, m⟩ := rep1.yim a z
      exact ⟨o, s2 a o e, m⟩
    · subst z
      exact ⟨_, upd_same, trivial⟩
  have repE := rep2.snoc (d := .obj C [] []) rfl nf ⟨dx, [], upd_same, rfl, .nil⟩
  have okE : ArgsOk K (upd (upd H1 dx (.own x)) x (.ins C dx [])) Y (σ ++ [some (.ref x)]) (env1 ++ [.own (.obj C [] [])]) (V.ref x :: vs) (.at env1.length :: rs) := by
    refine .cons ⟨rfl, ?_, .obj C [] [], .inl ?_⟩ (ok1.snoc hl hx s2)
    · rw [← hl, List.getElem?_append_right (Nat.le_refl _), Nat.sub_self]
      rfl
    · rw [List.getElem?_append_right (Nat.le_refl _), Nat.sub_self]
      rfl
  refine call_ok repE okE q1 (fun v H3 env3 r Y3 rep3 g3 ok3 q3 => ?_) E
  obtain ⟨rfl, d, hd, q3⟩ := q3
  obtain ⟨ey, rd⟩ := ok3
  subst ey
  have hv : v = .non := by cases rd; rfl
  refine ⟨hv, ?_⟩
  have hx3 : (σ ++ [some (V.ref x)])[env1.length]? = some (some (.ref x)) := by
    rw [← hl, List.getElem?_append_right (Nat.le_refl _), Nat.sub_self]
    rfl
  obtain ⟨Y4, rep4, g4, ok4⟩ := rep3.give (B := fun _ => false) rfl hd hx3
  have l3 : env3.length = env1.length + 1 := by
    have := rep3.len
    rw [List.length_append, hl] at this
    simpa using this.symm
  have es : env3.set env1.length .un = env3.take env1.length ++ [.un] := by
    apply List.ext_getElem?
    intro i
    by_cases h : i = env1.length
    · subst h
      rw [List.getElem?_set_self (by omega), List.getElem?_append_right (by rw [List.length_take]; omega), List.length_take]
      have : env1.length - min env1.length env3.length = 0 := by omega
      rw [this]
      rfl
    · rw [List.getElem?_set_ne (Ne.symm h)]
      by_cases h2 : i < env1.length
      · rw [List.getElem?_append_left (by rw [List.length_take]; omega), List.getElem?_take_of_lt h2]
      · rw [List.getElem?_eq_none (by omega), List.getElem?_append_right (by rw [List.length_take]; omega), List.length_take]
        have : i - min env1.length env3.length = (i - env1.length - 1) + 1 := by omega
        rw [this]
        rfl
  rw [es] at rep4 ok4
  have lt : σ.length = (env3.take env1.length).length := by rw [List.length_take]; omega
  have rep5 := rep4.unsnoc
  obtain ⟨p, e1, e2, n4, ro4⟩ := ok4
  cases e1
  have pw : ∀ (Z : Ad) a, Pw Z σ (env3.take env1.length) a → Pw Z (σ ++ [some (V.ref x)]) (env3.take env1.length ++ [.un]) a := fun Z a z => z.imp id (own_snoc_un lt a).mpr
  have nz : ∀ {a : Addr} {o : HO}, H1 a = some o → ¬ Own σ env1 a → ¬ Own (σ ++ [some (V.ref x)]) (env1 ++ [.own (.obj C [] [])]) a := fun {a o} e n z => by
    rcases own_snoc hl z with z | z
    · exact n z
    · subst z
      rw [hx] at e; cases e
  refine k _ H3 (env3.take env1.length) (.new d) Y4 rep5 (g1.trans ⟨fun a o e n => g3.keep a o (s2 a o e) (nz e n), fun a z => ?_, fun a z => by rw [e2]; exact .inl z, fun a z => ?_, fun i => ?_, fun a o e => g3.live a o (s2 a o e)⟩) ⟨x, rfl, e2, fun z => n4 (pw _ _ z), ro4.less (pw _)⟩ q3
  · obtain ⟨o, e⟩ := rep1.yin a z
    rw [g3.ky a z, s2 a o e, e]
  · rw [e2] at z
    exact z.imp id fun e => by rw [e]; exact hx
  · have s := g3.sh i
    by_cases h : i < env1.length
    · rw [List.getElem?_append_left h] at s
      rw [List.getElem?_take_of_lt h]
      exact s
    · rw [List.getElem?_eq_none (by omega), List.getElem?_eq_none (by rw [List.length_take]; omega)]
      trivial
section
variable {X : Cx} {x : Str} {p pos : Pos} {e : Expr} {es : List Expr} {t : AA'} {S : ASp} {k : Nat} {C f : Addr} {fd : FuncData} {ps : List Str}
theorem ae_make (M : Mk X.K C f) (F : FnOk X.prog X.w X.K X.mg X.base CX0 k f fd ps (toSp X.K S)) (hr : Room (k + 1) X.A) (hg : Gl X x) (hm : X.mg x = some (.ref C)) (hb : Binds X.K fd ps []) (ha : AA X (e :: es) t) (hdb : (x == ("__debug__" : Str)) = false := by decide)
    (he : starEach (e :: es) X.env = (false, eval e X.env) :: starEach es X.env := by rfl) (hpl : (backTo pos (starEach es X.env)).any (·.1) = false := by rfl) : AE X (.Call (.Name x p) (e :: es) [] pos) (aMake C S t) := by
  obtain ⟨u, pa, s⟩ := ha
  exact ⟨_, pe_make M F hr hg hm hb .nil pass0 pa hdb he hpl, snd_make s _⟩
theorem ae_make0 (M : Mk X.K C f) (F : FnOk X.prog X.w X.K X.mg X.base CX0 k f fd ps (toSp X.K S)) (hr : Room (k + 1) X.A) (hg : Gl X x) (hm : X.mg x = some (.ref C)) (hb : Binds X.K fd ps []) (hdb : (x == ("__debug__" : Str)) = false := by decide) : AE X (.Call (.Name x p) [] [] pos) (aMake C S aNil) :=
  ⟨_, pe_make0 M F hr hg hm hb .nil pass0 hdb, snd_make (fun Y H σ env R Q rep h k => k [] H env [] rep Adv.refl .nil h) E0⟩
end
end AL
namespace AL
open PySem L2
/-! AL18: a, b = x, y where new things stay owned. -/
inductive News (K : Fg) (H : Hp) (σ : L2.St) (env : AEnv) (Y' : Ad) : Ad → List V → List RV → Prop
  | nil {Y : Ad} : News K H σ env Y' Y [] []
  | dat {Y : Ad} {v : V} {d : D} {vs : List V} {rs : List RV} : RD K H (Pw Y' σ env) v d → News K H σ env Y' Y vs rs → News K H σ env Y' Y (v :: vs) (.dat d :: rs)
  | new {Y : Ad} {p : Addr} {d : D} {vs : List V} {rs : List RV} : Y' p → ¬ Pw Y σ env p → RO K H (Pw Y' σ env) p d → News K H σ env Y' (fun a => Y a ∨ a = p) vs rs → News K H σ env Y' Y (.ref p :: vs) (.new d :: rs)
theorem News.len {K : Fg} {H : Hp} {σ : L2.St} {env : AEnv} {Y' : Ad} : ∀ {Y : Ad} {vs : List V} {rs : List RV}, News K H σ env Y' Y vs rs → vs.length = rs.length
  | _, _, _, .nil => rfl
  | _, _, _, .dat _ r => congrArg Nat.succ r.len
  | _, _, _, .new _ _ _ r => congrArg Nat.succ r.len
def SndN (K : Fg) (t : TA) (a : AA') : Prop := ∀ (Y : Ad) (H : Hp) (σ : L2.St) (env : AEnv) (R : List RV → AEnv → Prop) (Q : List V → Hp → Prop), Rep K Y H σ env → a env R →
  (∀ vs H' env' rs Y', Rep K Y' H' σ env' → Adv σ Y env H Y' env' H' → News K H' σ env' Y' Y vs rs → R rs env' → Q vs H') → t σ H Q
def AN (X : Cx) (es : List Expr) (a : AA') : Prop := ∃ t, PA X es t ∧ SndN X.K t a
def keepNew (env : AEnv) (R : RV → AEnv → Prop) : RV → Prop
  | .dat d => R (.dat d) env
  | .new d => R (.new d) env
  | .at i => match env[i]? with
    | some (.own d) => R (.dat d) (env.set i (.dat d))
    | some (.dat d) => R (.dat d) env
    | _ => False
def anCons (a : AE') (t : AA') : AA' := fun env R => a env fun r env1 => keepNew env1 (fun r' env2 => t env2 fun rs env3 => R (r' :: rs) env3) r
section
variable {X : Cx} {e : Expr} {es : List Expr} {a : AE'} {t : AA'}
theorem an_nil : AN X [] aNil := ⟨_, pa_nil, fun Y H σ env R Q rep h k => k [] H env [] Y rep Adv.refl .nil h⟩
theorem an_cons (h1 : AE X e a) (h2 : AN X es t) (hs : starEach (e :: es) X.env = (false, eval e X.env) :: starEach es X.env := by rfl) : AN X (e :: es) (anCons a t) := by
  obtain ⟨u, p, s⟩ := h1
  obtain ⟨u2, p2, s2⟩ := h2
  refine ⟨_, pa_cons p p2 hs, fun Y H σ env R Q rep h k => ?_⟩
  refine s Y H σ env _ _ rep h fun v H1 env1 r Y1 rep1 g1 ok1 q1 => ?_
  have go : ∀ (q : frz env1 (fun r' env2 => t env2 fun rs env3 => R (r' :: rs) env3) r), u2 σ H1 fun vs H2 => Q (v :: vs) H2 := fun q => by
    obtain ⟨env2, d, rep2, g2, rd, q2⟩ := frz_ok rep1 g1.yu ok1 q
    have gg := g1.drop.trans g2
    refine s2 Y H1 σ env2 _ _ rep2 q2 fun vs H3 env3 rs Y3 rep3 g3 nw q3 => ?_
    exact k _ H3 env3 _ Y3 rep3 (gg.trans g3) (.dat (g3.rd rd) nw) q3
  match r, ok1, q1, go with
  | .dat d, ok1, q1, go => exact go q1
  | .at i, ok1, q1, go =>
    refine go ?_
    simp only [keepNew] at q1
    simp only [frz]
    exact q1
  | .new d, ok1, q1, _ =>
    obtain ⟨p, e1, ey, n, ro⟩ := ok1
    subst ey
    subst e1
    refine s2 _ H1 σ env1 _ _ rep1 q1 fun vs H3 env3 rs Y3 rep3 g3 nw q3 => ?_
    refine k _ H3 env3 _ Y3 rep3 (g1.trans g3) (.new (g3.yu p (.inr rfl)) (fun z => ?_) (ro.go g3.go (fun _ z => .inr z) (g3.ky p (.inr rfl))) nw) q3
    rcases z with z | z
    · exact n (.inl z)
    · exact n (.inr (g3.own z))
end
/-! ### stores -/
def parS : L2.St → List Nat → List V → L2.St
  | σ, i :: is, v :: vs => parS (σ.set i (some v)) is vs
  | σ, _, _ => σ
def parE : AEnv → List Nat → List RV → AEnv
  | env, i :: is, .dat d :: rs => parE (env.set i (.dat d)) is rs
  | env, i :: is, .new d :: rs => parE (env.set i (.own d)) is rs
  | env, _, _ => env
section
variable {K : Fg} {B : Nat → Bool}
theorem News.move {H H2 : Hp} {σ σ2 : L2.St} {env env2 : AEnv} {Y' Y2' : Ad} (k : Same H H2) (s1 : ∀ a, Pw Y2' σ2 env2 a → Pw Y' σ env a) : ∀ {vs : List V} {rs : List RV} {Ya Yb : Ad}, (∀ a, Pw Yb σ2 env2 a → Pw Ya σ env a) → (∀ a, Y' a → ¬ Ya a → Y2' a) →
    News K H σ env Y' Ya vs rs → News K H2 σ2 env2 Y2' Yb vs rs
  | _, _, Ya, Yb, s2, s3, .nil => .nil
  | _, _, Ya, Yb, s2, s3, .dat r t => .dat ((r.same k).less s1) (News.move k s1 s2 s3 t)
  | _, _, Ya, Yb, s2, s3, .new (p := p) y n r t => by
    refine .new (s3 _ y fun z => n (.inl z)) (fun z => n (s2 _ z)) ?_ (News.move k s1 (fun a z => ?_) (fun a z m => s3 a z fun w => m (.inl w)) t)
    · obtain ⟨o, ho, _⟩ := r.some
      exact (r.go (P0 := fun _ => False) ⟨fun a o q _ => .inl (k a o q), fun a z => .inl z⟩ (fun _ z => z.elim) ((k _ _ ho).trans ho.symm)).less s1
    · rcases z with (z | z) | z
      · exact (s2 a (.inl z)).imp .inl id
      · exact .inl (.inr z)
      · exact (s2 a (.inr z)).imp .inl id
theorem Same.rfl {H : Hp} : Same H H := fun _ _ h => h
theorem AdvS.dropTo {σ0 σ : L2.St} {Y Y' Y2 : Ad} {env0 env : AEnv} {H0 H : Hp} (g : AdvS B σ0 Y env0 H0 Y' σ env H) (s : ∀ a, Y2 a → Y' a) (u : ∀ a, Y a → Y2 a) : AdvS B σ0 Y env0 H0 Y2 σ env H :=
  ⟨g.keep, g.ky, u, fun a z => g.yn a (s a z), g.ow, g.live, g.st, g.pr, g.len⟩
theorem AdvS.store {σ0 σ : L2.St} {Y Y' Y2 : Ad} {env0 env : AEnv} {H0 H : Hp} {i : Nat} {v : Option V} {x : AV} (g : AdvS B σ0 Y env0 H0 Y' σ env H) (bi : B i = false) (s : ∀ a, Y2 a → Y' a) (u : ∀ a, Y a → Y2 a)
    (ow : ∀ a, Own (σ.set i v) (env.set i x) a → Own σ env a ∨ (Y' a ∧ ¬ Y a)) : AdvS B σ0 Y env0 H0 Y2 (σ.set i v) (env.set i x) H := by
  refine ⟨g.keep, g.ky, u, fun a z => g.yn a (s a z), fun a z => ?_, g.live, fun j bj => ?_, fun j bj => ?_, by rw [List.length_set]; exact g.len⟩
  · rcases ow a z with z | ⟨z, n⟩
    · exact g.ow a z
    · rcases g.yn a z with w | w | w
      · exact (n w).elim
      · exact .inr w
      · exact .inl w
  · rw [List.getElem?_set_ne]
    · exact g.st j bj
    · intro z; subst z; rw [bi] at bj; cases bj
  · rw [List.getElem?_set_ne]
    · exact g.pr j bj
    · intro z; subst z; rw [bi] at bj; cases bj
theorem own_setDat {σ : L2.St} {env : AEnv} {i : Nat} {v : Option V} {d : D} {a : Addr} (h : Own (σ.set i v) (env.set i (.dat d)) a) : Own σ env a := by
  obtain ⟨j, e, q, w⟩ := h
  by_cases z : i = j
  · subst z
    by_cases hi : i < env.length
    · rw [List.getElem?_set_self hi] at q; cases q
    · rw [List.getElem?_eq_none (by rw [List.length_set]; omega)] at q; cases q
  · rw [List.getElem?_set_ne z] at q w
    exact ⟨j, e, q, w⟩
theorem own_setOwn {σ : L2.St} {env : AEnv} {i : Nat} {p : Addr} {d : D} {a : Addr} (h : Own (σ.set i (some (.ref p))) (env.set i (.own d)) a) : Own σ env a ∨ a = p := by
  obtain ⟨j, e, q, w⟩ := h
  by_cases z : i = j
  · subst z
    by_cases hi : i < σ.length
    · rw [List.getElem?_set_self hi] at w; cases w
      exact .inr rfl
    · rw [List.getElem?_eq_none (by rw [List.length_set]; omega)] at w; cases w
  · rw [List.getElem?_set_ne z] at q w
    exact .inl ⟨j, e, q, w⟩
theorem par_ok {σ0 : L2.St} {Y : Ad} {env0 : AEnv} {H0 H : Hp} : ∀ {is : List Nat} {vs : List V} {rs : List RV} {Y' Yb : Ad} {σ : L2.St} {env : AEnv}, (∀ i ∈ is, B i = false) → Rep K Y' H σ env → News K H σ env Y' Yb vs rs → (∀ a, Y a → Yb a) → (∀ a, Y a → Y' a) →
    AdvS B σ0 Y env0 H0 Y' σ env H → ∃ Ye, Rep K Ye H (parS σ is vs) (parE env is rs) ∧ AdvS B σ0 Y env0 H0 Ye (parS σ is vs) (parE env is rs) H ∧ ∀ a, Y a → Ye a
  | [], vs, rs, Y', Yb, σ, env, hB, R, nw, h1, h2, g => ⟨Y', by simpa [parS, parE] using R, by simpa [parS, parE] using g, h2⟩
  | i :: is, _, _, Y', Yb, σ, env, hB, R, .nil, h1, h2, g => ⟨Y', R, g, h2⟩
  | i :: is, _, _, Y', Yb, σ, env, hB, R, .dat (v := v) (d := d) r t, h1, h2, g => by
    have bi := hB i List.mem_cons_self
    have hB' : ∀ j ∈ is, B j = false := fun j hj => hB j (List.mem_cons_of_mem _ hj)
    have a := (R.setDat (B := B) bi r).1
    have g2 := g.store (Y2 := Y') (v := some v) (x := .dat d) bi (fun _ z => z) h2 fun x z => .inl (own_setDat z)
    exact par_ok (is := is) hB' a (t.move Same.rfl (fun x z => z.imp id own_setDat) (fun x z => z.imp id own_setDat) fun _ z _ => z) h1 h2 g2
  | i :: is, _, _, Y', Yb, σ, env, hB, R, .new (p := p) (d := d) y n r t, h1, h2, g => by
    have ye : Y' = fun a => (Y' a ∧ a ≠ p) ∨ a = p := by
      funext a
      refine propext ⟨fun z => ?_, fun z => ?_⟩
      · by_cases e : a = p
        · exact .inr e
        · exact .inl ⟨z, e⟩
      · rcases z with z | z
        · exact z.1
        · rw [z]; exact y
    have np : ¬ Y p := fun z => n (.inl (h1 p z))
    have bi := hB i List.mem_cons_self
    have hB' : ∀ j ∈ is, B j = false := fun j hj => hB j (List.mem_cons_of_mem _ hj)
    have ok : ResOk K H (fun a => Y' a ∧ a ≠ p) Y' σ env (.ref p) (.new d) := ⟨p, rfl, ye, fun z => z.elim (fun z => z.2 rfl) fun z => n (.inr z), r⟩
    obtain ⟨a, _, _⟩ := R.setNew (B := B) bi (fun _ z => z.1) ok
    have g2 : AdvS B σ0 Y env0 H0 (fun a => Y' a ∧ a ≠ p) (σ.set i (some (.ref p))) (env.set i (.own d)) H :=
      g.store bi (fun _ z => z.1) (fun x z => ⟨h2 x z, fun e => np (e ▸ z)⟩) fun x z => (own_setOwn z).imp id fun e => by rw [e]; exact ⟨y, np⟩
    have m1 : ∀ x, Pw (fun a => Y' a ∧ a ≠ p) (σ.set i (some (.ref p))) (env.set i (.own d)) x → Pw Y' σ env x := fun x z => by
      rcases z with z | z
      · exact .inl z.1
      · rcases own_setOwn z with z | z
        · exact .inr z
        · rw [z]; exact .inl y
    have m2 : ∀ x, Pw Yb (σ.set i (some (.ref p))) (env.set i (.own d)) x → Pw (fun a => Yb a ∨ a = p) σ env x := fun x z => by
      rcases z with z | z
      · exact .inl (.inl z)
      · rcases own_setOwn z with z | z
        · exact .inr z
        · exact .inl (.inr z)
    have t2 := News.move (Yb := Yb) Same.rfl m1 m2 (fun x z m => ⟨z, fun e => m (.inr e)⟩) t
    exact par_ok (is := is) hB' a t2 h1 (fun x z => ⟨h2 x z, fun e => np (e ▸ z)⟩) g2
end
def aPar (is : List Nat) (t : AA') : AS' := fun A env => t env fun rs env1 => rs.length = is.length ∧ A.nx (parE env1 is rs)
section
variable {X : Cx} {B : Nat → Bool} {pos : Pos} {t : AA'}
theorem par_fin {σ0 : L2.St} {Y Y1 : Ad} {env0 env1 : AEnv} {H0 H1 H2 : Hp} {D : Ends} {A : AEnds} {is : List Nat} {vs : List V} {rs : List RV} (hb : ∀ i ∈ is, B i = false) (rep0 : Rep X.K Y H0 σ0 env0) (k : EOk X.K B Y H0 σ0 env0 D A) (rep1 : Rep X.K Y1 H1 σ0 env1) (g1 : Adv σ0 Y env0 H0 Y1 env1 H1) (nw : News X.K H1 σ0 env1 Y1 Y vs rs)
    (sm : Same H1 H2) (q : A.nx (parE env1 is rs)) : D.nx (parS σ0 is vs) H2 := by
  have rep2 := rep1.same sm
  have g2 : Adv σ0 Y env0 H0 Y1 env1 H2 := g1.trans (Adv.same rep1 sm)
  obtain ⟨Ye, a, b, c⟩ := par_ok (B := B) hb rep2 (nw.move sm (fun _ z => z) (fun _ z => z) fun _ z _ => z) (fun _ z => z) g1.yu g2.toS
  exact k.nx H2 _ _ (a.less c) (b.dropTo c fun _ z => z) q
theorem as_par {i j : Nat} {x y : Str} {a b : Expr} {px py pt : Pos} {kt k2 pt2} (hc : X.calm = true) (hN : X.N.Nodup) (hi : X.N[i]? = some x) (hj : X.N[j]? = some y) (hx : X.env.scope.names.lookup x = some .local) (hy : X.env.scope.names.lookup y = some .local) (ha : AN X [a, b] t)
    (bi : B i = false := by rfl) (bj : B j = false := by rfl) (hij : i ≠ j := by decide)
    (hw : swappedStores [.Tuple [.Name x px, .Name y py] kt pt] (.Tuple [a, b] k2 pt2) X.env = pure (some [x, y]) := by rfl)
    (hs : swapsWithSole [.Tuple [.Name x px, .Name y py] kt pt] (.Tuple [a, b] k2 pt2) pos.line X.env = pure false := by rfl) :
    AS X B (.Assign [.Tuple [.Name x px, .Name y py] kt pt] (.Tuple [a, b] k2 pt2) pos) (aPar [i, j] t) := by
  obtain ⟨u, p, s⟩ := ha
  refine ⟨_, ps_par hc hN hi hj hij hx hy p hw hs, fun Y H σ env D A rep q k => ?_⟩
  refine s Y H σ env _ _ rep q fun vs H1 env1 rs Y1 rep1 g1 nw q1 => ?_
  have hl := nw.len
  rw [q1.1] at hl
  match vs, hl, nw with
  | [v, w], _, nw => exact ⟨v, w, rfl, par_fin (is := [i, j]) (fun m hm => by
      simp only [List.mem_cons, List.not_mem_nil, or_false] at hm
      rcases hm with e | e <;> (subst e; assumption)) rep k rep1 g1 nw Same.rfl q1.2⟩
theorem as_par3 {i j l : Nat} {x y z : Str} {a b c : Expr} {px py pz pt : Pos} {kt k2 pt2} (hc : X.calm = true) (hN : X.N.Nodup) (hi : X.N[i]? = some x) (hj : X.N[j]? = some y) (hl : X.N[l]? = some z) (hx : X.env.scope.names.lookup x = some .local) (hy : X.env.scope.names.lookup y = some .local) (hz : X.env.scope.names.lookup z = some .local) (ha : AN X [a, b, c] t)
    (bi : B i = false := by rfl) (bj : B j = false := by rfl) (bl : B l = false := by rfl) (hij : i ≠ j := by decide) (hil : i ≠ l := by decide) (hjl : j ≠ l := by decide)
    (hw : swappedStores [.Tuple [.Name x px, .Name y py, .Name z pz] kt pt] (.Tuple [a, b, c] k2 pt2) X.env = pure (some [x, y, z]) := by rfl)
    (hs : swapsWithSole [.Tuple [.Name x px, .Name y py, .Name z pz] kt pt] (.Tuple [a, b, c] k2 pt2) pos.line X.env = pure false := by rfl) :
    AS X B (.Assign [.Tuple [.Name x px, .Name y py, .Name z pz] kt pt] (.Tuple [a, b, c] k2 pt2) pos) (aPar [i, j, l] t) := by
  obtain ⟨u, p, s⟩ := ha
  refine ⟨_, ps_par3 hc hN hi hj hl hij hil hjl hx hy hz p hw hs, fun Y H σ env D A rep q k => ?_⟩
  refine s Y H σ env _ _ rep q fun vs H1 env1 rs Y1 rep1 g1 nw q1 => ?_
  have hl := nw.len
  rw [q1.1] at hl
  match vs, hl, nw with
  | [v, w, v3], _, nw => exact ⟨v, w, v3, rfl, par_fin (is := [i, j, l]) (fun m hm => by
      simp only [List.mem_cons, List.not_mem_nil, or_false] at hm
      rcases hm with e | e | e <;> (subst e; assumption)) rep k rep1 g1 nw Same.rfl q1.2⟩
/-- names as targets -/
def AGN (X : Cx) (B : Nat → Bool) (tgs : List Expr) (is : List Nat) : Prop := ∃ t, PGs X tgs t ∧ (∀ i ∈ is, B i = false) ∧ ∀ (vs : List V) (σ : L2.St) (H : Hp) (Q : L2.St → Hp → Prop), vs.length = is.length → Q (parS σ is vs) H → t vs σ H Q
theorem agn_nil : AGN X B [] [] := by
  refine ⟨_, pgs_nil, fun i h => (by cases h), fun vs σ H Q hl q => ?_⟩
  cases vs with
  | nil => exact ⟨rfl, q⟩
  | cons v r => cases hl
theorem agn_cons {es : List Expr} {is : List Nat} {x : Str} (i : Nat) (hN : X.N.Nodup) (hi : X.N[i]? = some x) (hx : Loc X.env.scope x) (h2 : AGN X B es is) (hb : B i = false := by rfl) (hf : X.fn x = true ∨ X.env.scope.names.lookup x = some .local := by first | exact .inl rfl | exact .inr rfl | assumption)
    (hs : (assignEach (.Name x pos :: es) X.env).map (·.2) = assign (.Name x pos) X.env :: (assignEach es X.env).map (·.2) := by rfl) : AGN X B (.Name x pos :: es) (i :: is) := by
  obtain ⟨t, p, b, s⟩ := h2
  refine ⟨_, pgs_cons (pg_name (i := i) hN hi hx hf) p hs, fun j hj => ?_, fun vs σ H Q hl q => ?_⟩
  · rcases List.mem_cons.mp hj with e | e
    · rw [e]; exact hb
    · exact b j e
  · match vs, hl, q with
    | v :: vs, hl, q => exact ⟨v, vs, rfl, s vs _ H Q (by simpa using hl) q⟩
theorem as_parN {tgs es : List Expr} {is : List Nat} {k k2 pt pt2} (hc : X.calm = true) (hg : AGN X B tgs is) (ha : AN X es t) (hz : is.length ≤ sizeLine := by decide)
    (hn : (assignEach tgs X.env).length = is.length := by rfl) (hst : (assignEach tgs X.env).findIdx? (·.1) = none := by rfl)
    (hs : swapsWithSole [.Tuple tgs k pt] (.Tuple es k2 pt2) pos.line X.env = pure false := by rfl) (hw : swappedStores [.Tuple tgs k pt] (.Tuple es k2 pt2) X.env = pure none := by rfl)
    (h1 : (assignEach [.Tuple tgs k pt] X.env).map (·.2) = [assign (.Tuple tgs k pt) X.env] := by rfl) : AS X B (.Assign [.Tuple tgs k pt] (.Tuple es k2 pt2) pos) (aPar is t) := by
  obtain ⟨tg, pg, bg, sg⟩ := hg
  obtain ⟨u, p, s⟩ := ha
  refine ⟨_, ps_asg (pe_tup p) (pg_tup hc pg hn hst) hs hw h1, fun Y H σ env D A rep q k => ?_⟩
  refine s Y H σ env _ _ rep q fun vs H1 env1 rs Y1 rep1 g1 nw q1 => ?_
  have hl := nw.len
  rw [q1.1] at hl
  refine ⟨by rw [hl]; exact hz, fun l n => ⟨l, vs, rfl, .of upd_same, hl, ?_⟩⟩
  exact sg vs _ _ _ hl (par_fin bg rep k rep1 g1 nw (same_upd n) q1.2)
end
end AL
namespace AL
open PySem L2 PySem.Spec PyProof.Rows
/-! AL19: zip of two, each of them a list or a tuple. -/
def Sq2 (K : Fg) (H : Hp) : Bool → Addr → List V → Prop
  | true, a, xs => SqL K H a xs
  | false, a, xs => SqT K H a xs
def itk (h : Heap) : Bool → Addr → Addr → Nat → Prop
  | true, t, l, i => h.IsListIter t l i
  | false, t, l, i => h.IsTupleIter t l i
def sqk (h : Heap) : Bool → Addr → Array Value → Prop
  | true, l, xs => h.IsList l xs
  | false, l, xs => h.IsTuple l xs
theorem draws2 {P : Program} {w : World} {A : Around} (hh : A.handled = none) (k : Bool) (t l : Addr) (hne : l ≠ t) (xs : Array Value) : Draws P w A t [t, l] xs.size (fun i v => xs[i]? = some v) (fun i h => itk h k t l i ∧ sqk h k l xs) := by
  cases k with
  | true => exact .list hh t l hne xs
  | false => exact .tuple hh t l hne xs
section
variable {X : Cx} {pins : List (Addr × Obj)} {σ : L2.St} {H : Hp} {s : Shared} {k : Bool} {a : Addr} {xs ys : List V}
theorem inv_sq2 (I : Inv X pins σ H s) (h : Sq2 X.K H k a xs) : ∃ its : List Value, Vals xs its ∧ sqk s.heap k a its.toArray ∧ a < s.heap.objs.size := by
  cases k with
  | true =>
    obtain ⟨its, r, p, _⟩ := I.list h
    exact ⟨its, r, p.isList, p.lt⟩
  | false =>
    obtain ⟨its, r, p, _⟩ := I.tuple h
    obtain ⟨o, e, _⟩ := id p
    exact ⟨its, r, p, Heap.lt_size e⟩
theorem inv_inj2 (I : Inv X pins σ H s) (h : Sq2 X.K H k a xs) (h' : Sq2 X.K H k a ys) : xs = ys := by
  cases k with
  | true => exact I.list_inj h h'
  | false => exact I.tuple_inj h h'
end
theorem itk_at {h h' : Heap} {k : Bool} {t l : Addr} {i : Nat} (q : itk h k t l i) (f : ∀ o, h.get? t = some o → h'.get? t = some o) : itk h' k t l i := by
  cases k with
  | true => exact Heap.IsListIter.at q f
  | false => exact Heap.IsTupleIter.at q f
theorem itk_obj {h : Heap} {k : Bool} {t l : Addr} {i : Nat} (q : itk h k t l i) : ∃ o, h.get? t = some o ∧ ∀ v, o.data ≠ .cell v := by
  cases k with
  | true =>
    obtain ⟨o, e, _, d⟩ := q
    exact ⟨o, e, fun v z => by rw [d] at z; cases z⟩
  | false =>
    obtain ⟨o, e, _, d⟩ := q
    exact ⟨o, e, fun v z => by rw [d] at z; cases z⟩
/-- zip of the things at a and b -/
def Itz2 (K : Fg) (k m : Bool) (a b : Addr) : It :=
  ⟨fun i H => ∃ (xs ys : List V) (x y : V), Sq2 K H k a xs ∧ Sq2 K H m b ys ∧ xs[i]? = some x ∧ ys[i]? = some y,
    fun i H v H' => ∃ T x y, v = .ref T ∧ H T = none ∧ H' = upd H T (.tup [x, y]) ∧ (∀ xs, Sq2 K H k a xs → xs[i]? = some x) ∧ ∀ ys, Sq2 K H m b ys → ys[i]? = some y,
    fun i H => ∃ xs ys : List V, Sq2 K H k a xs ∧ Sq2 K H m b ys ∧ (xs.length ≤ i ∨ ys.length ≤ i) ∧ (i ≤ xs.length ∧ i ≤ ys.length)⟩
theorem sep_of {z TI TO t u a b : Addr} (D : ZipApart z TI TO t u a b) : ZipSep2 z TI TO t u [t, a] [u, b] where
  TIz := D.TIz
  TOz := D.TOz
  TITO := D.TITO
  TIi1 := D.TIi1
  mem1 := by simp
  zf1 := by simp [Ne.symm D.i1z, Ne.symm D.l1z]
  Tf1 := by simp [D.TOi1, Ne.symm D.l1TO]
  TIi2 := D.TIi2
  mem2 := by simp
  zf2 := by simp [Ne.symm D.i2z, Ne.symm D.l2z]
  Tf2 := by simp [D.TOi2, Ne.symm D.l2TO]
  sep1_2 := by simp [D.i12, Ne.symm D.l2i1]
  sep2_1 := by simp [Ne.symm D.i12, Ne.symm D.l1i2]
theorem turn_zip2 {P : Program} {w : World} {K : Fg} {elts : List Expr} {kk : Nat} {tpos : Pos} {k m : Bool} {a b z TI TO t u : Addr} (D : ZipApart z TI TO t u a b) :
    Turn P w K (.Tuple elts kk tpos) (Itz2 K k m a b) [z, TI, TO, t, u] z (fun i h => IsZip h z TI TO .none ∧ IsTupOf2 h TI (.ref t) (.ref u) ∧ (∃ x y, IsTupOf2 h TO x y) ∧ itk h k t a i ∧ itk h m u b i) := by
  have inl : ∀ {c : Addr}, c ∈ [z, TI, TO, t, u] → c = z ∨ c = TI ∨ c = TO ∨ c = t ∨ c = u := fun {c} hc => by simpa using hc
  refine ⟨by simp, fun i h st c hc => ?_, fun i h h' st kp => ?_, ?_, ?_, fun A i s Q E st h => wpAny_pyIter_zip st.1 h⟩
  · obtain ⟨hz, hI, ⟨x, y, hO⟩, h1, h2⟩ := st
    rcases inl hc with rfl | rfl | rfl | rfl | rfl
    · exact ⟨_, hz, fun v q => nomatch q⟩
    · exact ⟨_, hI, fun v q => nomatch q⟩
    · exact ⟨_, hO, fun v q => nomatch q⟩
    · exact itk_obj h1
    · exact itk_obj h2
  · obtain ⟨hz, hI, ⟨x, y, hO⟩, h1, h2⟩ := st
    exact ⟨kp _ (by simp) _ hz, kp _ (by simp) _ hI, ⟨x, y, kp _ (by simp) _ hO⟩, itk_at h1 (kp t (by simp)), itk_at h2 (kp u (by simp))⟩
  · intro X hP hw hK hc i pins s σ H E I hf st hg
    subst hP hw hK
    obtain ⟨hz, hI, ⟨x0, y0, hO⟩, h1, h2⟩ := st
    obtain ⟨xs, ys, x, y, sx, sy, ex, ey⟩ := hg
    obtain ⟨us, ru, pu, la⟩ := inv_sq2 I sx
    obtain ⟨ws, rw', pw, lb⟩ := inv_sq2 I sy
    obtain ⟨v1, g1, q1⟩ := ru.get ex
    obtain ⟨v2, g2, q2⟩ := rw'.get ey
    have l1 : i < us.toArray.size := by
      have := (List.getElem?_eq_some_iff.mp g1).1
      simpa using this
    have l2 : i < ws.toArray.size := by
      have := (List.getElem?_eq_some_iff.mp g2).1
      simpa using this
    have hh : X.A.in1.handled = none := I.ok.hd hc
    refine wpAny_pyNext_zipD2_item (sep_of D) (draws2 (A := X.A.in1) hh k t a D.l1i1 us.toArray) (draws2 (A := X.A.in1) hh m u b D.l2i2 ws.toArray) hz hI hO ⟨h1, pu⟩ ⟨h2, pw⟩ l1 l2 fun y1 y2 h' tk c1 c2 zz tt n1 n2 nt hs kp => ?_
    have c1' : us[i]? = some y1 := by simpa using c1
    have c2' : ws[i]? = some y2 := by simpa using c2
    rw [g1] at c1'
    rw [g2] at c2'
    cases c1'
    cases c2'
    have zl : z < s.heap.objs.size := Heap.lt_size hz
    refine ⟨_, rfl, wpAny_letOwnedTupleGo_zip (s := { s with heap := h', toks := tk }) zz fun h2' z2 sb => ?_⟩
    have tt2 : h2'.get? s.heap.objs.size = some { cls := .type "tuple", data := .seq #[v1, v2] } := (sb.2 _ (Nat.ne_of_gt zl)).trans nt
    have keep : ∀ c o, c ∉ [z, TI, TO, t, u] → s.heap.get? c = some o → h2'.get? c = some o := fun c o nc q => by
      simp only [List.mem_cons, List.not_mem_nil, or_false, not_or] at nc
      exact (sb.2 c nc.1).trans (kp c o nc.1 nc.2.2.1 nc.2.2.2.1 nc.2.2.2.2 q)
    have I2 : Inv X pins σ (upd H s.heap.objs.size (.tup [x, y])) { s with heap := h2', toks := tk } := I.turnedNew (t' := tk) keep hf (Nat.le_refl _) ⟨(by show 2 ≤ sizeLine; decide), [v1, v2], .cons q1 (.cons q2 .nil), ⟨_, tt2, rfl, _, rfl⟩⟩
    refine ⟨.ref s.heap.objs.size, _, I2, rfl, ⟨_, x, y, rfl, I.hok.fresh (Nat.le_refl _), rfl, fun l hl => by rw [inv_inj2 I hl sx]; exact ex, fun l hl => by rw [inv_inj2 I hl sy]; exact ey⟩, ⟨z2, ?_, ⟨v1, v2, (sb.2 _ D.TOz).trans tt⟩, itk_at n1.1 fun o q => (sb.2 _ D.i1z).trans q, itk_at n2.1 fun o q => (sb.2 _ D.i2z).trans q⟩, fun c hc' => ?_⟩
    · exact (sb.2 _ D.TIz).trans (kp _ _ D.TIz D.TITO D.TIi1 D.TIi2 hI)
    · have lt : c < s.heap.objs.size := by
        rcases inl hc' with q | q | q | q | q
        · rw [q]; exact zl
        · rw [q]; exact Heap.lt_size hI
        · rw [q]; exact Heap.lt_size hO
        · rw [q]
          obtain ⟨_, e, _⟩ := itk_obj h1
          exact Heap.lt_size e
        · rw [q]
          obtain ⟨_, e, _⟩ := itk_obj h2
          exact Heap.lt_size e
      rw [upd_ne (Nat.ne_of_lt lt)]
      exact (hf c hc').1
  · intro X hP hw hK hc i pins s σ H E I hf st hg
    subst hP hw hK
    obtain ⟨hz, hI, ⟨x0, y0, hO⟩, h1, h2⟩ := st
    obtain ⟨xs, ys, sx, sy, hend, hle1, hle2⟩ := hg
    obtain ⟨us, ru, pu, la⟩ := inv_sq2 I sx
    obtain ⟨ws, rw', pw, lb⟩ := inv_sq2 I sy
    have l1 : us.toArray.size = xs.length := by simp [ru.length]
    have l2 : ws.toArray.size = ys.length := by simp [rw'.length]
    have hh : X.A.in1.handled = none := I.ok.hd hc
    refine wpAny_pyNext_zipD2_end (sep_of D) (draws2 (A := X.A.in1) hh k t a D.l1i1 us.toArray) (draws2 (A := X.A.in1) hh m u b D.l2i2 ws.toArray) hz hI hO ⟨h1, pu⟩ ⟨h2, pw⟩ (by omega) (by omega) (by omega) fun h' tk kp => ⟨rfl, I.turnedL (t' := tk) (ch := [z, TI, TO, t, u]) (fun c o nc q => ?_) hf⟩
    simp only [List.mem_cons, List.not_mem_nil, or_false, not_or] at nc
    exact kp c o nc.1 nc.2.2.1 nc.2.2.2.1 nc.2.2.2.2 q
def itObj : Bool → Addr → Obj
  | true, l => { cls := .type "list_iterator", data := .fields #[.ref l, .int 0 0] }
  | false, l => { cls := .type "tuple_iterator", data := .fields #[.ref l, .int 0 0] }
theorem begins2 (k : Bool) (l : Addr) (xs : Array Value) : Begins (.ref l) (itObj k l) fun h => sqk h k l xs := by
  cases k with
  | true => exact begins_list l xs
  | false => exact begins_tuple l xs
theorem itObj_it {h : Heap} {k : Bool} {t l : Addr} (e : h.get? t = some (itObj k l)) : itk h k t l 0 := by
  cases k with
  | true => exact ⟨_, e, rfl, rfl⟩
  | false => exact ⟨_, e, rfl, rfl⟩
def iZip2 (K : Fg) (ta : TA) : TI := fun σ H R => ta σ H fun vs H1 => ∃ k m a b xs ys, vs = [.ref a, .ref b] ∧ Sq2 K H1 k a xs ∧ Sq2 K H1 m b ys ∧ R (Itz2 K k m a b) H1
theorem pi_zip2 {X : Cx} {e e2 : Expr} {ta : TA} {p pos tpos : Pos} {elts : List Expr} {kk : Nat} (hg : Gl X "zip") (hm : X.mg "zip" = none) (ha : PA X [e, e2] ta)
    (hs : starEach [e, e2] X.env = (false, eval e X.env) :: starEach [e2] X.env := by rfl) (hpl : (backTo pos (starEach [e2] X.env)).any (·.1) = false := by rfl) : PI X (.Tuple elts kk tpos) (.Call (.Name "zip" p) [e, e2] [] pos) (iZip2 X.K ta) := by
  refine ⟨fun pins s σ H R I h => ?_⟩
  refine Call_ (ld_blt I hg hm boot_zip (callWith_type1 (thn (ha.run pos pins s σ H _ I h) fun us s1 ⟨vs, H1, I1, r1, q1⟩ => ?_) hs hpl))
  obtain ⟨k, m, a, b, xs, ys, ev, sx, sy, q⟩ := q1
  subst ev
  obtain ⟨w1, w2, rfl, e1, e2⟩ := vals2 r1
  cases e1
  cases e2
  obtain ⟨us, ru, pu, la⟩ := inv_sq2 I1 sx
  obtain ⟨ws, rw', pw, lb⟩ := inv_sq2 I1 sy
  refine zip_begins2 (begins2 k a us.toArray) (begins2 m b ws.toArray) pu pw fun h' hz hI hO g1 g2 hsz kp => wpAny_pyIter_zip hz ?_
  have I2 : Inv X pins σ H1 { s1 with heap := h' } := I1.kept (t' := s1.toks) kp
  refine ⟨s1.heap.objs.size + 4, [s1.heap.objs.size + 4, s1.heap.objs.size + 2, s1.heap.objs.size + 3, s1.heap.objs.size, s1.heap.objs.size + 1], _, _, H1, rfl, I2, turn_zip2 (PySem.W.ktu_apart s1.heap.objs.size a b la lb), ⟨hz, hI, ⟨_, _, hO⟩, itObj_it g1, itObj_it g2⟩, fun c hc => ?_, q⟩
  have le : s1.heap.objs.size ≤ c := by
    simp only [List.mem_cons, List.not_mem_nil, or_false] at hc
    rcases hc with q | q | q | q | q
    · rw [q]; exact Nat.le_add_right _ _
    · rw [q]; exact Nat.le_add_right _ _
    · rw [q]; exact Nat.le_add_right _ _
    · rw [q]; exact Nat.le_refl _
    · rw [q]; exact Nat.le_add_right _ _
  exact I1.fpOk le (I1.hok.fresh le)
/-! ### over data -/
def seqD : D → Option (List D)
  | .lst l => some l
  | .tup l => some l
  | _ => none
def zipD (l m : List D) : List D := (l.zip m).map fun p => D.tup [p.1, p.2]
def aiZip (t : AA') : AI' := fun env R => t env fun rs env1 => match dats rs with
  | some [x, y] => (match seqD x, seqD y with
    | some l, some m => R (zipD l m) env1
    | _, _ => False)
  | _ => False
/-- a thing that is walked stays so -/
structure Stays (K : Fg) (H : Hp) (P : Ad) (k : Bool) (a : Addr) (us : List V) (ds : List D) : Prop where
  go : ∀ (P0 P2 : Ad) (H2 : Hp), (∀ a, P0 a → P a) → Go P0 P P2 H H2 → Sq2 K H2 k a us ∧ RDs K H2 P2 us ds
theorem RD.stays {K : Fg} {H : Hp} {P : Ad} {v : V} {d : D} {l : List D} (h : RD K H P v d) (e : seqD d = some l) : ∃ k a us, v = .ref a ∧ Stays K H P k a us l ∧ Sq2 K H k a us := by
  cases h with
  | tup s r => cases e; exact ⟨false, _, _, rfl, ⟨fun P0 P2 H2 sb g => ⟨(g.st sb s).sq, r.go g sb⟩⟩, s.sq⟩
  | lst s r => cases e; exact ⟨true, _, _, rfl, ⟨fun P0 P2 H2 sb g => ⟨(g.sl sb s).sq, r.go g sb⟩⟩, s.sq⟩
  | non => cases e
  | bl => cases e
  | int => cases e
  | str => cases e
  | dK => cases e
  | dT => cases e
  | obj => cases e
  | hup => cases e
  | scr => cases e
theorem Sq2.inj {K : Fg} {H : Hp} {k : Bool} {a : Addr} {us : List V} : True := trivial
theorem walk_zip {K : Fg} {H : Hp} {P : Ad} {k m : Bool} {a b : Addr} {us ws : List V} {l n : List D} (h1 : Stays K H P k a us l) (h2 : Stays K H P m b ws n) : WalkOk K (Itz2 K k m a b) H P (zipD l n) := by
  intro P0 P2 H2 s g hy
  obtain ⟨s1, r1⟩ := h1.go P0 P2 H2 s g
  obtain ⟨s2, r2⟩ := h2.go P0 P2 H2 s g
  have e1 := r1.length
  have e2 := r2.length
  have el : (zipD l n).length = min l.length n.length := by unfold zipD; rw [List.length_map, List.length_zip]
  refine ⟨fun i hi => ?_, us, ws, s1, s2, by rw [el]; omega, by rw [el]; omega, by rw [el]; omega⟩
  rw [el] at hi
  have hx : l[i]? = some l[i] := List.getElem?_eq_getElem (by omega)
  have hy' : n[i]? = some n[i] := List.getElem?_eq_getElem (by omega)
  obtain ⟨x, gx, rx⟩ := r1.get hx
  obtain ⟨y, gy, ry⟩ := r2.get hy'
  refine ⟨⟨us, ws, x, y, s1, s2, gx, gy⟩, fun v H3 q => ?_⟩
  obtain ⟨T, x', y', rfl, hT, rfl, f1, f2⟩ := q
  have ex := f1 us s1
  have ey := f2 ws s2
  rw [gx] at ex; cases ex
  rw [gy] at ey; cases ey
  have nT : ¬ P2 T := fun z => by
    obtain ⟨o, e, _⟩ := hy T z
    rw [hT] at e; cases e
  have sm : Same H2 (upd H2 T (.tup [x, y])) := same_upd hT
  refine ⟨sm, .tup [l[i], n[i]], ?_, .tup (.inl ⟨.inl upd_same, nT, by show 2 ≤ sizeLine; decide⟩) (.cons (rx.same sm) (.cons (ry.same sm) .nil))⟩
  unfold zipD
  rw [List.getElem?_map, (List.getElem?_zip_eq_some (z := (l[i], n[i]))).mpr ⟨hx, hy'⟩]
  rfl
theorem ai_zip {X : Cx} {e e2 : Expr} {t : AA'} {p pos tpos : Pos} {elts : List Expr} {kk : Nat} (hg : Gl X "zip") (hm : X.mg "zip" = none) (ha : AA X [e, e2] t)
    (hs : starEach [e, e2] X.env = (false, eval e X.env) :: starEach [e2] X.env := by rfl) (hpl : (backTo pos (starEach [e2] X.env)).any (·.1) = false := by rfl) : AI X (.Tuple elts kk tpos) (.Call (.Name "zip" p) [e, e2] [] pos) (aiZip t) := by
  obtain ⟨u, pa, s⟩ := ha
  refine ⟨_, pi_zip2 hg hm pa hs hpl, fun Y H σ env R Q rep q k => ?_⟩
  refine s Y H σ env _ _ rep q fun vs H1 env1 rs rep1 g1 ok q1 => ?_
  match w : dats rs, q1 with
  | some [x, y], q1 =>
    have r := ok.dats w
    cases w1 : seqD x with
    | none => simp only [w1] at q1
    | some l =>
      cases w2 : seqD y with
      | none => simp only [w1, w2] at q1
      | some m =>
        simp only [w1, w2] at q1
        match vs, r with
        | [v1, v2], .cons r1 (.cons r2 .nil) =>
          obtain ⟨k1, a, us, e1, st1, sq1⟩ := r1.stays w1
          obtain ⟨k2, b, ws, e2, st2, sq2⟩ := r2.stays w2
          subst e1
          subst e2
          exact ⟨k1, k2, a, b, us, ws, rfl, sq1, sq2, k _ H1 env1 _ rep1 g1 (walk_zip st1 st2) q1⟩
end AL
namespace AL
open PySem L2 PySem.Spec PyProof.Rows SrtO
/-! AL20: sorted(d, reverse=True) of a dict whose keys are ints; list(range(n)); a display of a dict. -/
section
variable {X : Cx} {pins : List (Addr × Obj)} {σ : L2.St} {H : Hp} {s : Shared}
theorem ints_at : ∀ {us : List Value} {ks : List Int}, us.length = ks.length → (∀ (j : Nat) (v : Value), us[j]? = some v → ∃ (x : Int) (t : Tok), ks[j]? = some x ∧ v = .int x t) → IntsAre us ks := fun {us ks} hl h => L2.ints_each hl h
def rSortedDR (b : Bool) : List V → List V → Hp → VK → Prop := fun vs zs H Q => ∃ (a : Addr) (kvs : List (Key × V)) (ns : List Int), vs = [.ref a] ∧ zs = [.bl b] ∧ Rd H a (.dK kvs) ∧ kvs.map (·.1) = ns.map Sum.inl ∧
  ∀ (ns' : List Int) (p : Addr), ns'.Perm ns → OrdB b ns' → ns'.length ≤ sizeLine → H p = none → Q (.ref p) (upd H p (.lst (ns'.map V.int)))
theorem cr_sortedDR (hcalm : X.calm = true) {b : Bool} : CallRK X (.builtin "sorted") [Str.ofString "reverse"] (rSortedDR b) := by
  intro pins s σ H vs zs us ws Q I r rz h
  obtain ⟨a, kvs, ns, rfl, rfl, hd, hks, q⟩ := h
  obtain rfl := Vals.ref1 r
  obtain ⟨w1, rfl, e1⟩ := vals1 rz
  obtain rfl : w1 = Value.bool b := e1
  obtain ⟨zl, lo, ps, rel, dd⟩ := dk_rd I.hok hd
  obtain ⟨ep, hat⟩ := dd.dictAt
  have keys : ps.map (·.1) = ns.map Sum.inl := rel.keys.symm.trans hks
  have ln : ps.length = ns.length := by
    have := congrArg List.length keys
    simpa using this
  have lk : kvs.length = ns.length := by
    have := congrArg List.length hks
    simpa using this
  have small : ps.length ≤ sizeLine := by rw [ln, ← lk]; exact zl
  refine call_function_entry_kw kind_sorted plain_sorted entry_sorted (args_sorted_rev _ _) ?_
  unfold Builtin.«sorted»
  refine wpAny_bind (m := checkCount "sorted" 1 1 _) (wpAny_pure ?_)
  refine wpAny_bind (PySem.W.kdu_collect (A := X.A.in1) (PySem.W.kdl_dict (knd := mixKind X.prog X.w) (kvs := ps) (ep := ep) lo) (I.ok.hd hcalm) hat small fun h' tk acc kp items => ?_)
  have la : acc.toList.length = ns.length := by rw [Array.length_toList, items.1, ln]
  have hi : IntsAre acc.toList ns := ints_at la fun j v e => by
    obtain ⟨k, x, e1, e2⟩ := items.2 j v (by rw [← Array.getElem?_toList]; exact e)
    have e3 : (ps.map (·.1))[j]? = some k := by rw [List.getElem?_map, e1]; rfl
    rw [keys, List.getElem?_map] at e3
    cases e4 : ns[j]? with
    | none => rw [e4] at e3; cases e3
    | some y =>
      rw [e4] at e3
      obtain rfl : Sum.inl y = k := Option.some.inj e3
      rcases keyIs_shape (show keyIs (Sum.inl y) v = true from e2) with ⟨i, t, ek, ev⟩ | ⟨z, t, ek, ev⟩
      · cases ek; exact ⟨y, t, rfl, ev⟩
      · cases ek
  have I1 : Inv X pins σ H { s with heap := h', toks := tk } := I.kept kp
  have lz : acc.toList.length ≤ sizeLine := by rw [la, ← ln]; exact small
  refine wpAny_bind (wpAny_newList ?_ lz)
  have at_ : (h'.push (seqObj "list" acc.toList.toArray 0)).get? h'.objs.size = some (seqObj "list" acc.toList.toArray 0) := Heap.get?_push_size _ rfl
  refine wpAny_bind (wpAny_holding (wpAny_call_entry_kw slot_list_sort ⟨_, at_, rfl⟩ entry_list_sort ?_ (args_list_sort_rev _ _)))
  refine SrtR.list_sort_ordR (s := { s with heap := h'.push (seqObj "list" acc.toList.toArray 0), toks := tk }) swo_int at_ lz (fun h2 => ints_sortable hi h2) fun out o1 o2 => ⟨_, rfl, ?_⟩
  obtain ⟨ns', k1, k2, k3⟩ := SrtR.ints_outR hi o1 o2
  obtain ⟨ep', he'⟩ := sortedHeap_at (vs := acc.toList) (out := if b = true then out.toArray.reverse else out.toArray) at_
  have lz' : (ns'.map V.int).length ≤ sizeLine := by rw [List.length_map, k2.length_eq, ← la]; exact lz
  have e0 : ((if b = true then out.toArray.reverse else out.toArray).toList).toArray = (if b = true then out.toArray.reverse else out.toArray) := by rw [Array.toArray_toList]
  refine wpAny_pure ⟨_, rfl, .ref h'.objs.size, upd H h'.objs.size (.lst (ns'.map V.int)), I1.laid (t' := tk) (fun c o e => ?_) (Nat.le_refl _) ⟨lz', _, ep', vals_of_ints k1, by rw [e0]; exact he'⟩, rfl, q _ _ k2 k3 (by simpa using lz') (I1.hok.fresh (Nat.le_refl _))⟩
  have lt : c < h'.objs.size := Heap.lt_size e
  rw [sortedHeap_old (Nat.ne_of_lt lt) (by rw [size_push']; exact Nat.lt_succ_of_lt lt)]
  exact Heap.get?_push_of_some _ e
end
/-- sorted(d, reverse=True) -/
def aSortedDR (a : AE') : AE' := fun env R => a env fun r env1 => match val env1 r with
  | some (.dic ks vs) => ∃ ns : List Int, ks = ns.map D.int ∧ ∀ ns' : List Int, ns'.Perm ns → ns'.Pairwise (· ≥ ·) → R (.new (.lst (ns'.map D.int))) env1
  | _ => False
theorem kd_inls : ∀ {kvs : List (Key × V)} {ns : List Int}, (kvs.map fun kv => kD kv.1) = ns.map D.int → kvs.map (·.1) = ns.map Sum.inl
  | [], [], _ => rfl
  | [], _ :: _, h => by cases h
  | _ :: _, [], h => by cases h
  | (k, v) :: r, n :: ns, h => by
    simp only [List.map_cons, List.cons.injEq] at h ⊢
    refine ⟨?_, kd_inls h.2⟩
    cases k with
    | inl i =>
      have := h.1
      simp only [kD, D.int.injEq] at this
      rw [this]
    | inr x => cases h.1
theorem ae_sortedDR {X : Cx} {e : Expr} {a : AE'} {p pos kpos p2 : Pos} {j : Nat} (hc : X.calm = true) (he : AE X e a) (hg : Gl X "sorted") (hm : X.mg "sorted" = none)
    (h1 : backTo pos (starEach [e] X.env) = (false, eval e X.env) :: backTo pos (starEach [] X.env) := by rfl) (hpl : (backTo pos (starEach [e] X.env)).any (·.1) = false := by rfl)
    (hall : (backToKw pos (keywordEach [⟨some "reverse", .Constant (.bool true) j p2, kpos⟩] X.env)).all (·.1.isSome) = true := by rfl) (hnone : (backToKw pos (keywordEach [⟨some "reverse", .Constant (.bool true) j p2, kpos⟩] X.env)).any (·.1.isNone) = false := by rfl)
    (hks : (backToKw pos (keywordEach [⟨some "reverse", .Constant (.bool true) j p2, kpos⟩] X.env)).filterMap (·.1) = [Str.ofString "reverse"] := by rfl) (hna : starEach [e] X.env = (false, eval e X.env) :: starEach [] X.env := by rfl) :
    AE X (.Call (.Name "sorted" p) [e] [⟨some "reverse", .Constant (.bool true) j p2, kpos⟩] pos) (aSortedDR a) := by
  obtain ⟨t, pe, s⟩ := he
  refine ⟨_, pe_callBK (cr_sortedDR (b := true) hc) hg hm PyProof.Rows.boot_sorted (pa_cons pe pa_nil hna) (pk_cons pe_bl pk_nil) (by decide) (by decide) h1 hpl hall hnone hks, fun Y H σ env R Q rep q k => ?_⟩
  refine s Y H σ env _ _ rep q fun v H1 env1 r Y1 rep1 g1 ok1 q1 => ?_
  obtain ⟨d, e1, c⟩ := ok1.rc rep1
  simp only [e1] at q1
  match d, c, q1 with
  | .dic ks vs, c, q1 =>
    obtain ⟨ns, rfl, q1⟩ := q1
    obtain ⟨p, ev, kvs, hd, ek, rv⟩ := c.dic
    subst ev
    have repY := rep1.less g1.yu
    refine ⟨p, kvs, ns, rfl, rfl, hd, kd_inls ek.symm, fun ns' l pm od lz n => ?_⟩
    exact fin_lst (F := fun z => R z env1) repY (fun w H4 z Y4 rep4 g4 ok4 q4 => k w H4 env1 z Y4 rep4 (g1.drop.trans g4) ok4 q4) (RDs.ints ns') (by rw [List.length_map]; exact lz) (q1 ns' pm od) n
/-! ### list(range(n)) -/
def aListRg (a : AE') : AE' := fun env R => a env fun r env1 => match val env1 r with
  | some (.int n) => -(2 ^ 62) ≤ n ∧ n ≤ 16777216 ∧ R (.new (.lst (rangeD 0 n.toNat))) env1
  | _ => False
theorem rds_range {K : Fg} {H : Hp} {P : Ad} (n : Int) : RDs K H P (rgV 0 n) (rangeD 0 n.toNat) := by
  have e : rgV 0 n = ((List.range n.toNat).map fun i => (0 : Int) + (i : Nat)).map V.int := by
    unfold rgV
    rw [List.map_map, Int.sub_zero]
    rfl
  have e2 : rangeD 0 n.toNat = ((List.range n.toNat).map fun i => (0 : Int) + (i : Nat)).map D.int := by
    unfold rangeD
    rw [List.map_map]
    rfl
  rw [e, e2]
  exact RDs.ints _
theorem ae_listRg {X : Cx} {e : Expr} {a : AE'} {p pos p2 pos2 : Pos} (hc : X.calm = true) (he : AE X e a) (hl : Gl X "list") (ml : X.mg "list" = none) (hg : Gl X "range") (hm : X.mg "range" = none)
    (na : starEach [e] X.env = (false, eval e X.env) :: starEach [] X.env := by rfl) (nb : starEach [.Call (.Name "range" p) [e] [] pos] X.env = (false, eval (.Call (.Name "range" p) [e] [] pos) X.env) :: starEach [] X.env := by rfl) :
    AE X (.Call (.Name "list" p2) [.Call (.Name "range" p) [e] [] pos] [] pos2) (aListRg a) := by
  obtain ⟨t, pe, s⟩ := he
  refine ⟨_, pe_listRg hc hl ml (prg_1 hg hm pe na) nb, fun Y H σ env R Q rep q k => ?_⟩
  refine s Y H σ env _ _ rep q fun v H1 env1 r Y1 rep1 g1 ok1 q1 => ?_
  obtain ⟨d, e1, c⟩ := ok1.rc rep1
  simp only [e1] at q1
  match d, c, q1 with
  | .int n, c, q1 =>
    refine ⟨n, c.int, ⟨by omega, by omega, q1.1, by omega, by omega⟩, fun l nl => ?_⟩
    have ln : (rangeD 0 n.toNat).length ≤ sizeLine := by
      unfold rangeD
      rw [List.length_map, List.length_range, sizeLine_eq]
      omega
    exact fin_lst (F := fun z => R z env1) (rep1.less g1.yu) (fun w H4 z Y4 rep4 g4 ok4 q4 => k w H4 env1 z Y4 rep4 (g1.drop.trans g4) ok4 q4) (rds_range n) ln q1.2.2 nl
/-! ### {k: v, ..} -/
def aPairs : List (AE' × AE') → AEnv → (List D → List D → AEnv → Prop) → Prop
  | [], env, R => R [] [] env
  | (k, v) :: r, env, R => aFrz k env fun rk env1 => aFrz v env1 fun rv env2 => match rk, rv with
    | .dat dk, .dat dv => aPairs r env2 fun ks vs env3 => R (dk :: ks) (dv :: vs) env3
    | _, _ => False
def aDisp (ps : List (AE' × AE')) : AE' := fun env R => aPairs ps env fun ks vs env1 => ks.all isKey = true ∧ ks.Nodup ∧ ks.length ≤ 15 ∧ R (.new (.dic ks vs)) env1
def SndPs (K : Fg) (ts : List (TE × TE)) (ps : List (AE' × AE')) : Prop := ∀ (Y : Ad) (H : Hp) (σ : L2.St) (env : AEnv) (R : List D → List D → AEnv → Prop) (Q : List (V × V) → Hp → Prop), Rep K Y H σ env → aPairs ps env R →
  (∀ us H' env' ks vs, Rep K Y H' σ env' → Adv σ Y env H Y env' H' → RDs K H' (Pw Y σ env') (us.map (·.1)) ks → RDs K H' (Pw Y σ env') (us.map (·.2)) vs → R ks vs env' → Q us H') → tPairs ts σ H Q
def APs (X : Cx) (pos : Pos) (keys : List (Option Expr)) (values : List Expr) (ps : List (AE' × AE')) : Prop := ∃ ts, PPs X pos keys values ts ∧ SndPs X.K ts ps
section
variable {X : Cx} {pos : Pos} {k v : Expr} {keys : List (Option Expr)} {values : List Expr} {ps : List (AE' × AE')} {fk fv : AE'}
theorem aps_nil : APs X pos [] [] [] := ⟨[], pps_nil, fun Y H σ env R Q rep q k => k [] H env [] [] rep Adv.refl .nil .nil q⟩
theorem aps_cons (hk : AE X k fk) (hv : AE X v fv) (hr : APs X pos keys values ps) : APs X pos (some k :: keys) (v :: values) ((fk, fv) :: ps) := by
  obtain ⟨t1, p1, s1⟩ := hk.frz
  obtain ⟨t2, p2, s2⟩ := hv.frz
  obtain ⟨ts, p3, s3⟩ := hr
  refine ⟨_, pps_cons p1 p2 p3, fun Y H σ env R Q rep q kk => ?_⟩
  refine s1 Y H σ env _ _ rep q fun x H1 env1 r1 Y1 rep1 g1 ok1 q1 => ?_
  refine s2 Y1 H1 σ env1 _ _ rep1 q1 fun y H2 env2 r2 Y2 rep2 g2 ok2 q2 => ?_
  match r1, ok1, r2, ok2, q2 with
  | .dat dk, ok1, .dat dv, ok2, q2 =>
    obtain ⟨ey1, rd1⟩ := ok1
    obtain ⟨ey2, rd2⟩ := ok2
    subst ey1
    subst ey2
    refine s3 Y2 H2 σ env2 _ _ rep2 q2 fun us H3 env3 ks vs rep3 g3 a b q3 => ?_
    exact kk ((x, y) :: us) H3 env3 (dk :: ks) (dv :: vs) rep3 ((g1.trans g2).trans g3) (.cons ((g2.trans g3).rd rd1) a) (.cons (g3.rd rd2) b) q3
theorem kvs_of {K : Fg} {H : Hp} {P : Ad} : ∀ {us : List (V × V)} {ks vs : List D}, RDs K H P (us.map (·.1)) ks → RDs K H P (us.map (·.2)) vs → ks.all isKey = true → ∃ kvs : List (Key × V), us = kvs.map (fun kv => (kV kv.1, kv.2)) ∧ ks = kvs.map (fun kv => kD kv.1) ∧ RDs K H P (kvs.map (·.2)) vs
  | [], _, _, .nil, .nil, _ => ⟨[], rfl, rfl, .nil⟩
  | (x, y) :: us, dk :: ks, dv :: vs, .cons r1 t1, .cons r2 t2, h => by
    rw [List.all_cons, Bool.and_eq_true] at h
    obtain ⟨key, rfl⟩ := isKey_of h.1
    obtain ⟨kvs, e1, e2, r⟩ := kvs_of t1 t2 h.2
    have ex : x = kV key := RC.key (.inl r1)
    subst ex
    exact ⟨(key, y) :: kvs, by rw [e1]; rfl, by rw [e2]; rfl, .cons r2 r⟩
theorem merge_nodup : ∀ (kvs acc : List (Key × V)), ((acc ++ kvs).map fun kv => kD kv.1).Nodup → mergeK acc kvs = acc ++ kvs
  | [], acc, _ => by simp [mergeK]
  | (key, v) :: r, acc, h => by
    have nk : ¬ (acc.any fun kv => decide (kv.1 = key)) = true := fun z => by
      have m := (mem_key kD_inj key acc).mpr z
      rw [List.map_append, List.nodup_append] at h
      exact h.2.2 _ m _ List.mem_cons_self rfl
    have e : putK acc key v = acc ++ [(key, v)] := by
      unfold putK
      rw [if_neg nk]
    have := merge_nodup r (acc ++ [(key, v)]) (by rw [List.append_assoc]; exact h)
    rw [List.append_assoc] at this
    have e2 : mergeK acc ((key, v) :: r) = mergeK (putK acc key v) r := rfl
    rw [e2, e]
    exact this
theorem ae_disp (h : APs X pos keys values ps) (hall : keys.all (·.isSome) = true := by rfl) (hl : keys.length = values.length := by rfl) (h0 : keys ≠ [] := by exact fun h => by cases h) (h15 : keys.length ≤ 15 := by decide) : AE X (.Dict keys values pos) (aDisp ps) := by
  obtain ⟨ts, p, s⟩ := h
  refine ⟨_, pe_disp p hall hl h0 h15, fun Y H σ env R Q rep q k => ?_⟩
  intro a ha
  have nf := rep.fresh ha
  have sm : Same H (upd H a (.dK [])) := same_upd ha
  have yn : ∀ b, (Y b ∨ b = a) → Y b ∨ H b = none := fun b z => z.imp id fun e => by rw [e]; exact ha
  have rep1 : Rep X.K (fun b => Y b ∨ b = a) (upd H a (.dK [])) σ env := rep.grow yn sm fun b z => by
    rcases z with z | z
    · obtain ⟨o, e, m⟩ := rep.yim b z
      exact ⟨o, sm b o e, m⟩
    · subst z
      exact ⟨_, upd_same, trivial⟩
  have g0 : Adv σ Y env H (fun b => Y b ∨ b = a) env (upd H a (.dK [])) := Adv.grow rep sm (fun _ z => .inl z) yn
  refine s _ _ σ env _ _ rep1 q fun us H2 env2 ks vs rep2 g2 r1 r2 q2 => ?_
  have hp : H2 a = some (.dK []) := (g2.ky a (.inr rfl)).trans upd_same
  obtain ⟨isk, nd, l15, q2⟩ := q2
  obtain ⟨kvs, e1, e2, r⟩ := kvs_of r1 r2 isk
  have em : mergeK [] kvs = kvs := by
    have := merge_nodup kvs [] (by rw [List.nil_append, ← e2]; exact nd)
    rwa [List.nil_append] at this
  refine ⟨hp, kvs, e1, by rw [e2, List.length_map] at l15; exact l15, ?_⟩
  rw [em]
  -- the dict is filled
  have n2 : ¬ Own σ env2 a := fun z => nf (.inr (g2.own z))
  have kp : ∀ b o, H2 b = some o → b ≠ a → (upd H2 a (.dK kvs)) b = some o := fun b o e nb => by rw [upd_ne nb]; exact e
  have go : Go (fun b => b = a) (Pw (fun b => Y b ∨ b = a) σ env2) (Pw (fun b => Y b ∨ b = a) σ env2) H2 (upd H2 a (.dK kvs)) := ⟨fun b o e nb => .inl (kp b o e nb), fun _ z => .inl z⟩
  have sub : ∀ b, b = a → Pw (fun b => Y b ∨ b = a) σ env2 b := fun b e => .inl (.inr e)
  have rep3 : Rep X.K (fun b => Y b ∨ b = a) (upd H2 a (.dK kvs)) σ env2 := by
    refine ⟨rep2.len, fun i d e => ?_, fun i d e => ?_, fun b z => ?_, rep2.inj⟩
    · obtain ⟨v, w, rd⟩ := rep2.dat i d e
      exact ⟨v, w, rd.go go sub⟩
    · obtain ⟨p', w, np, ro⟩ := rep2.own i d e
      refine ⟨p', w, np, ro.go go sub (upd_ne fun e' => n2 ?_)⟩
      rw [← e']
      exact ⟨i, d, e, w⟩
    · by_cases e : b = a
      · subst e; exact ⟨_, upd_same, trivial⟩
      · obtain ⟨o, w, m⟩ := rep2.yim b z
        exact ⟨o, by rw [upd_ne e]; exact w, m⟩
  refine k _ (upd H2 a (.dK kvs)) env2 (.new (.dic ks vs)) _ rep3 ?_ ⟨a, rfl, rfl, fun z => ?_, kvs, upd_same, e2, r.go go sub⟩ q2
  · have g3 := g0.trans g2
    refine ⟨fun b o e n => ?_, fun b z => ?_, g3.yu, g3.yn, g3.sh, fun b o e => ?_⟩
    · have nb : b ≠ a := fun e' => by subst e'; rw [ha] at e; cases e
      have := g3.keep b o e n
      unfold KeepO at this ⊢
      rw [upd_ne nb]
      exact this
    · have nb : b ≠ a := fun e' => nf (.inl (e' ▸ z))
      rw [upd_ne nb]
      exact g3.ky b z
    · by_cases nb : b = a
      · subst nb; exact ⟨_, upd_same⟩
      · rw [upd_ne nb]
        exact g3.live b o e
  · rcases z with z | z
    · exact nf (.inl z)
    · exact n2 z
end
end AL
namespace AL
open PySem L2
/-! AL21: short names for the printed derivations. -/
def fSub : Op2 := fI0 fun i j => .int (i - j)
def fMul : Op2 := fII CMul fun i j => .int (i * j)
def fDiv : Op2 := fII CDiv fun i j => .int (i / j)
def fMod : Op2 := fII (fun _ j => 0 < j) fun i j => .int (i % j)
def fPow : Op2 := fII CPow fun i j => .int (i ^ j.toNat)
def fLt : Op2 := fI0 fun i j => .bl (decide (i < j))
def fLe : Op2 := fI0 fun i j => .bl (decide (i ≤ j))
def fGt : Op2 := fI0 fun i j => .bl (decide (j < i))
def fGe : Op2 := fI0 fun i j => .bl (decide (j ≤ i))
section
variable {X : Cx} {a b : Expr} {fa fb : AE'} {pos : Pos} {k : Nat}
theorem ae_add (ha : AE X a fa) (hb : AE X b fb) : AE X (.BinOp a .Add b pos) (aOp fAdd fa fb) := ae_op or_add (os_add _) ha hb
theorem ae_sub (ha : AE X a fa) (hb : AE X b fb) : AE X (.BinOp a .Sub b pos) (aOp fSub fa fb) := ae_op op_sub os_i0 ha hb
theorem ae_mul (ha : AE X a fa) (hb : AE X b fb) : AE X (.BinOp a .Mult b pos) (aOp fMul fa fb) := ae_op op_mul os_ii ha hb
theorem ae_div (ha : AE X a fa) (hb : AE X b fb) : AE X (.BinOp a .FloorDiv b pos) (aOp fDiv fa fb) := ae_op op_fdiv os_ii ha hb
theorem ae_mod (ha : AE X a fa) (hb : AE X b fb) : AE X (.BinOp a .Mod b pos) (aOp fMod fa fb) := ae_op op_mod os_ii ha hb
theorem ae_pow (ha : AE X a fa) (hb : AE X b fb) : AE X (.BinOp a .Pow b pos) (aOp fPow fa fb) := ae_op op_pow os_ii ha hb
theorem ae_lt (ha : AE X a fa) (hb : AE X b fb) : AE X (.Compare a [.Lt] [b] pos) (aOp fLt fa fb) := ae_cmpR op_lt os_b0 ha hb (nomark _)
theorem ae_le (ha : AE X a fa) (hb : AE X b fb) : AE X (.Compare a [.LtE] [b] pos) (aOp fLe fa fb) := ae_cmpR op_le os_b0 ha hb (nomark _)
theorem ae_gt (ha : AE X a fa) (hb : AE X b fb) : AE X (.Compare a [.Gt] [b] pos) (aOp fGt fa fb) := ae_cmpR op_gt os_b0 ha hb (nomark _)
theorem ae_ge (ha : AE X a fa) (hb : AE X b fb) : AE X (.Compare a [.GtE] [b] pos) (aOp fGe fa fb) := ae_cmpR op_ge os_b0 ha hb (nomark _)
theorem at_lt (ha : AE X a fa) (hb : AE X b fb) : AT X (.Compare a [.Lt] [b] pos) (aB (aOp fLt fa fb)) := at_cmp op_lt os_b0 ha hb (nomark _)
theorem at_le (ha : AE X a fa) (hb : AE X b fb) : AT X (.Compare a [.LtE] [b] pos) (aB (aOp fLe fa fb)) := at_cmp op_le os_b0 ha hb (nomark _)
theorem at_gt (ha : AE X a fa) (hb : AE X b fb) : AT X (.Compare a [.Gt] [b] pos) (aB (aOp fGt fa fb)) := at_cmp op_gt os_b0 ha hb (nomark _)
theorem at_ge (ha : AE X a fa) (hb : AE X b fb) : AT X (.Compare a [.GtE] [b] pos) (aB (aOp fGe fa fb)) := at_cmp op_ge os_b0 ha hb (nomark _)
theorem ae_eq (hr : Room k X.A) (ha : AE X a fa) (hb : AE X b fb) : AE X (.Compare a [.Eq] [b] pos) (aOp fEq fa fb) := ae_cmpR (op_eqD (by have := hr.un; omega)) (os_eq _) ha hb (nomark _)
theorem ae_ne (hr : Room k X.A) (ha : AE X a fa) (hb : AE X b fb) : AE X (.Compare a [.NotEq] [b] pos) (aOp fNe fa fb) := ae_cmpR (op_neD (by have := hr.un; omega)) (os_ne _) ha hb (nomark _)
theorem at_eq (hr : Room k X.A) (ha : AE X a fa) (hb : AE X b fb) : AT X (.Compare a [.Eq] [b] pos) (aB (aOp fEq fa fb)) := at_cmp (op_eqD (by have := hr.un; omega)) (os_eq _) ha hb (nomark _)
theorem at_ne (hr : Room k X.A) (ha : AE X a fa) (hb : AE X b fb) : AT X (.Compare a [.NotEq] [b] pos) (aB (aOp fNe fa fb)) := at_cmp (op_neD (by have := hr.un; omega)) (os_ne _) ha hb (nomark _)
theorem ae_isN (ha : AE X a fa) (hb : AE X b fb) : AE X (.Compare a [.Is] [b] pos) (aOp fIsN fa fb) := ae_cmpR op_isN (os_isN _) ha hb (nomark _)
theorem ae_notN (ha : AE X a fa) (hb : AE X b fb) : AE X (.Compare a [.IsNot] [b] pos) (aOp fNotN fa fb) := ae_cmpR op_notN (os_notN _) ha hb (nomark _)
theorem at_isN (ha : AE X a fa) (hb : AE X b fb) : AT X (.Compare a [.Is] [b] pos) (aB (aOp fIsN fa fb)) := at_cmp op_isN (os_isN _) ha hb (nomark _)
theorem at_notN (ha : AE X a fa) (hb : AE X b fb) : AT X (.Compare a [.IsNot] [b] pos) (aB (aOp fNotN fa fb)) := at_cmp op_notN (os_notN _) ha hb (nomark _)
theorem ae_in (hr : Room k X.A) (ha : AE X a fa) (hb : AE X b fb) (hm : behindInMarks .In b = false := by rfl) : AE X (.Compare a [.In] [b] pos) (aOp (fIn false) fa fb) := ae_cmpR (or_in hr) (os_in _) ha hb hm
theorem ae_notIn (hr : Room k X.A) (ha : AE X a fa) (hb : AE X b fb) (hm : behindInMarks .NotIn b = false := by rfl) : AE X (.Compare a [.NotIn] [b] pos) (aOp (fIn true) fa fb) := ae_cmpR (or_notIn hr) (os_notIn _) ha hb hm
theorem at_in (hr : Room k X.A) (ha : AE X a fa) (hb : AE X b fb) (hm : behindInMarks .In b = false := by rfl) : AT X (.Compare a [.In] [b] pos) (aB (aOp (fIn false) fa fb)) := at_cmp (or_in hr) (os_in _) ha hb hm
theorem at_notIn (hr : Room k X.A) (ha : AE X a fa) (hb : AE X b fb) (hm : behindInMarks .NotIn b = false := by rfl) : AT X (.Compare a [.NotIn] [b] pos) (aB (aOp (fIn true) fa fb)) := at_cmp (or_notIn hr) (os_notIn _) ha hb hm
end
/-- a def of the module as it stands there -/
structure DefAt (K : Fg) (mg : Str → Option Value) (x : Str) (st : Stmt) (ps : List Str) (f : Addr) (fd : FuncData) : Prop where
  fn : Fun K x x st f fd
  mg : mg x = some (.ref f)
  kp : PySem.W.keepIn K (.ref f) = true
  bi : Binds K fd ps []
/-- a method of a class -/
structure MethAt (K : Fg) (C : Addr) (x qual : Str) (st : Stmt) (ps : List Str) (f : Addr) (fd : FuncData) : Prop where
  fn : Fun K x qual st f fd
  me : Meth K C x f
  bi : Binds K fd ps []
/-- a class with a plain __init__ -/
structure ClsAt (K : Fg) (mg : Str → Option Value) (x qual : Str) (st : Stmt) (ps : List Str) (C f : Addr) (fd : FuncData) : Prop where
  cl : Cls K C
  ma : Mk K C f
  mg : mg x = some (.ref C)
  fn : Fun K "__init__" qual st f fd
  bi : Binds K fd ps []
end AL
namespace AL
open PySem L2
/-! AL22: tuples that are known to stand in the heap (hup), dicts whose keys are tuples. -/
def hupD (l : List D) : D := .dit l (.non :: l)
def kT (k : List Key) : D := .tup (k.map kD)
theorem kT_inj {a b : List Key} (h : kT a = kT b) : a = b := by
  injection h with h
  exact map_kD_inj h
/-- a heap tuple is a tuple -/
def hupL : D → Option (List D)
  | .dit l (.non :: m) => if m = l then some l else none
  | _ => none
theorem hupL_of {d : D} {l : List D} (h : hupL d = some l) : d = hupD l := by
  unfold hupL at h
  split at h
  · rename_i a m
    by_cases e : m = a
    · rw [if_pos e] at h
      cases h
      subst e
      rfl
    · rw [if_neg e] at h; cases h
  · cases h
theorem hupL_hup (l : List D) : hupL (hupD l) = some l := by
  show (if l = l then some l else none) = some l
  rw [if_pos rfl]
theorem RC.hup {K : Fg} {H : Hp} {P : Ad} {v : V} {l : List D} (h : RC K H P v (hupD l)) : ∃ a us, v = .ref a ∧ H a = some (.tup us) ∧ ¬ P a ∧ us.length ≤ sizeLine ∧ RDs K H P us l := by
  have lens : ∀ {kvs : List (List Key × V)}, l = (kvs.map fun kv => D.tup (kv.1.map kD)) → RDs K H P (kvs.map (·.2)) (.non :: l) → False := fun {kvs} e r => by
    have h1 := r.length
    have h2 := congrArg List.length e
    rw [List.length_map, List.length_cons] at h1
    rw [List.length_map] at h2
    omega
  rcases h with h | ⟨p, e, h⟩
  · unfold hupD at h
    cases h with
    | dT s n e r => exact (lens e r).elim
    | hup s n z r => exact ⟨_, _, rfl, s, n, z, r⟩
  · obtain ⟨kvs, q, e2, r⟩ := (show ∃ kvs, H p = some (.dT kvs) ∧ l = (kvs.map fun kv => D.tup (kv.1.map kD)) ∧ RDs K H P (kvs.map (·.2)) (.non :: l) from h)
    exact (lens e2 r).elim
theorem RC.hupKey {K : Fg} {H : Hp} {P : Ad} {v : V} {k : List Key} (h : RC K H P v (hupD (k.map kD))) : ∃ b, v = .ref b ∧ H b = some (.tup (k.map kV)) := by
  obtain ⟨a, us, e, s, _, _, r⟩ := h.hup
  rw [r.keys] at s
  exact ⟨a, e, s⟩
/-- a heap tuple read as a tuple -/
def aW (a : AE') : AE' := fun env R => a env fun r env1 => match r with
  | .dat d => match hupL d with
    | some l => R (.dat (.tup l)) env1
    | none => False
  | _ => False
theorem AE.w {X : Cx} {e : Expr} {a : AE'} (h : AE X e a) : AE X e (aW a) := by
  obtain ⟨t, p, s⟩ := h
  refine ⟨t, p, fun Y H σ env R Q rep q k => ?_⟩
  refine s Y H σ env _ _ rep q fun v H1 env1 r Y1 rep1 g1 ok1 q1 => ?_
  match r, ok1, q1 with
  | .dat d, ok1, q1 =>
    obtain ⟨ey, rd⟩ := ok1
    cases w : hupL d with
    | none => simp only [w] at q1
    | some l =>
      simp only [w] at q1
      have := hupL_of w
      subst this
      obtain ⟨a, us, e, s, n, z, r⟩ := RC.hup (.inl rd)
      subst e
      exact k _ H1 env1 (.dat (.tup l)) Y1 rep1 g1 ⟨ey, .tup (.inl ⟨.inl s, n, z⟩) r⟩ q1
/-- tuple(list): a new tuple -/
def fTupleH : Op1 := fun d F => match d with
  | .lst l => F (.dat (hupD l))
  | _ => False
/-! dicts with tuples as keys -/
theorem dit_get {K : Fg} {H : Hp} {P : Ad} {v : V} {ks vs : List D} {k : List Key} {y : V} (h : RC K H P v (.dit ks vs)) (hl : vs.length = ks.length) (hy : RC K H P y (hupD (k.map kD))) :
    ∃ p ov, v = .ref p ∧ DGet H p y ov ∧ IsD H p ∧ (ov.isSome = decide (kT k ∈ ks)) ∧ (∀ d, dGet ks vs (kT k) = some d → ∃ w, ov = some w ∧ RD K H P w d) ∧ (dGet ks vs (kT k) = none → ov = none) := by
  obtain ⟨p, e, kvs, hp, rfl, r⟩ := h.dit hl
  obtain ⟨b, eb, hb⟩ := hy.hupKey
  refine ⟨p, valV kvs k, e, .inr ⟨kvs, k, b, hp, eb, hb, rfl⟩, .inr ⟨kvs, hp⟩, ?_, ?_⟩
  · rw [← valV_any k kvs, Bool.eq_iff_iff, decide_eq_true_iff]
    exact (mem_key (g := kT) kT_inj k kvs).symm
  · rcases get_val (g := kT) kT_inj k r with ⟨d, w, e1, e2, r1⟩ | ⟨e1, e2⟩
    · refine ⟨fun d' q => ?_, fun q => ?_⟩
      · have q' : dGet (kvs.map fun kv => kT kv.1) vs (kT k) = some d' := q
        rw [e1] at q'; cases q'
        exact ⟨w, e2, r1⟩
      · have q' : dGet (kvs.map fun kv => kT kv.1) vs (kT k) = none := q
        rw [e1] at q'; cases q'
    · refine ⟨fun d' q => ?_, fun q => e2⟩
      have q' : dGet (kvs.map fun kv => kT kv.1) vs (kT k) = some d' := q
      rw [e1] at q'; cases q'
/-- a dict, its tuple key, as data -/
def ditK (d k : D) : Option (List D × List D × List D) := match d, hupL k with
  | .dit ks vs, some l => if vs.length = ks.length ∧ l.all isKey = true then some (ks, vs, l) else none
  | _, _ => none
theorem ditK_of {d k : D} {ks vs l : List D} (h : ditK d k = some (ks, vs, l)) : d = .dit ks vs ∧ vs.length = ks.length ∧ ∃ kk : List Key, k = hupD (kk.map kD) ∧ l = kk.map kD := by
  unfold ditK at h
  split at h
  · rename_i a b m e
    split at h
    · rename_i c
      cases h
      obtain ⟨kk, rfl⟩ := keys_of c.2
      exact ⟨rfl, c.1, kk, hupL_of e, rfl⟩
    · cases h
  · cases h
theorem ditK_mk {ks vs l : List D} (h : vs.length = ks.length) (hk : l.all isKey = true) : ditK (.dit ks vs) (hupD l) = some (ks, vs, l) := by
  unfold ditK
  rw [hupL_hup]
  show (if vs.length = ks.length ∧ l.all isKey = true then some (ks, vs, l) else none) = _
  rw [if_pos ⟨h, hk⟩]
@[irreducible] def fIxT : Op2 := fun d k F => ∃ ks vs l z, ditK d k = some (ks, vs, l) ∧ dGet ks vs (.tup l) = some z ∧ F (.dat z)
@[irreducible] def fInT (neg : Bool) : Op2 := fun k d F => ∃ ks vs l, ditK d k = some (ks, vs, l) ∧ F (.dat (.bl (if neg then !decide (.tup l ∈ ks) else decide (.tup l ∈ ks))))
theorem os_ixT (K : Fg) : OpS K (fun x y H Q => ∃ a v, x = .ref a ∧ DGet H a y (some v) ∧ Q v H) fIxT := by
  intro Y H σ env x y d e F Q R cx cy f k
  unfold fIxT at f
  obtain ⟨ks, vs, l, z, ek, e1, f⟩ := f
  obtain ⟨rfl, hl, kk, rfl, rfl⟩ := ditK_of ek
  obtain ⟨p, ov, e2, g, _, _, h3, _⟩ := dit_get cx hl cy
  obtain ⟨w, rfl, r⟩ := h3 z e1
  exact ⟨p, w, e2, g, fin_dat R k r f⟩
theorem os_inT (K : Fg) : OpS K (rInDc false) (fInT false) := by
  intro Y H σ env x y d e F Q R cx cy f k
  unfold fInT at f
  obtain ⟨ks, vs, l, ek, f⟩ := f
  obtain ⟨rfl, hl, kk, rfl, rfl⟩ := ditK_of ek
  obtain ⟨p, ov, e1, g, _, e2, _⟩ := dit_get cy hl cx
  refine ⟨p, ov, e1, g, ?_⟩
  show Q (.bl ov.isSome) H
  rw [e2]
  exact fin_dat R k (.bl _) f
theorem os_notInT (K : Fg) : OpS K (rInDc true) (fInT true) := by
  intro Y H σ env x y d e F Q R cx cy f k
  unfold fInT at f
  obtain ⟨ks, vs, l, ek, f⟩ := f
  obtain ⟨rfl, hl, kk, rfl, rfl⟩ := ditK_of ek
  obtain ⟨p, ov, e1, g, _, e2, _⟩ := dit_get cy hl cx
  refine ⟨p, ov, e1, g, ?_⟩
  show Q (.bl (!ov.isSome)) H
  rw [e2]
  exact fin_dat R k (.bl _) f
section
variable {X : Cx} {a b : Expr} {fa fb : AE'} {pos : Pos} {j : Nat}
theorem ae_ixT (hr : Room j X.A) (ha : AE X a fa) (hb : AE X b fb) (hs : PlainIx b := by exact fun _ _ => rfl) : AE X (.Subscript a b pos) (aOp fIxT fa fb) := by
  obtain ⟨t, p, s⟩ := ha
  obtain ⟨t2, p2, s2⟩ := hb
  exact ⟨_, pe_ix (ix_dict (by have := hr.un; omega)) p p2 hs, snd_op (os_ixT X.K) s s2⟩
theorem ae_inT (hr : Room j X.A) (ha : AE X a fa) (hb : AE X b fb) (hm : behindInMarks .In b = false := by rfl) : AE X (.Compare a [.In] [b] pos) (aOp (fInT false) fa fb) := ae_cmpR (op_inDc (by have := hr.un; omega)) (os_inT _) ha hb hm
theorem ae_notInT (hr : Room j X.A) (ha : AE X a fa) (hb : AE X b fb) (hm : behindInMarks .NotIn b = false := by rfl) : AE X (.Compare a [.NotIn] [b] pos) (aOp (fInT true) fa fb) := ae_cmpR (op_notInDc (by have := hr.un; omega)) (os_notInT _) ha hb hm
theorem at_inT (hr : Room j X.A) (ha : AE X a fa) (hb : AE X b fb) (hm : behindInMarks .In b = false := by rfl) : AT X (.Compare a [.In] [b] pos) (aB (aOp (fInT false) fa fb)) := at_cmp (op_inDc (by have := hr.un; omega)) (os_inT _) ha hb hm
theorem at_notInT (hr : Room j X.A) (ha : AE X a fa) (hb : AE X b fb) (hm : behindInMarks .NotIn b = false := by rfl) : AT X (.Compare a [.NotIn] [b] pos) (aB (aOp (fInT true) fa fb)) := at_cmp (op_notInDc (by have := hr.un; omega)) (os_notInT _) ha hb hm
end
/-! d.get(k, e) -/
@[irreducible] def getT (d k e : D) (R : D → Prop) : Prop := ∃ ks vs l, ditK d k = some (ks, vs, l) ∧ R ((dGet ks vs (.tup l)).getD e)
def isDit : D → Bool
  | .dit ks vs => decide (vs.length = ks.length)
  | _ => false
def aGetT (o k e : AE') : AE' := fun env R => o env fun r env1 => (∃ d, val env1 r = some d ∧ isDit d = true) ∧ aFrz k env1 fun rk env2 => aFrz e env2 fun re env3 => match val env3 r, rk, re with
  | some d, .dat key, .dat dflt => getT d key dflt fun z => R (.dat z) env3
  | _, _, _ => False
theorem ae_getT {X : Cx} {o e f : Expr} {apos cpos : Pos} {fo fk fe : AE'} {j : Nat} (hr : Room j X.A) (ho : AE X o fo) (hk : AE X e fk) (he : AE X f fe) (m : M2 X o "get" apos e f cpos := by exact ⟨rfl, rfl, rfl, rfl⟩) : AE X (.Call (.Attribute o "get" apos) [e, f] [] cpos) (aGetT fo fk fe) := by
  obtain ⟨t1, p1, s1⟩ := ho
  obtain ⟨t2, p2, s2⟩ := hk.frz
  obtain ⟨t3, p3, s3⟩ := he.frz
  refine ⟨_, pe_dget2 (by have := hr.un; omega) p1 p2 p3 m, fun Y H σ env R Q rep q k => ?_⟩
  refine s1 Y H σ env _ _ rep q fun v H1 env1 r1 Y1 rep1 g1 ok1 q1 => ?_
  obtain ⟨⟨d0, e0, isd⟩, q1⟩ := q1
  obtain ⟨d1, e1, c1⟩ := ok1.rc rep1
  rw [e0] at e1
  cases e1
  match d0, c1, isd with
  | .dit ks0 vs0, c1, isd =>
    obtain ⟨p, ep, kvs, hrd, _, _⟩ := c1.dit (by simpa [isDit] using isd)
    refine ⟨p, ep, .inr ⟨kvs, hrd⟩, ?_⟩
    refine s2 Y1 H1 σ env1 _ _ rep1 q1 fun vk H2 env2 r2 Y2 rep2 g2 ok2 q2 => ?_
    refine s3 Y2 H2 σ env2 _ _ rep2 q2 fun ve H3 env3 r3 Y3 rep3 g3 ok3 q3 => ?_
    obtain ⟨d, ed, cd⟩ := ok1.later (g2.trans g3) rep3
    have gg := (g1.trans g2).trans g3
    rw [ed] at q3
    match r2, ok2, r3, ok3, q3 with
    | .dat key, ok2, .dat dflt, ok3, q3 =>
      unfold getT at q3
      obtain ⟨ks, vs, l, ek, q3⟩ := q3
      obtain ⟨rfl, hl, kk, rfl, rfl⟩ := ditK_of ek
      obtain ⟨ey2, rd2⟩ := ok2
      obtain ⟨ey3, rd3⟩ := ok3
      subst ey2
      subst ey3
      obtain ⟨p', ov, ep', g, _, _, hs, hn⟩ := dit_get cd hl (.inl (g3.rd rd2))
      rw [ep] at ep'
      cases ep'
      refine ⟨ov, g, ?_⟩
      have rd : RD X.K H3 (Pw Y3 σ env3) (ov.getD ve) ((dGet ks vs (.tup (kk.map kD))).getD dflt) := by
        cases w : dGet ks vs (.tup (kk.map kD)) with
        | none => rw [hn w]; exact rd3
        | some z =>
          obtain ⟨u, e2, r⟩ := hs z w
          rw [e2]
          exact r
      exact k _ H3 env3 (.dat _) Y (rep3.less gg.yu) gg.drop ⟨rfl, rd.less (pw_less gg.yu)⟩ q3
/-! d[k] = v -/
@[irreducible] def setAtT (j : Nat) (k d : D) (env : AEnv) (N : AEnv → Prop) : Prop := ∃ d0 ks vs l, env[j]? = some (.own d0) ∧ ditK d0 k = some (ks, vs, l) ∧ ks.length < sizeLine ∧ N (env.set j (.own (.dit (dPutK ks (.tup l)) (dPutW ks vs (.tup l) d))))
def agSubT (o i : AE') : AG' := fun d env N => o env fun r env1 => i env1 fun s env2 => match r, val env2 s with
  | .at j, some k => setAtT j k d env2 N
  | _, _ => False
theorem dputT_ok {K : Fg} {H : Hp} {P : Ad} {kvs : List (List Key × V)} {vs : List D} {k : List Key} {v : V} {d : D} (r : RDs K H P (kvs.map (·.2)) vs) (hv : RD K H P v d) :
    dPutK (kvs.map fun kv => kT kv.1) (kT k) = (putK kvs k v).map (fun kv => kT kv.1) ∧ RDs K H P ((putK kvs k v).map (·.2)) (dPutW (kvs.map fun kv => kT kv.1) vs (kT k) d) := by
  unfold dPutK dPutW putK
  by_cases h : (kvs.any fun kv => decide (kv.1 = k)) = true
  · have h' : kT k ∈ (kvs.map fun kv => kT kv.1) := (mem_key kT_inj k kvs).mpr h
    rw [if_pos h', if_pos h', if_pos h]
    exact ⟨(put_keys (g := kT) k v kvs).symm, put_map kT_inj hv r⟩
  · have h' : ¬ kT k ∈ (kvs.map fun kv => kT kv.1) := fun z => h ((mem_key kT_inj k kvs).mp z)
    rw [if_neg h', if_neg h', if_neg h]
    rw [List.map_append, List.map_append]
    exact ⟨rfl, r.append (.cons hv .nil)⟩
theorem set_atT_ok {K : Fg} {B : Nat → Bool} {Y : Ad} {H : Hp} {σ : L2.St} {env : AEnv} {o i v : V} {d k : D} {j : Nat} {N : AEnv → Prop} {Q : Hp → Prop} (rep : Rep K Y H σ env) (ho : σ[j]? = some (some o)) (hk : RC K H (Pw Y σ env) i k) (hv : RD K H (Pw Y σ env) v d)
    (q : setAtT j k d env N) (fin : ∀ H' env', Rep K Y H' σ env' → AdvS B σ Y env H Y σ env' H' → N env' → Q H') : rSetD o i v H Q := by
  unfold setAtT at q
  obtain ⟨d0, ks, vs, l, w, ek, hz, q⟩ := q
  obtain ⟨rfl, hl, kk, rfl, rfl⟩ := ditK_of ek
  obtain ⟨p, hp, np, kvs, hu, ek2, r⟩ := rep.own j _ w
  rw [ho] at hp; cases hp
  subst ek2
  obtain ⟨b, eb, hb⟩ := hk.hupKey
  obtain ⟨e1, r2⟩ := dputT_ok (k := kk) r hv
  obtain ⟨a, b2⟩ := rep.mut (B := B) (o := .dT (putK kvs kk v)) (d1 := .dit (dPutK (kvs.map fun kv => kT kv.1) (kT kk)) (dPutW (kvs.map fun kv => kT kv.1) vs (kT kk) d)) w ho fun P pw g => ⟨_, upd_same, e1, Go.rds g (fun a e => by subst e; exact .inr ⟨j, _, w, ho⟩) r2⟩
  exact ⟨p, _, rfl, .inr ⟨kvs, kk, b, hu, eb, hb, by simpa using hz, rfl⟩, fin _ _ a b2 q⟩
theorem ag_subT {X : Cx} {B : Nat → Bool} {pos : Pos} {o i : Expr} {fo fi : AE'} {k : Nat} (hr : Room k X.A) (ho : AE X o fo) (hi : AE X i fi)
    (ha : ∀ v, assign (.Subscript o i pos) X.env v = (do
      let ov ← holding [v] (eval o X.env)
      let iv ← holding [v, ov] (eval i X.env)
      standAt pos
      holding [v, ov, iv] (setItem ov iv v)
      release [v, ov, iv] []) := by intro _; rfl) : AG X B (.Subscript o i pos) (agSubT fo fi) := by
  obtain ⟨t1, p1, s1⟩ := ho
  obtain ⟨t2, p2, s2⟩ := hi
  refine ⟨_, pg_sub p1 p2 (set_dict (by have := hr.un; omega)) ha, fun Y H σ env v d N Q rep rd q k => ?_⟩
  refine s1 Y H σ env _ _ rep q fun ov H1 env1 r1 Y1 rep1 g1 ok1 q1 => ?_
  refine s2 Y1 H1 σ env1 _ _ rep1 q1 fun iv H2 env2 r2 Y2 rep2 g2 ok2 q2 => ?_
  obtain ⟨ky, e2, c2⟩ := ok2.rc rep2
  have gg := g1.trans g2
  have repY := rep2.less gg.yu
  simp only [e2] at q2
  match r1, ok1, q2 with
  | .at j, ok1, q2 =>
    refine set_atT_ok (B := B) repY ok1.2.1 (c2.less (pw_less gg.yu)) (gg.drop.rd rd) q2 fun H' env' rep' g' q' => k H' σ env' rep' (gg.drop.toS.trans rep g') q'
/-! for k in d -/
def iSeqT (te : TE) : TI := fun σ H R => te σ H fun x H1 => ∃ d kvs, x = .ref d ∧ ((∃ o, H1 d = some (.frz o (.dT kvs)) ∧ R (Itkt d o kvs) H1) ∨ (H1 d = some (.dT kvs) ∧ ∀ od, R (Itkt d od kvs) (upd H1 d (.frz od (.dT kvs)))))
theorem pi_seqT {X : Cx} {tg e : Expr} {te : TE} (he : PE X e te) : PI X tg e (iSeqT te) := by
  refine ⟨fun pins s σ H R I h => ?_⟩
  refine thn (he.run pins s σ H _ I h) fun u s1 ⟨x, H1, I1, rx, d, kvs, ex, q⟩ => ?_
  subst ex
  obtain rfl : u = Value.ref d := rx
  have go : ∀ (H2 : Hp) (o : Obj), Inv X pins σ H2 s1 → H2 d = some (.frz o (.dT kvs)) → R (Itkt d o kvs) H2 → wpAny (model X.prog X.w) X.A (pyIter (.ref d)) (PIE X pins σ tg R) X.xe s1 := fun H2 o I2 hd q => by
    obtain ⟨hs, hgd, hx, es, ep, hdt, hsz, ent⟩ := I2.frzT hd
    refine iter_keys hs hgd hx hdt (pi_one (tk := s1.toks) I2 _ (turn_keysT _ hdt) ⟨_, Heap.get?_push_size _ rfl, rfl, ?_⟩ q)
    rw [hsz] <;> rfl
  rcases q with ⟨o, hd, q⟩ | ⟨hd, q⟩
  · exact go H1 o I1 hd q
  · obtain ⟨od, I2⟩ := I1.lock hd trivial
    exact go _ od I2 upd_same (q od)
def hupOf : D → D
  | .tup l => hupD l
  | d => d
def smallT : D → Prop
  | .tup l => l.length ≤ sizeLine
  | _ => False
def aiSeqT (a : AE') : AI' := fun env R => aFrz a env fun r env1 => match r with
  | .dat (.dit ks vs) => vs.length = ks.length ∧ ks.length ≤ sizeLine ∧ (∀ k ∈ ks, smallT k) ∧ R (ks.map hupOf) env1
  | _ => False
theorem ai_seqT {X : Cx} {tg e : Expr} {a : AE'} (h : AE X e a) : AI X tg e (aiSeqT a) := by
  obtain ⟨t, p, s⟩ := h.frz
  refine ⟨_, pi_seqT p, fun Y H σ env R Q rep q k => ?_⟩
  refine s Y H σ env _ _ rep q fun v H1 env1 r1 Y1 rep1 g1 ok1 q1 => ?_
  match r1, ok1, q1 with
  | .dat (.dit ks vs), ok1, q1 =>
    obtain ⟨ey, rd⟩ := ok1
    subst ey
    obtain ⟨hl, _, sm, q1⟩ := q1
    cases rd with
    | hup hr n z r =>
      rw [List.length_cons] at hl
      omega
    | dT hr n e1 r =>
      rename_i d kvs
      subst e1
      have em : (kvs.map fun kv => D.tup (kv.1.map kD)).map hupOf = kvs.map fun kv => D.dit (kv.1.map kD) (.non :: kv.1.map kD) := by
        rw [List.map_map]
        rfl
      rw [em] at q1
      have sz : ∀ kv ∈ kvs, kv.1.length ≤ sizeLine := fun kv hkv => by
        have := sm (D.tup (kv.1.map kD)) (List.mem_map.mpr ⟨kv, hkv, rfl⟩)
        have h2 : (kv.1.map kD).length ≤ sizeLine := this
        rwa [List.length_map] at h2
      refine ⟨_, kvs, rfl, ?_⟩
      rcases hr with hr | ⟨o, hr⟩
      · refine .inr ⟨hr, fun od => ?_⟩
        obtain ⟨rep2, g2⟩ := rep1.lockT (od := od) hr n
        exact k _ _ env1 _ rep2 (g1.trans g2) (walk_keysT upd_same n sz) q1
      · exact .inl ⟨o, hr, k _ H1 env1 _ rep1 g1 (walk_keysT hr n sz) q1⟩
/-! dict(d) -/
def fDict : Op1 := fun d F => match d with
  | .dic ks vs => F (.new (.dic ks vs))
  | _ => False
theorem rs_dict (K : Fg) : Rd1S K (fun xs H Q => ∃ (a : Addr) (kvs : List (Key × V)), xs = [.ref a] ∧ Rd H a (.dK kvs) ∧ ∀ p, H p = none → Q (.ref p) (upd H p (.dK kvs))) fDict := by
  intro Y H σ env x d F Q R c f k
  match d, c, f with
  | .dic ks vs, c, f =>
    obtain ⟨p, e, kvs, hr, e2, r⟩ := c.dic
    subst e
    exact ⟨p, kvs, rfl, hr, fun q n => fin_new (d := .dic ks vs) R k n ⟨kvs, upd_same, e2, rds_new r n⟩ f⟩
theorem rs_tupleH (K : Fg) : Rd1S K (fun xs H Q => ∃ p ys, xs = [V.ref p] ∧ ((SqL K H p ys ∧ ∀ l, H l = none → Q (.ref l) (upd H l (.tup ys))) ∨ (SqT K H p ys ∧ Q (.ref p) H))) fTupleH := by
  intro Y H σ env x d F Q R c f k
  match d, c, f with
  | .lst l, c, f =>
    obtain ⟨p, us, e, h, r, hl⟩ := c.lst
    subst e
    exact ⟨p, us, rfl, .inl ⟨.of h, fun q n => fin_hup R k r hl f n⟩⟩
end AL
/-! AL23: sorted of data. -/
namespace AL
section
open PySem PySem.Calls PyProof.Rows PySem.W
variable {prog : Program} {w : World} {A : Around} {E : Value → Shared → Prop} {s : Shared}
/-- the list that a gathering makes -/
def gath (h : Heap) (vs : List Value) : Heap :=
  (h.push (seqObj "list" #[] 0)).update h.objs.size (Obj.mapSeq (· ++ vs.toArray))
/-- the items of a tuple, gathered -/
theorem coll_tup {t : Addr} {vs : List Value} {Q : List Value → Shared → Prop} (ht : s.heap.IsTuple t vs.toArray) (hsz : vs.length ≤ sizeLine)
    (h : Q vs { s with heap := gath s.heap vs }) :
    wpAny (model prog w) A (collect (.ref t)) Q E s := by
  obtain ⟨o, ho, hc, n, hd⟩ := id ht
  have own0 : (s.heap.push (seqObj "list" #[] 0)).get? s.heap.objs.size = some (seqObj "list" #[] 0) := Heap.get?_push_size _ rfl
  unfold collect
  refine wpAny_bind (wpAny_runValue
    (codeAny_builtin entry_proto_collect' ?_))
  show wpAny _ _ (do
    again (.builtin "list.__iadd__" ⟨[← newList [], .ref t], []⟩)) _ _ s
  refine wpAny_bind (wpAny_newList
    (wpAny_pure ⟨Code.quiet_builtin _ (by decide +kernel), codeAny_builtin entry_list_iadd' ?_⟩))
  show wpAny _ _ (Builtin.List.listExtendWith (.ref s.heap.objs.size) (.ref t) (.ref s.heap.objs.size)) _ _
    { s with heap := s.heap.push (seqObj "list" #[] 0) }
  unfold Builtin.List.listExtendWith
  have ho2 := Heap.get?_push_of_some (seqObj "list" #[] 0) ho
  refine wpAny_bind (wpAny_typeOf (T := "tuple") ⟨o, ho2, hc⟩ ?_)
  have eT : (Value.type "tuple" == Value.type "tuple") = true := by rfl
  rw [if_pos (by
    rw [eT]
    simp)]
  refine wpAny_bind (listItems_at ho2 hd ?_)
  refine wpAny_bind (listItems_at (xs := #[]) (n := 0)
    own0 rfl ?_)
  rw [if_neg (by
    simp)]
  refine wpAny_bind (listUpdate_at (xs := #[]) (n := 0)
    own0 rfl ?_ (Nat.zero_le _) (by
      show (#[] ++ vs.toArray).size ≤ sizeLine + 1
      rw [Array.size_append, List.size_toArray]
      show 0 + vs.length ≤ _
      omega))
  refine wpAny_pure ?_
  show wpAny (model prog w) A (do
    let ob ← load s.heap.objs.size
    match ob.data with
    | .seq xs _ => pure xs.toList
    | _ => unsupported "internal:collect") Q E
      { s with heap := gath s.heap vs }
  refine wpAny_bind (wpAny_load
    (get?_update_seq own0 _) ?_)
  show wpAny _ _ (pure
    ((#[] : Array Value) ++ vs.toArray).toList) Q E _
  have e : ((#[] : Array Value) ++ vs.toArray).toList = vs := by
    simp
  rw [e]
  exact wpAny_pure h
/-- sorted of a tuple, by what its own list.sort does -/
theorem sortT_by {t : Addr} {vs : List Value} {Q : Value → Shared → Prop} (ht : s.heap.IsTuple t vs.toArray) (hL : vs.length ≤ sizeLine)
    (body : ∀ E' : Value → Shared → Prop, wpAny (model prog w) A.in1.in1
      (Builtin.«list.sort» ⟨[.ref (s.heap.objs.size + 1)], []⟩)
      (fun f s' => f = .done (.ret .none) ∧ Q (.ref (s.heap.objs.size + 1)) s') E' { s with heap := copyHeap s.heap vs }) :
    wpAny (model prog w) A
      (call (.builtin "sorted") [.ref t] []) Q E s := by
  refine call_function_entry_kw kind_sorted plain_sorted
    entry_sorted (args_sorted1 _) ?_
  unfold Builtin.«sorted»
  refine wpAny_bind (m := checkCount "sorted" 1 1 _)
    (wpAny_pure ?_)
  refine wpAny_bind (coll_tup ht hL ?_)
  refine wpAny_bind (wpAny_newList ?_
    hL)
  have hsz : (gath s.heap vs).objs.size = s.heap.objs.size + 1 := by
    unfold gath
    rw [Heap.size_update]
    exact size_push' _ _
  show wpAny _ _ _ _ _
    { s with heap := copyHeap s.heap vs }
  rw [hsz]
  refine wpAny_bind (wpAny_holding (wpAny_call_entry_kw slot_list_sort
    ⟨_, copyHeap_at s.heap vs, rfl⟩ entry_list_sort ?body (args_list_sort _)))
  case body =>
    refine wpAny_mono (body _) (fun f s' hf => ?_)
      fun _ _ e => e
    obtain ⟨rfl, hq⟩ := hf
    exact ⟨_, rfl, wpAny_pure
      ⟨_, rfl, hq⟩⟩
end
open PySem L2
/-- sorted(xs), xs a list or a tuple of data that can be compared place by place -/
def rSortD (K : Fg) : List V → Hp → VK → Prop := fun vs H Q => ∃ (a : Addr) (ps : List (V × D)), vs = [V.ref a] ∧ (SqL K H a (ps.map (·.1)) ∨ SqT K H a (ps.map (·.1))) ∧ (∀ p ∈ ps, Dp K H p.1 p.2.pd) ∧ PySem.W.AllAlike (ps.map fun p => p.2.pd) ∧ PySem.W.Sortable (ps.map fun p => p.2.pd) ∧
  (∀ p ∈ ps, p.2.pd.depth ≤ 60) ∧ ∀ q, H q = none → Q (.ref q) (upd H q (.lst ((ps.mergeSort (PySem.W.dataLe false fun p => p.2.pd)).map (·.1))))
theorem each_zip {α β γ : Type} {R : α → γ → Prop} {f : β → α} : ∀ {bs : List β} {vs : List γ}, Paired R (bs.map f) vs → PySem.W.EachIs (fun v b => R (f b) v) vs bs
  | [], _, .nil => .nil
  | b :: bs, _, .cons h t => .cons h (each_zip t)
theorem zip_each {α β γ : Type} {R : α → γ → Prop} {f : β → α} : ∀ {bs : List β} {vs : List γ}, PySem.W.EachIs (fun v b => R (f b) v) vs bs → Paired R (bs.map f) vs
  | _, _, .nil => .nil
  | _, _, .cons h t => .cons h (zip_each t)
theorem each_and {α β : Type} {R S : α → β → Prop} : ∀ {vs : List α} {bs : List β}, PySem.W.EachIs R vs bs → (∀ b ∈ bs, ∀ v, R v b → S v b) → PySem.W.EachIs S vs bs
  | _, _, .nil, _ => .nil
  | _, _, .cons h t, k => .cons (k _ List.mem_cons_self _ h) (each_and t fun b hb => k b (List.mem_cons_of_mem _ hb))
theorem cr_sortD {X : Cx} (hu : X.A.units + 65 < cLine) : CallR X (.builtin "sorted") (rSortD X.K) := by
  intro pins s σ H vs us Q I r h
  obtain ⟨a, ps, rfl, hs, hd, hal, hk, hdep, q⟩ := h
  have fin : ∀ (its : List Value), Vals (ps.map (·.1)) its → its.length ≤ sizeLine → ∀ out : List Value, out.length = ps.length → PySem.W.EachIs (fun v p => RelV p.1 v) out (ps.mergeSort (PySem.W.dataLe false fun p => p.2.pd)) →
      EP X pins σ Q (.ref (s.heap.objs.size + 1)) { s with heap := PyProof.Rows.sortedAll s.heap its (List.toArray out) } := fun its rv hz out hl e => by
    obtain ⟨ep, he⟩ := PyProof.Rows.sortedAll_at s.heap its out.toArray
    have hlen : ((ps.mergeSort (PySem.W.dataLe false fun p => p.2.pd)).map (·.1)).length ≤ sizeLine := by
      rw [List.length_map, List.length_mergeSort]
      have := rv.length
      rw [List.length_map] at this
      omega
    exact ⟨.ref _, upd H (s.heap.objs.size + 1) (.lst ((ps.mergeSort (PySem.W.dataLe false fun p => p.2.pd)).map (·.1))), I.laid (t' := s.toks) (fun _ _ => PyProof.Rows.sortedAll_old) (Nat.le_succ _) ⟨hlen, out, ep, zip_each e, he⟩, rfl, q _ (I.hok.fresh (Nat.le_succ _))⟩
  have er : ∀ its : List Value, Vals (ps.map (·.1)) its → PySem.W.EachIs (fun v p => RelV p.1 v) its ps ∧ PySem.W.EachIs (fun v p => ∃ as, Reads s.heap v p.2.pd as) its ps := fun its rv => by
    have e := each_zip (f := fun p : V × D => p.1) rv
    exact ⟨e, each_and e fun p hp v rel => Dp.reads I _ _ _ (hd p hp) rel⟩
  have dep : ∀ p ∈ ps, X.A.units + 2 + p.2.pd.depth < cLine := fun p hp => by have := hdep p hp; omega
  rcases hs with hs | hs
  · obtain ⟨its, rv, hl, hz⟩ := I.list hs
    rw [Vals.ref1 r]
    obtain ⟨e1, e2⟩ := er its rv
    have hz2 : its.length ≤ sizeLine := by rw [← rv.length]; exact hz
    exact PySem.W.sorted_data (bs := ps) hl.isList e1 e2 hal hk (by rw [List.length_map] at hz; exact hz) dep fun out h1 h2 => fin its rv hz2 out h1 h2
  · obtain ⟨its, rv, hl, hz⟩ := I.tuple hs
    rw [Vals.ref1 r]
    obtain ⟨e1, e2⟩ := er its rv
    have hz2 : its.length ≤ sizeLine := by rw [← rv.length]; exact hz
    have hzp : ps.length ≤ sizeLine := by rw [List.length_map] at hz; exact hz
    have er' : PySem.W.EachIs (fun v p => ∃ as, Reads (PySem.W.sortingHeap (PySem.W.copyHeap s.heap its) (s.heap.objs.size + 1) its) v (p.2.pd) as) its ps :=
      e2.mono fun _ _ ⟨as, r⟩ => ⟨as, PyProof.Rows.Reads.keeps (fun _ _ => PySem.W.sorting_copy_old) r⟩
    refine sortT_by (show s.heap.IsTuple a its.toArray from hl) hz2 fun E' => ?_
    refine PySem.W.list_sort_vals (s := { s with heap := PySem.W.copyHeap s.heap its }) (PySem.W.copyHeap_at s.heap its)
      (PySem.W.SortsAt.data (s := { s with heap := PySem.W.sortingHeap (PySem.W.copyHeap s.heap its) (s.heap.objs.size + 1) its }) (PySem.W.each_map (R := fun v d => ∃ as, Reads (PySem.W.sortingHeap (PySem.W.copyHeap s.heap its) (s.heap.objs.size + 1) its) v d as) (fun p : V × D => p.2.pd) er') hal hk (PySem.W.bound_map dep)) hz2 ⟨rfl, ?_⟩
    exact fin its rv hz2 _ (by rw [PySem.W.sortVals_length false rfl]; exact e1.length) (PySem.W.sortVals_data false e1 er' hal)
/-- the sorted list, by data -/
def sortD (l : List D) : List D := l.mergeSort (PySem.W.dataLe false D.pd)
structure SortOk (l : List D) : Prop where
  al : PySem.W.AllAlike (l.map D.pd)
  so : PySem.W.Sortable (l.map D.pd)
  sh : ∀ d ∈ l, d.sh ∧ d.pd.depth ≤ 60
def fSortD : Op1 := fun d F => match d with
  | .lst l => SortOk l ∧ F (.new (.lst (sortD l)))
  | .tup l => SortOk l ∧ F (.new (.lst (sortD l)))
  | _ => False
theorem zip_fst {α β : Type} : ∀ {as : List α} {bs : List β}, as.length = bs.length → (as.zip bs).map (·.1) = as ∧ (as.zip bs).map (·.2) = bs
  | [], [], _ => ⟨rfl, rfl⟩
  | a :: as, b :: bs, h => by
    obtain ⟨h1, h2⟩ := zip_fst (as := as) (bs := bs) (by simpa using h)
    exact ⟨by rw [List.zip_cons_cons, List.map_cons, h1], by rw [List.zip_cons_cons, List.map_cons, h2]⟩
theorem RDs.zipAll {K : Fg} {H : Hp} {P : Ad} : ∀ {us : List V} {ds : List D}, RDs K H P us ds → ∀ p ∈ us.zip ds, RD K H P p.1 p.2
  | _, _, .nil, p, h => by cases h
  | _, _, .cons r t, p, h => by
    rw [List.zip_cons_cons] at h
    rcases List.mem_cons.mp h with e | h
    · rw [e]; exact r
    · exact RDs.zipAll t p h
theorem RDs.ofPairs {K : Fg} {H : Hp} {P : Ad} : ∀ {ps : List (V × D)}, (∀ p ∈ ps, RD K H P p.1 p.2) → RDs K H P (ps.map (·.1)) (ps.map (·.2))
  | [], _ => .nil
  | p :: ps, h => .cons (h p List.mem_cons_self) (RDs.ofPairs fun q hq => h q (List.mem_cons_of_mem _ hq))
theorem rs_sortD (K : Fg) : Rd1S K (rSortD K) fSortD := by
  intro Y H σ env x d F Q R c f k
  have go : ∀ (a : Addr) (us : List V) (l : List D), RDs K H (Pw Y σ env) us l → (SqL K H a us ∨ SqT K H a us) → l.length ≤ sizeLine → SortOk l → F (.new (.lst (sortD l))) → rSortD K [V.ref a] H Q := fun a us l r hs hl ok f => by
    have el := r.length
    obtain ⟨z1, z2⟩ := zip_fst el
    have pz := r.zipAll
    have ez : (us.zip l).map (fun p => p.2.pd) = l.map D.pd := by
      rw [← z2, List.map_map]
      rw [z2]
      rfl
    have inl : ∀ p ∈ us.zip l, p.2 ∈ l := fun p hp => (List.of_mem_zip hp).2
    have es : ((us.zip l).mergeSort (PySem.W.dataLe false fun p => p.2.pd)).map (·.2) = sortD l := by
      unfold sortD
      have := PySem.W.sort_maps (fun p : V × D => p.2) (r := PySem.W.dataLe false fun p : V × D => p.2.pd) (s := PySem.W.dataLe false D.pd) (l := us.zip l) fun _ _ _ _ => rfl
      rw [this, z2]
    refine ⟨a, us.zip l, rfl, by rw [z1]; exact hs, fun p hp => RC.dp (.inl (pz p hp)) (ok.sh _ (inl p hp)).1, by rw [ez]; exact ok.al, by rw [ez]; exact ok.so, fun p hp => (ok.sh _ (inl p hp)).2, fun q n => ?_⟩
    have r2 : RDs K H (Pw Y σ env) (((us.zip l).mergeSort (PySem.W.dataLe false fun p => p.2.pd)).map (·.1)) (sortD l) := by
      rw [← es]
      exact RDs.ofPairs fun p hp => pz p (List.mem_mergeSort.mp hp)
    refine fin_lst R k r2 ?_ f n
    unfold sortD
    rw [List.length_mergeSort]
    omega
  match d, c, f with
  | .lst l, c, f =>
    obtain ⟨p, us, e, h, r, hl⟩ := c.lst
    subst e
    exact go p us l r (.inl (.of h)) hl f.1 f.2
  | .tup l, c, f =>
    obtain ⟨p, us, e, h, r, rd, hl⟩ := c.tup
    subst e
    exact go p us l r (.inr h) hl f.1 f.2
end AL
namespace AL
open PySem L2
/-! AL24: a loop over a list that stays owned; reverse, pop; isinstance of an own class; sorted of ints, downwards. -/
section
variable {K : Fg} {σ : L2.St} {Y : Ad} {env : AEnv} {H : Hp}
/-- an owned slot is hidden -/
theorem own_hide {i : Nat} {l : D} {p : Addr} (R : Rep K Y H σ env) (h : env[i]? = some (.own l)) (hp : σ[i]? = some (some (.ref p))) (a : Addr) : Own σ (env.set i .un) a ↔ Own σ env a ∧ a ≠ p := by
  have hi : i < env.length := (List.getElem?_eq_some_iff.mp h).1
  constructor
  · rintro ⟨j, d, e, w⟩
    by_cases z : i = j
    · subst z
      rw [List.getElem?_set_self hi] at e; cases e
    · rw [List.getElem?_set_ne z] at e
      exact ⟨⟨j, d, e, w⟩, fun q => by subst q; exact z (R.inj i j l d a h e hp w)⟩
  · rintro ⟨⟨j, d, e, w⟩, n⟩
    have z : ¬ i = j := fun z => by
      subst z
      rw [hp] at w; cases w
      exact n rfl
    exact ⟨j, d, by rw [List.getElem?_set_ne z]; exact e, w⟩
theorem Rep.hide {i : Nat} {l : List D} {p : Addr} (R : Rep K Y H σ env) (h : env[i]? = some (.own (.lst l))) (hp : σ[i]? = some (some (.ref p))) :
    Rep K (fun a => Y a ∨ a = p) H σ (env.set i .un) ∧ ∀ a, Pw (fun a => Y a ∨ a = p) σ (env.set i .un) a ↔ Pw Y σ env a := by
  have hi : i < env.length := (List.getElem?_eq_some_iff.mp h).1
  have oh := own_hide R h hp
  have pw : ∀ a, Pw (fun a => Y a ∨ a = p) σ (env.set i .un) a ↔ Pw Y σ env a := fun a => by
    constructor
    · rintro ((z | z) | z)
      · exact .inl z
      · subst z; exact .inr ⟨i, _, h, hp⟩
      · exact .inr ((oh a).mp z).1
    · rintro (z | z)
      · exact .inl (.inl z)
      · by_cases e : a = p
        · exact .inl (.inr e)
        · exact .inr ((oh a).mpr ⟨z, e⟩)
  obtain ⟨q, hq, np, ro⟩ := R.own i _ h
  rw [hp] at hq; cases hq
  have back : ∀ (j : Nat) (e : AV), (env.set i .un)[j]? = some e → e ≠ .un → env[j]? = some e ∧ i ≠ j := fun j e q n => by
    by_cases z : i = j
    · subst z
      rw [List.getElem?_set_self hi] at q; cases q
      exact absurd rfl n
    · rw [List.getElem?_set_ne z] at q
      exact ⟨q, z⟩
  refine ⟨⟨by rw [List.length_set]; exact R.len, fun j e q => ?_, fun j e q => ?_, fun a z => ?_, fun j k e f a q1 q2 w1 w2 => R.inj j k e f a (back j _ q1 (fun z => by cases z)).1 (back k _ q2 (fun z => by cases z)).1 w1 w2⟩, pw⟩
  · obtain ⟨v, w, r⟩ := R.dat j e (back j _ q (fun z => by cases z)).1
    exact ⟨v, w, r.less fun a z => (pw a).mp z⟩
  · obtain ⟨q1, z⟩ := back j _ q (fun z => by cases z)
    obtain ⟨p', w, n, r⟩ := R.own j e q1
    refine ⟨p', w, fun y => ?_, r.less fun a z => (pw a).mp z⟩
    rcases y with y | y
    · exact n y
    · subst y
      exact z (R.inj i j _ e p' h q1 hp w)
  · rcases z with z | z
    · exact R.yim a z
    · subst z; exact ro.some
/-- and shown again -/
theorem Rep.unhide {σ' : L2.St} {H' : Hp} {env' : AEnv} {Y' Y2 : Ad} {i : Nat} {l : List D} {us : List V} {p : Addr} (R : Rep K Y' H' σ' env') (yy : ∀ a, Y' a ↔ Y2 a ∨ a = p) (np : ¬ Y2 p) (h : env'[i]? = some .un) (hp : σ'[i]? = some (some (.ref p))) (hu : H' p = some (.lst us)) (r : RDs K H' (Pw Y' σ' env') us l) (hl : us.length ≤ sizeLine) :
    Rep K Y2 H' σ' (env'.set i (.own (.lst l))) ∧ (∀ a, Pw Y2 σ' (env'.set i (.own (.lst l))) a ↔ Pw Y' σ' env' a) ∧ ∀ a, Own σ' (env'.set i (.own (.lst l))) a → Own σ' env' a ∨ a = p := by
  have hi : i < env'.length := (List.getElem?_eq_some_iff.mp h).1
  have back : ∀ (j : Nat) (e : AV), (env'.set i (.own (.lst l)))[j]? = some e → (i = j ∧ e = .own (.lst l)) ∨ (env'[j]? = some e ∧ i ≠ j) := fun j e q => by
    by_cases z : i = j
    · subst z
      rw [List.getElem?_set_self hi] at q; cases q
      exact .inl ⟨rfl, rfl⟩
    · rw [List.getElem?_set_ne z] at q
      exact .inr ⟨q, z⟩
  have ow : ∀ a, Own σ' (env'.set i (.own (.lst l))) a → Own σ' env' a ∨ a = p := fun a ⟨j, d, q, w⟩ => by
    rcases back j _ q with ⟨z, _⟩ | ⟨q, _⟩
    · subst z
      rw [hp] at w; cases w
      exact .inr rfl
    · exact .inl ⟨j, d, q, w⟩
  have pw : ∀ a, Pw Y2 σ' (env'.set i (.own (.lst l))) a ↔ Pw Y' σ' env' a := fun a => by
    constructor
    · rintro (z | z)
      · exact .inl ((yy a).mpr (.inl z))
      · rcases ow a z with z | z
        · exact .inr z
        · exact .inl ((yy a).mpr (.inr z))
    · rintro (z | ⟨j, d, q, w⟩)
      · rcases (yy a).mp z with z | z
        · exact .inl z
        · subst z
          exact .inr ⟨i, _, List.getElem?_set_self hi, hp⟩
      · have z : i ≠ j := fun z => by
          subst z
          rw [h] at q; cases q
        exact .inr ⟨j, d, by rw [List.getElem?_set_ne z]; exact q, w⟩
  have notp : ∀ (j : Nat) (d : D), env'[j]? = some (.own d) → σ'[j]? ≠ some (some (.ref p)) := fun j d q w => by
    obtain ⟨p', w', n, _⟩ := R.own j d q
    rw [w] at w'; cases w'
    exact n ((yy p).mpr (.inr rfl))
  refine ⟨⟨by rw [List.length_set]; exact R.len, fun j e q => ?_, fun j e q => ?_, fun a z => R.yim a ((yy a).mpr (.inl z)), fun j k e f a q1 q2 w1 w2 => ?_⟩, pw, ow⟩
  · rcases back j _ q with ⟨_, z⟩ | ⟨q, _⟩
    · cases z
    · obtain ⟨v, w, r⟩ := R.dat j e q
      exact ⟨v, w, r.less fun a z => (pw a).mp z⟩
  · rcases back j _ q with ⟨z, e1⟩ | ⟨q, _⟩
    · subst z
      cases e1
      exact ⟨p, hp, np, us, hu, r.less fun a z => (pw a).mp z, hl⟩
    · obtain ⟨p', w, n, r⟩ := R.own j e q
      exact ⟨p', w, fun z => n ((yy p').mpr (.inl z)), r.less fun a z => (pw a).mp z⟩
  · rcases back j _ q1 with ⟨z, _⟩ | ⟨q1, _⟩
    · rcases back k _ q2 with ⟨z2, _⟩ | ⟨q2, _⟩
      · exact z.symm.trans z2
      · subst z
        rw [hp] at w1; cases w1
        exact absurd w2 (notp k f q2)
    · rcases back k _ q2 with ⟨z2, _⟩ | ⟨q2, _⟩
      · subst z2
        rw [hp] at w2; cases w2
        exact absurd w1 (notp j e q1)
      · exact R.inj j k e f a q1 q2 w1 w2
end
/-- the ends of a body in which slot i is hidden -/
def hidA (i : Nat) (l : List D) (A : AEnds) : AEnds where
  nx := fun env => A.nx (env.set i (.own (.lst l)))
  rt := fun r env => r ≠ .at i ∧ A.rt r (env.set i (.own (.lst l)))
  bk := fun env => A.bk (env.set i (.own (.lst l)))
  ct := fun env => A.ct (env.set i (.own (.lst l)))
/-- for t in x, x an owned list that the body does not speak of -/
def aForO (i : Nat) (g : AG') (b : AS') : AS' := fun A env => match env[i]? with
  | some (.own (.lst l)) => l.length ≤ sizeLine → forL g b (hidA i l A) l (env.set i .un)
  | _ => False
theorem as_forO {X : Cx} {B : Nat → Bool} {tg : Expr} {x : Str} {body : List Stmt} {g : AG'} {b : AS'} {pos p2 : Pos} (i : Nat) (hp : PassesOwn (model X.prog X.w) X.A X.env X.xe) (hc : X.calm = true) (hg : AG X (fun j => B j || j == i) tg g) (hb : ASs X (fun j => B j || j == i) body b)
    (hN : X.N[i]? = some x := by rfl) (hv : Vis X.env.scope x := by first | exact Or.inl rfl | exact Or.inr (Or.inl rfl) | exact Or.inr (Or.inr rfl)) (hd : (x == ("__debug__" : Str)) = false := by decide) (hcd : (x == ("__classdict__" : Str)) = false := by decide)
    (hs : ∀ z, foldedSetIterable (.Name x p2) X.env z = pure z := by intro _; rfl) : AS X B (.For tg (.Name x p2) body [] pos) (aForO i g b) := by
  obtain ⟨tg', pG, sG⟩ := hg
  obtain ⟨tb, pB, sB⟩ := hb
  refine ⟨_, ps_for hp hc (pi_list (pe_var hN hv hd hcd)) pG pB hs, fun Y H0 σ0 env0 D A rep0 q k => ?_⟩
  unfold aForO at q
  match w0 : env0[i]?, q with
  | some (.own (.lst l)), q =>
    obtain ⟨p, hp0, np, us, hu, rus, hl⟩ := rep0.own i _ w0
    obtain ⟨rep1, pw1⟩ := rep0.hide w0 hp0
    have q1 := q (by rw [← rus.length]; exact hl)
    have rus1 : RDs X.K H0 (Pw (fun a => Y a ∨ a = p) σ0 (env0.set i .un)) us l := rus.less fun a z => (pw1 a).mp z
    have hi : i < env0.length := (List.getElem?_eq_some_iff.mp w0).1
    have oh := own_hide rep0 w0 hp0
    -- behind: the slot as it was
    have shw : ∀ {H' : Hp} {σ' : L2.St} {env' : AEnv} {Y' Y2 : Ad}, Rep X.K Y' H' σ' env' → AdvS (fun j => B j || j == i) σ0 (fun a => Y a ∨ a = p) (env0.set i .un) H0 Y' σ' env' H' → (∀ a, Y' a ↔ Y2 a ∨ a = p) → ¬ Y2 p → (∀ a, Y a → Y2 a) → (∀ a, Y2 a → Y a ∨ H0 a = none ∨ Own σ0 env0 a) →
        Rep X.K Y2 H' σ' (env'.set i (.own (.lst l))) ∧ AdvS B σ0 Y env0 H0 Y2 σ' (env'.set i (.own (.lst l))) H' ∧ (∀ a, Pw Y2 σ' (env'.set i (.own (.lst l))) a ↔ Pw Y' σ' env' a) ∧ env'[i]? = some .un := fun {H' σ' env' Y' Y2} r a yy n2 yu yn => by
      have st : σ'[i]? = some (some (.ref p)) := (a.st i (by simp)).trans hp0
      have un : env'[i]? = some .un := by
        have s := a.pr i (by simp)
        rw [List.getElem?_set_self hi] at s
        match w : env'[i]?, s with
        | some .un, _ => rfl
      have hu' : H' p = some (.lst us) := (a.ky p (.inr rfl)).trans hu
      obtain ⟨r2, pw2, ow2⟩ := r.unhide yy n2 un st hu' (a.rds rep1 rus1) hl
      refine ⟨r2, ⟨fun c o h n => a.keep c o h fun z => n ((oh c).mp z).1, fun c z => a.ky c (.inl z), yu, yn, fun c z => ?_, a.live, fun j bj => a.st j (by simp [bj]), fun j bj => ?_, a.len⟩, pw2, un⟩
      · rcases ow2 c z with z | z
        · exact (a.ow c z).imp (fun z => ((oh c).mp z).1) id
        · subst z; exact .inl ⟨i, _, w0, hp0⟩
      · by_cases e : i = j
        · subst e
          rw [List.getElem?_set_self (by rw [← r.len, a.len, rep0.len]; exact hi), w0]
          trivial
        · rw [List.getElem?_set_ne e]
          have s := a.pr j (by simp [bj])
          rwa [List.getElem?_set_ne e] at s
    have same : ∀ {H' : Hp} {σ' : L2.St} {env' : AEnv}, Rep X.K (fun a => Y a ∨ a = p) H' σ' env' → AdvS (fun j => B j || j == i) σ0 (fun a => Y a ∨ a = p) (env0.set i .un) H0 (fun a => Y a ∨ a = p) σ' env' H' → Rep X.K Y H' σ' (env'.set i (.own (.lst l))) ∧ AdvS B σ0 Y env0 H0 Y σ' (env'.set i (.own (.lst l))) H' := fun r a =>
      let z := shw r a (fun a => Iff.rfl) np (fun _ h => h) fun _ h => .inl h
      ⟨z.1, z.2.1⟩
    have kb : EOk X.K (fun j => B j || j == i) (fun a => Y a ∨ a = p) H0 σ0 (env0.set i .un) D (hidA i l A) := by
      refine ⟨fun H' σ' env' r a q => ?_, fun v H' σ' env' z Y' r a ok q => ?_, fun H' σ' env' r a q => ?_, fun H' σ' env' r a q => ?_⟩
      · obtain ⟨r2, a2⟩ := same r a
        exact k.nx H' σ' _ r2 a2 q
      · obtain ⟨ni, q⟩ := q
        match z, ok, ni, q with
        | .dat d, ok, _, q =>
          obtain ⟨ey, rd⟩ := ok
          subst ey
          obtain ⟨r2, a2, pw2, _⟩ := shw r a (fun a => Iff.rfl) np (fun _ h => h) fun _ h => .inl h
          exact k.rt v H' σ' _ (.dat d) Y r2 a2 ⟨rfl, rd.less fun a z => (pw2 a).mp z⟩ q
        | .new d, ok, _, q =>
          obtain ⟨p2, e, ey, n, ro⟩ := ok
          have yy : ∀ a, Y' a ↔ (Y a ∨ a = p2) ∨ a = p := fun a => by
            rw [ey]
            exact ⟨fun z => z.elim (fun z => z.elim (fun z => .inl (.inl z)) .inr) fun z => .inl (.inr z), fun z => z.elim (fun z => z.elim (fun z => .inl (.inl z)) .inr) fun z => .inl (.inr z)⟩
          have n2 : ¬ (Y p ∨ p = p2) := fun z => by
            rcases z with z | z
            · exact np z
            · subst z
              exact n (.inl (.inr rfl))
          obtain ⟨r2, a2, pw2, _⟩ := shw (Y2 := fun a => Y a ∨ a = p2) r a yy n2 (fun _ h => .inl h) fun b h => by
            rcases h with h | h
            · exact .inl h
            · subst h
              rcases a.yn b (by rw [ey]; exact .inr rfl) with z | z | z
              · exact absurd (.inl z) n
              · exact .inr (.inl z)
              · exact .inr (.inr ((oh b).mp z).1)
          refine k.rt v H' σ' _ (.new d) _ r2 a2 ⟨p2, e, rfl, fun z => n ?_, ro.less fun a z => (pw2 a).mp z⟩ q
          rcases z with z | ⟨j, d2, e2, w2⟩
          · exact .inl (.inl z)
          · have hl2 : i < env'.length := by rw [← r.len, a.len, rep0.len]; exact hi
            by_cases e3 : i = j
            · subst e3
              have st : σ'[i]? = some (some (.ref p)) := (a.st i (by simp)).trans hp0
              rw [st] at w2
              cases w2
              exact .inl (.inr rfl)
            · rw [List.getElem?_set_ne e3] at e2
              exact .inr ⟨j, d2, e2, w2⟩
        | .at j, ok, ni, q =>
          obtain ⟨e, h, d, w⟩ := ok
          obtain ⟨ey, w⟩ := (⟨e, w⟩ : _ ∧ _)
          subst ey
          obtain ⟨r2, a2, pw2, _⟩ := shw r a (fun a => Iff.rfl) np (fun _ h => h) fun _ h => .inl h
          have e3 : i ≠ j := fun z => ni (by rw [z])
          exact k.rt v H' σ' _ (.at j) Y r2 a2 ⟨rfl, h, d, by rw [List.getElem?_set_ne e3]; exact w⟩ q
      · obtain ⟨r2, a2⟩ := same r a
        exact k.bk H' σ' _ r2 a2 q
      · obtain ⟨r2, a2⟩ := same r a
        exact k.ct H' σ' _ r2 a2 q
    refine ⟨_, hp0, p, rfl, ⟨us, .of hu⟩, ?_⟩
    refine ⟨fun n m σ H => ∃ env, m = l.length - n ∧ n ≤ l.length ∧ Rep X.K (fun a => Y a ∨ a = p) H σ env ∧ AdvS (fun j => B j || j == i) σ0 (fun a => Y a ∨ a = p) (env0.set i .un) H0 (fun a => Y a ∨ a = p) σ env H ∧ forL g b (hidA i l A) (l.drop n) env, ⟨_, env0.set i .un, rfl, Nat.zero_le _, rep1, AdvS.refl, q1⟩, ?_⟩
    rintro n m σ H ⟨env, rfl, hn, rep, adv, q⟩
    have hpl : H p = some (.lst us) := (adv.ky p (.inr rfl)).trans hu
    have rl := adv.rds rep1 rus1
    by_cases hlt : n < l.length
    · obtain ⟨v, hv, rv⟩ := rl.get (List.getElem?_eq_getElem hlt)
      refine .inr ⟨⟨us, v, .of hpl, hv⟩, fun σ' H' => ∃ env', Rep X.K (fun a => Y a ∨ a = p) H' σ' env' ∧ AdvS (fun j => B j || j == i) σ0 (fun a => Y a ∨ a = p) (env0.set i .un) H0 (fun a => Y a ∨ a = p) σ' env' H' ∧ forL g b (hidA i l A) (l.drop (n + 1)) env', fun σ' H' ⟨env', r', a', q'⟩ => ⟨_, by omega, env', rfl, hlt, r', a', q'⟩, fun y H3 z => ?_⟩
      obtain ⟨e3, fx⟩ := z
      subst e3
      have := fx us (.of hpl)
      rw [hv] at this
      cases this
      rw [List.drop_eq_getElem_cons hlt] at q
      refine sG _ H3 σ env _ l[n] _ _ rep rv q fun H4 σ4 env4 rep4 g4 q4 => ?_
      have adv4 := adv.trans rep1 g4
      refine sB _ H4 σ4 env4 _ _ rep4 q4 ⟨fun H5 σ5 env5 r5 a5 q5 => ⟨env5, r5, adv4.trans rep1 a5, q5⟩, fun v H5 σ5 env5 r Y5 r5 a5 ok5 q5 => kb.rt v H5 σ5 env5 r Y5 r5 (adv4.trans rep1 a5) ok5 q5,
        fun H5 σ5 env5 r5 a5 q5 => kb.nx H5 σ5 env5 r5 (adv4.trans rep1 a5) q5, fun H5 σ5 env5 r5 a5 q5 => ⟨env5, r5, adv4.trans rep1 a5, q5⟩⟩
    · have e : n = l.length := by omega
      subst e
      rw [List.drop_length] at q
      exact .inl ⟨⟨us, .of hpl, by rw [rus.length]; exact Nat.le_refl _⟩, kb.nx H σ env rep adv q⟩
end AL
namespace AL
open PySem L2
/-! AL25: reverse, pop; isinstance of an own class; sorted of ints, downwards. -/
theorem RDs.reverse {K : Fg} {H : Hp} {P : Ad} {us : List V} {ds : List D} (r : RDs K H P us ds) : RDs K H P us.reverse ds.reverse := by
  induction us generalizing ds with
  | nil => cases r; exact .nil
  | cons u us ih =>
    cases r with
    | cons r t =>
      rw [List.reverse_cons, List.reverse_cons]
      exact (ih t).append (.cons r .nil)
def aMut0 (i : Nat) (f : List D → (List D → D → Prop) → Prop) : AE' := fun env R => match env[i]? with
  | some (.own (.lst l)) => f l fun l' z => R (.dat z) (env.set i (.own (.lst l')))
  | _ => False
def fReverse (l : List D) (N : List D → D → Prop) : Prop := N l.reverse .non
def fPop (l : List D) (N : List D → D → Prop) : Prop := ∃ z, l[l.length - 1]? = some z ∧ N l.dropLast z
theorem RDs.dropLast {K : Fg} {H : Hp} {P : Ad} {us : List V} {ds : List D} (r : RDs K H P us ds) : RDs K H P us.dropLast ds.dropLast := by
  rw [List.dropLast_eq_take, List.dropLast_eq_take, r.length]
  exact r.take _
section
variable {X : Cx} {x : Str} {pos apos cpos : Pos}
theorem ae_reverse (i : Nat) (hN : X.N[i]? = some x := by rfl) (hv : Vis X.env.scope x := by first | exact Or.inl rfl | exact Or.inr (Or.inl rfl) | exact Or.inr (Or.inr rfl)) (hd : (x == ("__debug__" : Str)) = false := by decide) (hcd : (x == ("__classdict__" : Str)) = false := by decide)
    (hbase : attributeBase (.Name x pos) "reverse" X.env (eval (.Name x pos) X.env) = eval (.Name x pos) X.env := by rfl) (hline : (apos.endLine == cpos.line) = true := by rfl) :
    AE X (.Call (.Attribute (.Name x pos) "reverse" apos) [] [] cpos) (aMut0 i fReverse) := by
  refine ⟨_, pe_bm0 PySem.F.plainAttrs_list PySem.F.slot_list_reverse PySem.F.type_list_reverse mt_reverse (pe_var hN hv hd hcd) hbase hline, fun Y H σ env R Q rep q k => ?_⟩
  unfold aMut0 at q
  match w : env[i]?, q with
  | some (.own (.lst l)), q =>
    obtain ⟨p, hp, np, us, hu, r, hl⟩ := rep.own i _ w
    obtain ⟨a, b, c⟩ := mut_lst (us' := us.reverse) (l' := l.reverse) rep w hp r.reverse (by rw [List.length_reverse, ← r.length]; exact hl)
    exact ⟨.ref p, hp, .inl ⟨rfl, us, .of hu⟩, p, us, rfl, rfl, hu, k .non _ _ (.dat .non) Y a b ⟨rfl, .non⟩ q⟩
theorem ae_pop (i : Nat) (hN : X.N[i]? = some x := by rfl) (hv : Vis X.env.scope x := by first | exact Or.inl rfl | exact Or.inr (Or.inl rfl) | exact Or.inr (Or.inr rfl)) (hd : (x == ("__debug__" : Str)) = false := by decide) (hcd : (x == ("__classdict__" : Str)) = false := by decide)
    (hbase : attributeBase (.Name x pos) "pop" X.env (eval (.Name x pos) X.env) = eval (.Name x pos) X.env := by rfl) (hline : (apos.endLine == cpos.line) = true := by rfl) :
    AE X (.Call (.Attribute (.Name x pos) "pop" apos) [] [] cpos) (aMut0 i fPop) := by
  refine ⟨_, pe_bm0 PySem.F.plainAttrs_list PySem.F.slot_list_pop PySem.F.type_list_pop mt_pop (pe_var hN hv hd hcd) hbase hline, fun Y H σ env R Q rep q k => ?_⟩
  unfold aMut0 at q
  match w : env[i]?, q with
  | some (.own (.lst l)), q =>
    obtain ⟨z, hz, q⟩ := q
    obtain ⟨p, hp, np, us, hu, r, hl⟩ := rep.own i _ w
    obtain ⟨v, hv', rz⟩ := r.get hz
    obtain ⟨a, b, c⟩ := mut_lst (us' := us.dropLast) (l' := l.dropLast) rep w hp r.dropLast (by rw [List.length_dropLast, ← r.length]; omega)
    exact ⟨.ref p, hp, .inl ⟨rfl, us, .of hu⟩, p, us, v, rfl, rfl, hu, by rw [r.length]; exact hv', k v _ _ (.dat z) Y a b ⟨rfl, c rz⟩ q⟩
end
/-- isinstance(e, C) of an instance of C -/
def aIsC (C : Addr) (a : AE') : AE' := fun env R => a env fun r env1 => (∃ ns l, val env1 r = some (.obj C ns l)) ∧ R (.dat (.bl true)) env1
theorem ae_isC {X : Cx} {e : Expr} {a : AE'} {x : Str} {C : Addr} {p p2 pos : Pos} (c : C8.InsC X.K C) (ha : AE X e a) (hg : Gl X "isinstance") (hm : X.mg "isinstance" = none) (gC : Gl X x) (mC : X.mg x = some (.ref C)) (dC : (x == ("__debug__" : Str)) = false := by decide)
    (he : starEach [e, .Name x p2] X.env = (false, eval e X.env) :: starEach [.Name x p2] X.env := by rfl) (he2 : starEach [.Name x p2] X.env = (false, eval (.Name x p2) X.env) :: starEach [] X.env := by rfl) (hpl : (backTo pos (starEach [.Name x p2] X.env)).any (·.1) = false := by rfl) :
    AE X (.Call (.Name "isinstance" p) [e, .Name x p2] [] pos) (aIsC C a) := by
  obtain ⟨t, pe, s⟩ := ha
  refine ⟨_, pe_callB (C8.call_isC c) hg hm (by decide +kernel) (pa_cons pe (pa_cons (pe_glob (v := .ref C) gC mC rfl dC) pa_nil he2) he) (by decide) (by decide) he hpl, fun Y H σ env R Q rep q k => ?_⟩
  refine s Y H σ env _ _ rep q fun v H' env' z Y' rep' g ok q' => ?_
  obtain ⟨⟨ns, l, e1⟩, q'⟩ := q'
  obtain ⟨d, e2, cd⟩ := ok.rc rep'
  rw [e1] at e2
  cases e2
  obtain ⟨b, dx, fs, e3, hb, _, _⟩ := cd.obj
  subst e3
  exact ⟨b, dx, fs, rfl, hb, k (.bl true) H' env' (.dat (.bl true)) Y (rep'.less g.yu) g.drop ⟨rfl, .bl true⟩ q'⟩
/-- sorted(l, reverse=True), ints -/
def aSortedR (a : AE') : AE' := fun env R => a env fun r env1 => match val env1 r with
  | some (.lst l) => ∃ ns : List Int, l = ns.map D.int ∧ ∀ ns' : List Int, ns'.Perm ns → ns'.Pairwise (· ≥ ·) → R (.new (.lst (ns'.map D.int))) env1
  | _ => False
theorem ae_sortedR {X : Cx} {e : Expr} {a : AE'} {p pos kpos p2 : Pos} {j : Nat} (he : AE X e a) (hg : Gl X "sorted") (hm : X.mg "sorted" = none)
    (h1 : backTo pos (starEach [e] X.env) = (false, eval e X.env) :: backTo pos (starEach [] X.env) := by rfl) (hpl : (backTo pos (starEach [e] X.env)).any (·.1) = false := by rfl)
    (hall : (backToKw pos (keywordEach [⟨some "reverse", .Constant (.bool true) j p2, kpos⟩] X.env)).all (·.1.isSome) = true := by rfl) (hnone : (backToKw pos (keywordEach [⟨some "reverse", .Constant (.bool true) j p2, kpos⟩] X.env)).any (·.1.isNone) = false := by rfl)
    (hks : (backToKw pos (keywordEach [⟨some "reverse", .Constant (.bool true) j p2, kpos⟩] X.env)).filterMap (·.1) = [Str.ofString "reverse"] := by rfl) (hna : starEach [e] X.env = (false, eval e X.env) :: starEach [] X.env := by rfl) :
    AE X (.Call (.Name "sorted" p) [e] [⟨some "reverse", .Constant (.bool true) j p2, kpos⟩] pos) (aSortedR a) := by
  obtain ⟨t, pe, s⟩ := he
  refine ⟨_, pe_callBK (cr_sortedRev (b := true)) hg hm PyProof.Rows.boot_sorted (pa_cons pe pa_nil hna) (pk_cons pe_bl pk_nil) (by decide) (by decide) h1 hpl hall hnone hks, fun Y H σ env R Q rep q k => ?_⟩
  refine s Y H σ env _ _ rep q fun v H1 env1 r Y1 rep1 g1 ok1 q1 => ?_
  obtain ⟨d, e1, c⟩ := ok1.rc rep1
  simp only [e1] at q1
  match d, c, q1 with
  | .lst l, c, q1 =>
    obtain ⟨ns, rfl, q1⟩ := q1
    obtain ⟨p, us, e, hu, ru, hl⟩ := c.lst
    subst e
    have := ru.ofInts
    subst this
    refine ⟨p, ns, rfl, rfl, .of hu, fun ns' q pm od n => ?_⟩
    have repY := rep1.less g1.yu
    exact fin_lst (F := fun z => R z env1) repY (fun w H4 z Y4 rep4 g4 ok4 q4 => k w H4 env1 z Y4 rep4 (g1.drop.trans g4) ok4 q4) (RDs.ints ns') (by
      have := pm.length_eq
      rw [List.length_map] at hl ⊢
      omega) (q1 ns' pm od) n
/-- min, max of two ints -/
def fMin2 : OpN := fun ds F => match ds with
  | [.int i, .int j] => F (.dat (.int (if j < i then j else i)))
  | _ => False
def fMax2 : OpN := fun ds F => match ds with
  | [.int i, .int j] => F (.dat (.int (if j > i then j else i)))
  | _ => False
theorem cs_min2 (K : Fg) : CallS K (fun xs H Q => ∃ i j, xs = [V.int i, V.int j] ∧ Q (.int (if j < i then j else i)) H) fMin2 := by
  intro Y H σ env us ds F Q R r f k
  match ds, r, f with
  | [.int i, .int j], .cons r1 (.cons r2 .nil), f =>
    cases r1
    cases r2
    exact ⟨i, j, rfl, fin_dat R k (.int _) f⟩
theorem cs_max2 (K : Fg) : CallS K (fun xs H Q => ∃ i j, xs = [V.int i, V.int j] ∧ Q (.int (if j > i then j else i)) H) fMax2 := by
  intro Y H σ env us ds F Q R r f k
  match ds, r, f with
  | [.int i, .int j], .cons r1 (.cons r2 .nil), f =>
    cases r1
    cases r2
    exact ⟨i, j, rfl, fin_dat R k (.int _) f⟩
/-- a def that is never called -/
def SNever : ASp := fun _ _ => False
theorem fn_dead {P : Program} {w : World} {K : Fg} {mg : Str → Option Value} {base : Heap} {x qual : Str} {st : Stmt} {f : Addr} {fd : FuncData} {N ps : List Str} (F : Fun K x qual st f fd) (Sc : FnScope N ps (defScope st)) : FnOk P w K mg base CX0 1 f fd ps (toSp K SNever) :=
  F.ok Sc (fun vs H Q E h => (let ⟨_, _, _, _, z, _⟩ := h; z).elim) (fun cdv A outer s H vs Q E hr h => (let ⟨_, _, _, _, z, _⟩ := h; z).elim)
theorem cr_sortR {X : Cx} {k : Nat} (hr : Room k X.A) : CallR X (.builtin "sorted") (rSortD X.K) := cr_sortD (by have := hr.un; omega)
/-- list(d), d an owned dict -/
def aListOwn (a : AE') : AE' := fun env R => a env fun r env1 => match r with
  | .at i => match env1[i]? with
    | some (.own (.dic ks _)) => ks.length ≤ sizeLine ∧ R (.new (.lst ks)) env1
    | _ => False
  | _ => False
theorem ae_listOwn {X : Cx} {x : Str} {p pos : Pos} {e : Expr} {a : AE'} (hc : X.calm = true) (ha : AE X e a) (hg : Gl X x) (hm : X.mg x = none) (hv : bootBuiltins x = some (.type "list") := by decide +kernel) (hn : x ≠ "__name__" := by decide) (hdb : (x == ("__debug__" : Str)) = false := by decide)
    (he : starEach [e] X.env = (false, eval e X.env) :: starEach [] X.env := by rfl) : AE X (.Call (.Name x p) [e] [] pos) (aListOwn a) := by
  obtain ⟨u, pe, s⟩ := ha
  refine ⟨_, pe_callTy (call_list_dK hc) hg hm hv (pa_cons pe pa_nil he) hn hdb he rfl, fun Y H σ env R Q rep q k => ?_⟩
  refine s Y H σ env _ _ rep q fun v H1 env1 r Y1 rep1 g1 ok1 q1 => ?_
  match r, ok1, q1 with
  | .at i, ok1, q1 =>
    obtain ⟨ey, hi, _⟩ := ok1
    subst ey
    have q2 : (match env1[i]? with
      | some (.own (.dic ks _)) => ks.length ≤ sizeLine ∧ R (.new (.lst ks)) env1
      | _ => False) := q1
    match w : env1[i]?, q2 with
    | some (.own (.dic ks vs)), q2 =>
      obtain ⟨hz, q1⟩ := q2
      obtain ⟨b, hb, np, kvs, hr, e2, r⟩ := rep1.own i _ w
      rw [hi] at hb
      cases hb
      refine ⟨b, kvs, rfl, hr, fun q n => ?_⟩
      have rk : RDs X.K H1 (Pw Y1 σ env1) (kvs.map fun kv => kV kv.1) ks := by
        rw [e2]
        have := RDs.keysOf (K := X.K) (H := H1) (P := Pw Y1 σ env1) (kvs.map (·.1))
        rw [List.map_map, List.map_map] at this
        exact this
      exact fin_lst (F := fun z => R z env1) rep1 (fun w H4 z Y4 rep4 g4 ok4 q4 => k w H4 env1 z Y4 rep4 (g1.trans g4) ok4 q4) rk hz q1 n
end AL
namespace AL
open PySem L2 PyProof.Rows
/-! AL26: list(d.values()); len(set(t)) of a tuple of ints. -/
section
variable {X : Cx} {e : Expr} {td : TE} {p apos cpos pos : Pos}
def tListVals (td : TE) : TE := fun σ H Q => td σ H fun x H1 => ∃ d kvs, x = .ref d ∧ Rd H1 d (.dK kvs) ∧ ∀ q, H1 q = none → Q (.ref q) (upd H1 q (.lst (kvs.map (·.2))))
theorem pe_listVals (hc : X.calm = true) (hg : Gl X "list") (hm : X.mg "list" = none) (he : PE X e td) (hbase : attributeBase e "values" X.env (eval e X.env) = eval e X.env := by rfl) (hline : (apos.endLine == cpos.line) = true := by rfl)
    (na : starEach [.Call (.Attribute e "values" apos) [] [] cpos] X.env = (false, eval (.Call (.Attribute e "values" apos) [] [] cpos) X.env) :: starEach [] X.env := by rfl) :
    PE X (.Call (.Name "list" p) [.Call (.Attribute e "values" apos) [] [] cpos] [] pos) (tListVals td) := by
  refine ⟨fun pins s σ H Q I h => ?_⟩
  refine Call_ (ld_blt I hg hm PyProof.Rows.boot_list (PyProof.Rows.callWith_type1 (PyProof.Rows.args_cons (wpAny_Call_method (T := "dict") (id := "dict.values") hbase rfl hline F.plainAttrs_dict F.slot_dict_values F.type_dict_values (thn (he.run pins s σ H _ I h) fun u s1 ⟨x, H1, I1, rx, d, kvs, ex, hd, q⟩ => ?_)) na) na))
  subst ex
  obtain rfl : u = Value.ref d := rx
  obtain ⟨z, hs, vs, kv, hdo⟩ := dk_rd I1.hok hd
  obtain ⟨ep, hm2⟩ := hdo.dictAt
  have hl : kvs.length = vs.length := Paired.length kv
  refine ⟨hdo.typeIs, hdo.mapOf.noDict, ?_⟩
  have I2 : Inv X pins σ H1 { s1 with heap := s1.heap.push { cls := .type "dict_values", data := .fields #[.ref d] } } := I1.kept (t' := s1.toks) fun b ob q => Heap.get?_push_of_some _ q
  refine method_meetsIn F.slot_dict_values F.entry_dict_values rfl (PySem.evalArgs_none ⟨rfl, hdo.typeIs, F.args_dict_values_1 _, _, meets_dict_values (mixKind X.prog X.w) d hs, ⟨vs, hdo⟩, ?_⟩)
  refine PyProof.Rows.args_nil (?_ : wpAny (model X.prog X.w) X.A (call (.type "list") [.ref s1.heap.objs.size]) (EP X pins σ Q) X.xe { s1 with heap := s1.heap.push { cls := .type "dict_values", data := .fields #[.ref d] } })
  refine PySem.W.kdl_call (PySem.W.kdl_values (knd := mixKind X.prog X.w) (kvs := vs) (ep := ep) (r := s1.heap.objs.size) (d := d)) (I2.ok.hd hc) ⟨⟨_, Heap.get?_push_size _ rfl, rfl, rfl⟩, hm2.push _⟩ (by rw [← hl]; exact z) fun h' tk acc' c' hkeep hS hacc => ?_
  refine ⟨.ref (s1.heap.push { cls := .type "dict_values", data := .fields #[.ref d] }).objs.size, upd H1 _ (.lst (kvs.map (·.2))), I2.laid hkeep (Nat.le_refl _) (show ObjOk X.prog X.w _ _ _ (.lst (kvs.map (·.2))) from ⟨?_, acc'.toList, c', ?_, ?_⟩), rfl, q _ (I2.hok.fresh (Nat.le_refl _))⟩
  · rw [List.length_map]; exact z
  · have el : acc'.toList.length = acc'.size := by simp
    refine vals_of_at (by rw [List.length_map, el, hacc.1, hl]) fun j x w h1 h2 => ?_
    obtain ⟨k, hky⟩ := hacc.2 j w (by rw [← Array.getElem?_toList]; exact h2)
    rw [List.getElem?_map] at h1
    cases hk : kvs[j]? with
    | none => rw [hk] at h1; cases h1
    | some kv1 =>
      rw [hk] at h1
      cases h1
      obtain ⟨k1, v1⟩ := kv1
      obtain ⟨u, hu, ru⟩ := kv_get kv hk
      rw [hky] at hu
      cases hu
      exact ru
  · rw [Array.toArray_toList]; exact hS
/-- list(d.values()) -/
def aListVals (a : AE') : AE' := fun env R => a env fun r env1 => match val env1 r with
  | some (.dic _ vs) => vs.length ≤ sizeLine ∧ R (.new (.lst vs)) env1
  | _ => False
theorem ae_listVals {a : AE'} (hc : X.calm = true) (ha : AE X e a) (hg : Gl X "list") (hm : X.mg "list" = none) (hbase : attributeBase e "values" X.env (eval e X.env) = eval e X.env := by rfl) (hline : (apos.endLine == cpos.line) = true := by rfl)
    (na : starEach [.Call (.Attribute e "values" apos) [] [] cpos] X.env = (false, eval (.Call (.Attribute e "values" apos) [] [] cpos) X.env) :: starEach [] X.env := by rfl) :
    AE X (.Call (.Name "list" p) [.Call (.Attribute e "values" apos) [] [] cpos] [] pos) (aListVals a) := by
  obtain ⟨t, pe, s⟩ := ha
  refine ⟨_, pe_listVals hc hg hm pe hbase hline na, fun Y H σ env R Q rep q k => ?_⟩
  refine s Y H σ env _ _ rep q fun v H1 env1 r Y1 rep1 g1 ok1 q1 => ?_
  obtain ⟨d, e1, c⟩ := ok1.rc rep1
  simp only [e1] at q1
  match d, c, q1 with
  | .dic ks vs, c, q1 =>
    obtain ⟨hz, q1⟩ := q1
    have repY := rep1.less g1.yu
    obtain ⟨b, e, kvs, hr, e2, r⟩ := (c.less (pw_less g1.yu)).dic
    subst e
    refine ⟨b, kvs, rfl, hr, fun q n => ?_⟩
    exact fin_lst (F := fun z => R z env1) repY (fun w H4 z Y4 rep4 g4 ok4 q4 => k w H4 env1 z Y4 rep4 (g1.drop.trans g4) ok4 q4) r hz q1 n
/-! len(set(t)) -/
def tLenSetT (K : PySem.W.Frag) (ta : TE) : TE := fun σ H Q => ta σ H fun x H1 => ∃ (l : Addr) (ns : List Int), x = .ref l ∧ SqT K H1 l (ns.map V.int) ∧ ns.length ≤ 4000 ∧ ∀ ms : List Int, ms.Nodup → (∀ k, k ∈ ms ↔ k ∈ ns) → Q (.int (ms.length : Nat)) H1
theorem pe_lenSetT {a : Expr} {ta : TE} {p2 q : Pos} (hg : Gl X "len") (hm : X.mg "len" = none) (hg2 : Gl X "set") (hm2 : X.mg "set" = none) (ha : PE X a ta) (hc : X.calm = true := by rfl)
    (na : starEach [a] X.env = (false, eval a X.env) :: starEach [] X.env := by rfl) : PE X (.Call (.Name "len" p) [.Call (.Name "set" p2) [a] [] q] [] pos) (tLenSetT X.K ta) := by
  refine ⟨fun pins s σ H Q I h => ?_⟩
  refine Call_ (ld_blt I hg hm boot_len ?_)
  refine PyProof.Rows.callWith_builtin1 (PyProof.Rows.args_cons ?_ rfl) rfl rfl
  refine Call_ (ld_blt I hg2 hm2 boot_set ?_)
  refine PyProof.Rows.callWith_type1 (PyProof.Rows.args_cons (thn (ha.run pins s σ H _ I h) fun v s1 ⟨x, H1, I1, r1, q1⟩ => PyProof.Rows.args_nil ?_) na) na rfl
  obtain ⟨l, ns, rfl, hq, hl, q1⟩ := q1
  cases r1
  obtain ⟨its, r, pl, hz⟩ := I1.tuple hq
  refine call_set_tupI ns (I1.ok.hd hc) pl (by simpa using RZ.intsAre_vals r) (by unfold scanBound; omega) fun h' tk c hS _ hk => ?_
  refine PyProof.Rows.args_nil ?_
  obtain ⟨o, es, ep, t, ho, hex, hd, hg', hn, hmem, hb, hf, hsz, _⟩ := hS
  have I2 : Inv X pins σ H1 { s1 with heap := h', toks := tk } := I1.kept fun b o e => hk b o e
  have el : (es.toList.map keyOf).length = es.size := by rw [List.length_map, Array.length_toList]
  have q2 := q1 (es.toList.map keyOf) hn fun k => by rw [← hmem k]; simp
  rw [el] at q2
  have sb : es.size < 2 ^ 62 := Nat.lt_trans hb (by unfold scanBound; decide)
  exact call_len_set ho hex hd hf (by omega) ⟨.int es.size, H1, I2.tok _, ⟨_, rfl⟩, q2⟩
/-- len(set(t)), t a tuple of ints -/
def aLenSetT (a : AE') : AE' := fun env R => a env fun r env1 => match val env1 r with
  | some (.tup l) => ∃ ns : List Int, l = ns.map D.int ∧ ns.length ≤ 4000 ∧ ∀ ms : List Int, ms.Nodup → (∀ k, k ∈ ms ↔ k ∈ ns) → R (.dat (.int (ms.length : Nat))) env1
  | _ => False
theorem ae_lenSetT {a : Expr} {fa : AE'} {p2 q : Pos} (hc : X.calm = true) (ha : AE X a fa) (hg : Gl X "len") (hm : X.mg "len" = none) (hg2 : Gl X "set") (hm2 : X.mg "set" = none)
    (na : starEach [a] X.env = (false, eval a X.env) :: starEach [] X.env := by rfl) : AE X (.Call (.Name "len" p) [.Call (.Name "set" p2) [a] [] q] [] pos) (aLenSetT fa) := by
  obtain ⟨t, pe, s⟩ := ha
  refine ⟨_, pe_lenSetT hg hm hg2 hm2 pe hc na, fun Y H σ env R Q rep q k => ?_⟩
  refine s Y H σ env _ _ rep q fun v H1 env1 r Y1 rep1 g1 ok1 q1 => ?_
  obtain ⟨d, e1, c⟩ := ok1.rc rep1
  simp only [e1] at q1
  match d, c, q1 with
  | .tup l, c, q1 =>
    obtain ⟨ns, rfl, hl, q1⟩ := q1
    have repY := rep1.less g1.yu
    obtain ⟨b, us, e, hs, r, _⟩ := (c.less (pw_less g1.yu)).tup
    subst e
    have := r.ofInts
    subst this
    refine ⟨b, ns, rfl, hs, hl, fun ms nd hk => ?_⟩
    exact fin_dat (F := fun z => R z env1) repY (fun w H4 z Y4 rep4 g4 ok4 q4 => k w H4 env1 z Y4 rep4 (g1.drop.trans g4) ok4 q4) (.int _) (q1 ms nd hk)
end
/-- a def that is not called so deep -/
theorem fn_deadK {P : Program} {w : World} {K : Fg} {mg : Str → Option Value} {base : Heap} {x qual : Str} {st : Stmt} {f : Addr} {fd : FuncData} {N ps : List Str} {S : ASp} {k : Nat} (F : Fun K x qual st f fd) (Sc : FnScope N ps (defScope st)) (no : ∀ avs R, S avs R → False := by exact fun _ _ z => z) : FnOk P w K mg base CX0 (k + 1) f fd ps (toSp K S) :=
  F.ok Sc (fun vs H Q E h => (let ⟨_, _, _, _, z, _⟩ := h; no _ _ z).elim) (fun cdv A outer s H vs Q E hr h => (let ⟨_, _, _, _, z, _⟩ := h; no _ _ z).elim)
end AL
namespace AL
open PySem L2 PyProof.Rows
/-! AL27: a loop over a list that is owned or is data. -/
theorem PS_or {X : Cx} {st : Stmt} {t t' : TS} (h : PS X st t) (h' : PS X st t') : PS X st (fun D σ H => t D σ H ∨ t' D σ H) := ⟨fun pins s σ H D I q => q.elim (h.run pins s σ H D I) (h'.run pins s σ H D I)⟩
theorem AS.or {X : Cx} {B : Nat → Bool} {st : Stmt} {a a' : AS'} (h : AS X B st a) (h' : AS X B st a') : AS X B st (fun A env => a A env ∨ a' A env) := by
  obtain ⟨t, p, s⟩ := h
  obtain ⟨t', p', s'⟩ := h'
  exact ⟨_, PS_or p p', fun Y H σ env D A rep q k => q.elim (fun q => .inl (s Y H σ env D A rep q k)) fun q => .inr (s' Y H σ env D A rep q k)⟩
theorem AS.imp {X : Cx} {B : Nat → Bool} {st : Stmt} {a a' : AS'} (h : AS X B st a) (m : ∀ A env, a' A env → a A env) : AS X B st a' := by
  obtain ⟨t, p, s⟩ := h
  exact ⟨t, p, fun Y H σ env D A rep q k => s Y H σ env D A rep (m A env q) k⟩
def aForX (i : Nat) (g : AG') (b : AS') : AS' := fun A env => match env[i]? with
  | some (.own (.lst l)) => l.length ≤ sizeLine → forL g b (hidA i l A) l (env.set i .un)
  | some (.dat d) => itemsR d fun l => forL g b A l env
  | _ => False
theorem as_forX {X : Cx} {B : Nat → Bool} {st : Stmt} {g : AG'} {b : AS'} (i : Nat) (h : AS X B st (aFor (aiSeq (aVar i)) g b)) (h' : AS X B st (aForO i g b)) : AS X B st (aForX i g b) :=
  (h.or h').imp fun A env q => by
    unfold aForX at q
    match w : env[i]?, q with
    | some (.own (.lst l)), q =>
      right
      show aForO i g b A env
      unfold aForO
      rw [w]
      exact q
    | some (.dat d), q =>
      left
      show aFor (aiSeq (aVar i)) g b A env
      unfold aFor aiSeq aFrz aVar
      rw [w]
      exact q
end AL
namespace AL
open PySem L2
/-! S0: loops, comprehensions and calls, as they are read in plain Lean. -/
theorem for_ind {g : AG'} {b : AS'} {A : AEnds} {Iv : List D → AEnv → Prop} (hn : ∀ env, Iv [] env → A.nx env)
    (hs : ∀ d ds env (N : AEnv → Prop), (∀ env', Iv ds env' → N env') → Iv (d :: ds) env → g d env fun env1 => b { nx := N, ct := N, bk := A.nx, rt := A.rt } env1) : ∀ items env, Iv items env → forL g b A items env
  | [], env, h => hn env h
  | d :: ds, env, h => hs d ds env _ (fun env' h' => for_ind hn hs ds env' h') h
/-- what a comprehension makes of its items: each gives a value or none -/
inductive Outs (Stp : D → Option D → Prop) : List D → List D → Prop
  | nil : Outs Stp [] []
  | yes {d z : D} {ds zs : List D} : Stp d (some z) → Outs Stp ds zs → Outs Stp (d :: ds) (z :: zs)
  | no {d : D} {ds zs : List D} : Stp d none → Outs Stp ds zs → Outs Stp (d :: ds) zs
def lcK (K : Option D → AEnv → Prop) (vs : List Nat) : RV → AEnv → Prop := fun r env => match r with
  | .dat z => K (some z) (wipeE env vs)
  | _ => False
theorem lc_ind {g : AG'} {t : AT'} {e : AE'} {vs : List Nat} {Ev : AEnv → Prop} {Stp : D → Option D → Prop} : ∀ (items : List D),
    (∀ d, d ∈ items → ∀ env (K : Option D → AEnv → Prop), Ev env → (∀ oz env', Ev env' → Stp d oz → K oz env') → g d env fun env1 => t env1 fun b env2 => brP b (aFrz e env2 (lcK K vs)) (K none (wipeE env2 vs))) →
    ∀ env R, Ev env → (∀ zs env', Outs Stp items zs → Ev env' → R zs env') → lcL g t e vs items R env
  | [], hs, env, R, h, k => k [] env .nil h
  | d :: ds, hs, env, R, h, k => by
    refine hs d List.mem_cons_self env (fun oz env' => match oz with
      | some z => lcL g t e vs ds (fun zs env4 => R (z :: zs) env4) env'
      | none => lcL g t e vs ds R env') h fun oz env' h' st => ?_
    have ih := fun R' k' => lc_ind (Stp := Stp) (Ev := Ev) ds (fun d' hd => hs d' (List.mem_cons_of_mem _ hd)) env' R' h' k'
    cases oz with
    | some z => exact ih _ fun zs env2 o h2 => k _ env2 (.yes st o) h2
    | none => exact ih _ fun zs env2 o h2 => k _ env2 (.no st o) h2
theorem Outs.imp {S S' : D → Option D → Prop} (h : ∀ d oz, S d oz → S' d oz) : ∀ {ds zs : List D}, Outs S ds zs → Outs S' ds zs
  | _, _, .nil => .nil
  | _, _, .yes s o => .yes (h _ _ s) (o.imp h)
  | _, _, .no s o => .no (h _ _ s) (o.imp h)
theorem Outs.len {S : D → Option D → Prop} : ∀ {ds zs : List D}, Outs S ds zs → zs.length ≤ ds.length
  | _, _, .nil => Nat.le_refl _
  | _, _, .yes s o => Nat.succ_le_succ o.len
  | _, _, .no s o => Nat.le_succ_of_le o.len
/-- each item gives a value of its kind -/
theorem Outs.all {S : D → Option D → Prop} {P : D → Prop} (h : ∀ d z, S d (some z) → P z) : ∀ {ds zs : List D}, Outs S ds zs → ∀ z ∈ zs, P z
  | _, _, .nil, z, m => by cases m
  | _, _, .yes s o, z, m => by
    rcases List.mem_cons.mp m with e | e
    · rw [e]; exact h _ _ s
    · exact o.all h z e
  | _, _, .no s o, z, m => o.all h z m
/-- a map -/
theorem Outs.map {α : Type} {S : D → Option D → Prop} {g : α → D} {f : α → D} (h : ∀ a oz, S (g a) oz → oz = some (f a)) : ∀ {xs : List α} {zs : List D}, Outs S (xs.map g) zs → zs = xs.map f
  | [], _, .nil => rfl
  | a :: xs, _, .yes s o => by
    have := h a _ s
    cases this
    rw [o.map h]
    rfl
  | a :: xs, _, .no s o => by
    have := h a _ s
    cases this
theorem map_cons_inv {α β : Type} {g : α → β} {xs : List α} {d : β} {ds : List β} (h : xs.map g = d :: ds) : ∃ a r, xs = a :: r ∧ g a = d ∧ r.map g = ds := by
  cases xs with
  | nil => cases h
  | cons a r =>
    cases h
    exact ⟨a, r, rfl, rfl, rfl⟩
/-- a filter -/
theorem Outs.filter {α : Type} {S : D → Option D → Prop} {g : α → D} {p : α → Bool} (h : ∀ a oz, S (g a) oz → oz = if p a then some (g a) else none) {xs : List α} {zs : List D} (o : Outs S (xs.map g) zs) : zs = (xs.filter p).map g := by
  induction xs generalizing zs with
  | nil => cases o; rfl
  | cons a xs ih =>
    cases o with
    | yes s o =>
      have e := h a _ s
      cases w : p a with
      | true =>
        rw [w] at e
        cases e
        rw [ih o, List.filter_cons, w]
        rfl
      | false => rw [w] at e; cases e
    | no s o =>
      have e := h a _ s
      cases w : p a with
      | true => rw [w] at e; cases e
      | false =>
        rw [ih o, List.filter_cons, w]
        rfl
/-! calls -/
theorem backE_dats : ∀ (ds : List D) (as env : AEnv), backE env (ds.map RV.dat) as = env
  | [], _, _ => by simp [backE]
  | d :: ds, [], env => by simp [backE]
  | d :: ds, a :: as, env => by
    simp only [List.map_cons, backE]
    exact backE_dats ds as env
theorem argsE_dats (env : AEnv) : ∀ ds : List D, argsE env (ds.map RV.dat) = ds.map AV.dat
  | [] => rfl
  | d :: ds => by
    simp only [List.map_cons, argsE]
    rw [argsE_dats env ds]
theorem lents_dats : ∀ ds : List D, lents (ds.map RV.dat) = []
  | [] => rfl
  | d :: ds => by
    simp only [List.map_cons, lents]
    exact lents_dats ds
theorem call_dats {S : ASp} {env : AEnv} (ds : List D) {R : RV → AEnv → Prop} (h : S (ds.map AV.dat) fun r _ => R r env) : callR S (ds.map RV.dat) env R := by
  unfold callR lentOk
  rw [lents_dats, argsE_dats]
  refine ⟨⟨List.nodup_nil, fun i h => by cases h⟩, ?_⟩
  have e : (fun r avs' => R r (backE env (ds.map RV.dat) avs')) = fun r (_ : AEnv) => R r env := by
    funext r avs'
    rw [backE_dats]
  rw [e]
  exact h
/-- the lent slot as it comes back -/
def lentBack (env : AEnv) (j : Nat) (R : RV → AEnv → Prop) : RV → AEnv → Prop := fun r avs => match avs with
  | a :: _ => R r (env.set j a)
  | [] => R r env
theorem call_lent {S : ASp} {env : AEnv} (j : Nat) {d : D} (ds : List D) {R : RV → AEnv → Prop} (e : env[j]? = some (.own d)) (h : S (.own d :: ds.map AV.dat) (lentBack env j R)) : callR S (.at j :: ds.map RV.dat) env R := by
  unfold callR lentOk
  have e1 : argsE env (.at j :: ds.map RV.dat) = .own d :: ds.map AV.dat := by
    simp only [argsE, e]
    rw [argsE_dats]
  rw [e1]
  refine ⟨⟨?_, fun i hi => ?_⟩, ?_⟩
  · simp only [lents, lents_dats]
    exact List.nodup_cons.mpr ⟨by simp, List.nodup_nil⟩
  · simp only [lents, lents_dats, List.mem_cons, List.not_mem_nil, or_false] at hi
    subst hi
    exact ⟨d, e⟩
  · have e2 : (fun r avs' => R r (backE env (.at j :: ds.map RV.dat) avs')) = lentBack env j R := by
      funext r avs'
      cases avs' with
      | nil => rfl
      | cons a as => simp only [backE, backE_dats, lentBack]
    rw [e2]
    exact h
theorem noOwn_one {env : AEnv} {v : Nat} {x : AV} (e : env[v]? = some x) (h : ∀ d, x ≠ .own d) : noOwn env [v] := fun i hi d z => by
  rw [List.mem_singleton] at hi
  subst hi
  rw [e] at z
  exact h d (Option.some.inj z)
theorem noOwn_two {env : AEnv} {v u : Nat} {x y : AV} (e : env[v]? = some x) (h : ∀ d, x ≠ .own d) (e2 : env[u]? = some y) (h2 : ∀ d, y ≠ .own d) : noOwn env [v, u] := fun i hi d z => by
  rcases List.mem_cons.mp hi with q | q
  · subst q
    rw [e] at z
    exact h d (Option.some.inj z)
  · rw [List.mem_singleton] at q
    subst q
    rw [e2] at z
    exact h2 d (Option.some.inj z)
/-! subscripts -/
theorem atI_nat {l : List D} {i : Int} {z : D} (h : 0 ≤ i) (e : l[i.toNat]? = some z) : atI l i = some z := by
  unfold atI
  have hl : i.toNat < l.length := (List.getElem?_eq_some_iff.mp e).1
  have : ixN l.length i = some i.toNat := by
    unfold ixN
    rw [if_pos h, if_pos (by omega)]
  rw [this]
  exact e
theorem ix_lst {l : List D} {i : Int} {z : D} {F : RV → Prop} (h : 0 ≤ i) (e : l[i.toNat]? = some z) (f : F (.dat z)) : fIx (.lst l) (.int i) F := by
  unfold fIx
  exact ⟨z, atI_nat h e, f⟩
theorem ix_tup {l : List D} {i : Int} {z : D} {F : RV → Prop} (h : 0 ≤ i) (e : l[i.toNat]? = some z) (f : F (.dat z)) : fIx (.tup l) (.int i) F := by
  unfold fIx
  exact ⟨z, atI_nat h e, f⟩
theorem ix_dic {ks vs : List D} {k z : D} {F : RV → Prop} (h : isKey k = true) (e : dGet ks vs k = some z) (f : F (.dat z)) : fIx (.dic ks vs) k F := by
  unfold fIx
  exact ⟨h, z, e, f⟩
end AL
namespace AL
open PySem L2
/-! S0b: data of ints, texts, tuples and lists: == is equality. -/
inductive Pl : Nat → D → Prop
  | int (n : Nat) (i : Int) : Pl n (.int i)
  | str (n : Nat) {x : Str} : PyData.strOk x = true → Pl n (.str x)
  | tup {n : Nat} {l : List D} : (∀ d, d ∈ l → Pl n d) → Pl (n + 1) (.tup l)
  | lst {n : Nat} {l : List D} : (∀ d, d ∈ l → Pl n d) → Pl (n + 1) (.lst l)
theorem Pl.up {n m : Nat} {d : D} (h : Pl n d) : n ≤ m → Pl m d := by
  induction h generalizing m with
  | int n i => exact fun _ => .int m i
  | str n hx => exact fun _ => .str m hx
  | tup h ih =>
    intro le
    obtain ⟨k, rfl⟩ : ∃ k, m = k + 1 := ⟨m - 1, by omega⟩
    exact .tup fun d hd => ih d hd (by omega)
  | lst h ih =>
    intro le
    obtain ⟨k, rfl⟩ : ∃ k, m = k + 1 := ⟨m - 1, by omega⟩
    exact .lst fun d hd => ih d hd (by omega)
theorem layAll : ∀ {l : List D}, (∀ d ∈ l, d.pd.canLay0 = true) → PyData.canLayAll0 (pds l) = true
  | [], _ => rfl
  | d :: l, h => by
    simp only [pds, PyData.canLayAll0, Bool.and_eq_true]
    exact ⟨h d List.mem_cons_self, layAll fun e he => h e (List.mem_cons_of_mem _ he)⟩
theorem depAll {n : Nat} : ∀ {l : List D}, (∀ d ∈ l, d.pd.depth ≤ n) → PyData.depthAll (pds l) ≤ n
  | [], _ => by simp [pds, PyData.depthAll]
  | d :: l, h => by
    simp only [pds, PyData.depthAll]
    exact Nat.max_le.mpr ⟨h d List.mem_cons_self, depAll fun e he => h e (List.mem_cons_of_mem _ he)⟩
theorem Pl.lay {n : Nat} {d : D} (h : Pl n d) : d.pd.canLay0 = true := by
  induction h with
  | int n i => simp [D.pd, PyData.canLay0]
  | str n hx => simpa [D.pd, PyData.canLay0] using hx
  | tup h ih =>
    simp only [D.pd, PyData.canLay0]
    exact layAll ih
  | lst h ih =>
    simp only [D.pd, PyData.canLay0]
    exact layAll ih
theorem Pl.dep {n : Nat} {d : D} (h : Pl n d) : d.pd.depth ≤ n := by
  induction h with
  | int n i => simp [D.pd, PyData.depth]
  | str n hx => simp [D.pd, PyData.depth]
  | tup h ih =>
    simp only [D.pd, PyData.depth]
    exact Nat.succ_le_succ (depAll ih)
  | lst h ih =>
    simp only [D.pd, PyData.depth]
    exact Nat.succ_le_succ (depAll ih)
theorem Pl.sh {n : Nat} {d : D} (h : Pl n d) (hn : n ≤ 64 := by decide) : d.sh := by
  unfold D.sh SeqAt.shaped
  rw [h.lay, Bool.true_and, decide_eq_true_iff]
  exact Nat.le_trans h.dep hn
theorem eqvAll_iff : ∀ {l m : List D}, (∀ d ∈ l, ∀ (k : Nat) (e : D), Pl k e → (PyData.eqv d.pd e.pd = true ↔ d = e)) → (∀ e ∈ m, ∃ k, Pl k e) → (PyData.eqvAll (pds l) (pds m) = true ↔ l = m)
  | [], [], _, _ => by simp [pds, PyData.eqvAll]
  | [], _ :: _, _, _ => by simp [pds, PyData.eqvAll]
  | _ :: _, [], _, _ => by simp [pds, PyData.eqvAll]
  | d :: l, e :: m, h1, h2 => by
    simp only [pds, PyData.eqvAll, Bool.and_eq_true, List.cons.injEq]
    obtain ⟨k, hk⟩ := h2 e List.mem_cons_self
    exact and_congr (h1 d List.mem_cons_self k e hk) (eqvAll_iff (fun d hd => h1 d (List.mem_cons_of_mem _ hd)) fun e he => h2 e (List.mem_cons_of_mem _ he))
theorem Pl.eqv {n : Nat} {d : D} (h : Pl n d) : ∀ {m : Nat} {e : D}, Pl m e → (PyData.eqv d.pd e.pd = true ↔ d = e) := by
  induction h with
  | int n i =>
    intro m e h2
    cases h2 <;> simp [D.pd, PyData.eqv]
  | str n hx =>
    intro m e h2
    cases h2 <;> simp [D.pd, PyData.eqv]
  | tup h ih =>
    intro m e h2
    cases h2 with
    | int => simp [D.pd, PyData.eqv]
    | str => simp [D.pd, PyData.eqv]
    | tup h' =>
      simp only [D.pd, PyData.eqv, D.tup.injEq]
      exact eqvAll_iff (fun d hd k e he => ih d hd he) fun e he => ⟨_, h' e he⟩
    | lst h' => simp [D.pd, PyData.eqv]
  | lst h ih =>
    intro m e h2
    cases h2 with
    | int => simp [D.pd, PyData.eqv]
    | str => simp [D.pd, PyData.eqv]
    | tup h' => simp [D.pd, PyData.eqv]
    | lst h' =>
      simp only [D.pd, PyData.eqv, D.lst.injEq]
      exact eqvAll_iff (fun d hd k e he => ih d hd he) fun e he => ⟨_, h' e he⟩
theorem Pl.eqvB {n m : Nat} {d e : D} (h : Pl n d) (h2 : Pl m e) : PyData.eqv d.pd e.pd = decide (d = e) := by
  rw [Bool.eq_iff_iff, decide_eq_true_iff]
  exact h.eqv h2
theorem any_mem {n m : Nat} {d : D} (h : Pl m d) : ∀ {l : List D}, (∀ x ∈ l, Pl n x) → ((pds l).any fun z => PyData.eqv z d.pd) = decide (d ∈ l)
  | [], _ => by simp only [pds, List.any_nil, List.not_mem_nil, decide_false]
  | x :: l, hl => by
    simp only [pds, List.any_cons]
    rw [any_mem h fun y hy => hl y (List.mem_cons_of_mem _ hy), (hl x List.mem_cons_self).eqvB h]
    rw [Bool.eq_iff_iff, Bool.or_eq_true, decide_eq_true_iff, decide_eq_true_iff, decide_eq_true_iff, List.mem_cons]
    exact or_congr eq_comm Iff.rfl
section
variable {n m : Nat} {d e : D} {l : List D} {F : RV → Prop}
theorem in_lst (h : Pl m d) (hl : ∀ x ∈ l, Pl n x) (f : F (.dat (.bl (decide (d ∈ l))))) (hm : m ≤ 64 := by omega) (hn : n + 1 ≤ 64 := by omega) : fIn false d (.lst l) F := by
  unfold fIn
  refine ⟨h.sh hm, (Pl.lst hl).sh hn, ?_⟩
  simp only [Bool.false_eq_true, if_false]
  rw [any_mem h hl]
  exact f
theorem in_tup (h : Pl m d) (hl : ∀ x ∈ l, Pl n x) (f : F (.dat (.bl (decide (d ∈ l))))) (hm : m ≤ 64 := by omega) (hn : n + 1 ≤ 64 := by omega) : fIn false d (.tup l) F := by
  unfold fIn
  refine ⟨h.sh hm, (Pl.tup hl).sh hn, ?_⟩
  simp only [Bool.false_eq_true, if_false]
  rw [any_mem h hl]
  exact f
theorem notin_lst (h : Pl m d) (hl : ∀ x ∈ l, Pl n x) (f : F (.dat (.bl (!decide (d ∈ l))))) (hm : m ≤ 64 := by omega) (hn : n + 1 ≤ 64 := by omega) : fIn true d (.lst l) F := by
  unfold fIn
  refine ⟨h.sh hm, (Pl.lst hl).sh hn, ?_⟩
  simp only [if_true]
  rw [any_mem h hl]
  exact f
theorem notin_tup (h : Pl m d) (hl : ∀ x ∈ l, Pl n x) (f : F (.dat (.bl (!decide (d ∈ l))))) (hm : m ≤ 64 := by omega) (hn : n + 1 ≤ 64 := by omega) : fIn true d (.tup l) F := by
  unfold fIn
  refine ⟨h.sh hm, (Pl.tup hl).sh hn, ?_⟩
  simp only [if_true]
  rw [any_mem h hl]
  exact f
theorem in_dic {ks vs : List D} (h : isKey d = true) (f : F (.dat (.bl (decide (d ∈ ks))))) : fIn false d (.dic ks vs) F := by
  unfold fIn
  exact ⟨h, by simpa using f⟩
theorem notin_dic {ks vs : List D} (h : isKey d = true) (f : F (.dat (.bl (!decide (d ∈ ks))))) : fIn true d (.dic ks vs) F := by
  unfold fIn
  exact ⟨h, by simpa using f⟩
theorem eq_pl (h : Pl n d) (h2 : Pl m e) (f : F (.dat (.bl (decide (d = e))))) (hn : n ≤ 64 := by omega) (hm : m ≤ 64 := by omega) : fEq d e F := by
  unfold fEq
  refine ⟨h.sh hn, h2.sh hm, ?_⟩
  rw [h.eqvB h2]
  exact f
theorem ne_pl (h : Pl n d) (h2 : Pl m e) (f : F (.dat (.bl (!decide (d = e))))) (hn : n ≤ 64 := by omega) (hm : m ≤ 64 := by omega) : fNe d e F := by
  unfold fNe
  refine ⟨h.sh hn, h2.sh hm, ?_⟩
  rw [h.eqvB h2]
  exact f
theorem bl_sh (b : Bool) : (D.bl b).sh := by unfold D.sh SeqAt.shaped; simp [D.pd, PyData.canLay0, PyData.depth]
theorem ne_bl {a b : Bool} (f : F (.dat (.bl (!(a == b))))) : fNe (.bl a) (.bl b) F := by
  unfold fNe
  refine ⟨bl_sh a, bl_sh b, ?_⟩
  simpa [D.pd, PyData.eqv] using f
theorem eq_int {i j : Int} (f : F (.dat (.bl (decide (i = j))))) : fEq (.int i) (.int j) F := eq_pl (.int 0 i) (.int 0 j) (by simpa using f)
theorem ne_int {i j : Int} (f : F (.dat (.bl (!decide (i = j))))) : fNe (.int i) (.int j) F := ne_pl (.int 0 i) (.int 0 j) (by simpa using f)
end
end AL
namespace AL
open PySem L2
/-! X1: what the defs of k41 are worth. -/
def drK : List D := [.str "cells", .str "at", .str "rest", .str "turn", .str "seed"]
def drD (cs : List Int) (a r t s : Int) : D := .dic drK [.lst (cs.map D.int), .int a, .int r, .int t, .int s]
def Dr (d : D) : Prop := ∃ cs a r t s, d = drD cs a r t s ∧ (∀ c ∈ cs, (0 : Int) ≤ c) ∧ 0 ≤ a ∧ 0 ≤ r ∧ 0 ≤ t ∧ 0 ≤ s
def S_law_begin : ASp := fun avs R => ∃ ns : List Int, avs = [.dat (.scr (ns.map D.int))] ∧ ∀ d, Dr d → R (.new d) avs
def S_law_draw : ASp := fun avs R => ∃ d many, avs = [.own d, .dat (.int many)] ∧ Dr d ∧ 0 < many ∧ many < 1073741824 ∧ ∀ r d', 0 ≤ r → r < many → Dr d' → R (.dat (.int r)) [.own d', .dat (.int many)]
/-- the items that a subscript reads -/
def itemsOf : D → Option (List D)
  | .lst l => some l
  | .tup l => some l
  | .str z => some (z.cps.toList.map fun c => D.str ⟨#[c]⟩)
  | _ => none
def seqOf : D → Option (List D)
  | .lst l => some l
  | .tup l => some l
  | _ => none
def S_law_pick : ASp := fun avs R => ∃ d row l x, avs = [.own d, x] ∧ (x = .dat row ∨ x = .own row) ∧ Dr d ∧ itemsOf row = some l ∧ l ≠ [] ∧ l.length ≤ 1000000 ∧ ∀ z d', z ∈ l → Dr d' → R (.dat z) [.own d', x]
def S_law_mixed : ASp := fun avs R => ∃ d row l, avs = [.own d, .dat row] ∧ Dr d ∧ seqOf row = some l ∧ l.length ≤ 1000000 ∧ ∀ l' d', l'.Perm l → Dr d' → R (.new (.lst l')) [.own d', .dat row]
def S_law_some : ASp := fun avs R => ∃ d row l n least, avs = [.own d, .dat row, .dat (.int least)] ∧ Dr d ∧ seqOf row = some l ∧ l.length ≤ 1000000 ∧ n ≤ 20 ∧ (∀ x ∈ l, Pl n x) ∧ ∀ l' d', l'.Sublist l → Dr d' → R (.new (.lst l')) [.own d', .dat row, .dat (.int least)]
/-- the last sign of a name -/
def lastC (s : Str) : Option Nat := s.cps.toList.getLast?
def S_law_names : ASp := fun avs R => ∃ d many, avs = [.own d, .dat (.int many)] ∧ Dr d ∧ 0 ≤ many ∧ many ≤ 26 ∧ ∀ (ns : List Str) d', ns.length = many.toNat → (∀ x ∈ ns, PyData.strOk x = true) → ns.Nodup → Dr d' → R (.new (.lst (ns.map D.str))) [.own d', .dat (.int many)]
/-- the things, each once -/
def unl {α : Type} [DecidableEq α] (told : List α) : List α → List α
  | [] => told
  | x :: xs => unl (if x ∈ told then told else told ++ [x]) xs
def S_law_unlike : ASp := fun avs R => ∃ row l n, avs = [.dat row] ∧ seqOf row = some l ∧ l.length ≤ 1000000 ∧ n ≤ 20 ∧ (∀ x ∈ l, Pl n x) ∧ R (.new (.lst (unl [] l))) avs
/-! rows, trees -/
abbrev Row := Str × List Int
def tmD (ts : List Int) : D := .tup (ts.map D.int)
def rowD (r : Row) : D := .tup [.str r.1, tmD r.2]
abbrev Span := Int × Int × Int
def spD (s : Span) : D := .tup [.int s.1, .int s.2.1, .int s.2.2]
structure Tree where
  rows : List Row
  nots : List Row
  spans : List Span
  wide : List Int
/-- spans, downwards -/
def dsort (sp : List Span) : List Span := sp.mergeSort fun a b => decide (b.1 ≤ a.1)
def treeD (t : Tree) : D := .tup [.tup (t.rows.map rowD), .tup (t.nots.map rowD), .tup ((dsort t.spans).map spD), tmD t.wide]
/-- the dict of the cells -/
def celD (sp : List Span) : D := .dic (sp.map fun s => D.int s.1) (sp.map fun s => D.tup [.int s.2.1, .int s.2.2])
def objD (C : Addr) (t : Tree) : D := .obj C ["rows", "nots", "spans", "wide"] [.tup (t.rows.map rowD), .tup (t.nots.map rowD), celD t.spans, tmD t.wide]
def RowOk (r : Row) : Prop := PyData.strOk r.1 = true ∧ r.2.length ≤ 100
def RowsOk (rs : List Row) : Prop := rs.length ≤ 1000 ∧ ∀ r ∈ rs, RowOk r
structure TreeOk (t : Tree) : Prop where
  rows : RowsOk t.rows
  nots : RowsOk t.nots
  slen : t.spans.length ≤ 1000
  wlen : t.wide.length ≤ 1000
  nd : (t.spans.map (·.1)).Nodup
/-- the variables, in the order of their first places -/
def addVars (told : List Int) : List Int → List Int
  | [] => told
  | t :: ts => addVars (if t < 0 ∧ t ∉ told then told ++ [t] else told) ts
def varsFrom (told : List Int) : List Row → List Int
  | [] => told
  | r :: rs => varsFrom (addVars told r.2) rs
def vars (rs : List Row) : List Int := varsFrom [] rs
def Has (ks ts : List Int) : Prop := ∀ x ∈ ts, x < 0 → x ∈ ks
def S_law_variables : ASp := fun avs R => ∃ row rs x, avs = [x] ∧ (x = .dat row ∨ (x = .own row ∧ row = .lst (rs.map rowD))) ∧ seqOf row = some (rs.map rowD) ∧ RowsOk rs ∧ R (.new (.lst ((vars rs).map D.int))) avs
def S_Body_variables (C : Addr) : ASp := fun avs R => ∃ t, avs = [.dat (objD C t)] ∧ TreeOk t ∧ R (.new (.lst ((vars t.rows).map D.int))) avs
def S_Body_init (C : Addr) : ASp := fun avs R => ∃ a b c e, avs = [.own (.obj C [] []), .dat a, .dat b, .dat c, .dat e] ∧ R (.dat .non) [.own (.obj C ["rows", "nots", "spans", "wide"] [a, b, c, e]), .dat a, .dat b, .dat c, .dat e]
def S_Body_tree (C : Addr) : ASp := fun avs R => ∃ t, avs = [.dat (objD C t)] ∧ TreeOk t ∧ R (.dat (treeD t)) avs
/-- what holds of a term -/
def bnd (sp : List Span) (x : Int) : Int × Int := if 0 ≤ x then (x, x + 1) else match sp.find? (fun s => s.1 == x) with
  | some s => s.2
  | none => (0, 1000)
def prD (p : Int × Int) : D := .tup [.int p.1, .int p.2]
def S_Body_span (C : Addr) : ASp := fun avs R => ∃ t x, avs = [.dat (objD C t), .dat (.int x)] ∧ TreeOk t ∧ R (.dat (prD (bnd t.spans x))) avs
/-! names: a dict of ints -/
abbrev Bd := List (Int × Int)
def bD (b : Bd) : D := .dic (b.map fun p => D.int p.1) (b.map fun p => D.int p.2)
def lkB : Bd → Int → Option Int
  | [], _ => none
  | (k, v) :: r, t => if k = t then some v else lkB r t
structure BdOk (b : Bd) : Prop where
  nd : (b.map (·.1)).Nodup
  len : b.length ≤ 1000
  neg : ∀ p ∈ b, p.1 < 0
def vl (ts : List Int) (b : Bd) : List Int := ts.map fun t => if 0 ≤ t then t else (lkB b t).getD 0
def S_laid : ASp := fun avs R => ∃ ts b, avs = [.dat (tmD ts), .dat (bD b)] ∧ ts.length ≤ 1000 ∧ BdOk b ∧ Has (b.map (·.1)) ts ∧ R (.dat (tmD (vl ts b))) avs
def S_law_laid : ASp := fun avs R => ∃ row ts b, avs = [.dat row, .dat (bD b)] ∧ seqOf row = some (ts.map D.int) ∧ ts.length ≤ 1000 ∧ BdOk b ∧ Has (b.map (·.1)) ts ∧ R (.dat (tmD (vl ts b))) avs
/-! images: what is offered for a map -/
inductive Img where
  | int (i : Int) | bl (b : Bool) | non | str (x : Str)
def imD : Img → D
  | .int i => .int i
  | .bl b => .bl b
  | .non => .non
  | .str x => .str x
def isI : Img → Bool
  | .int _ => true
  | _ => false
def S_law_is_int : ASp := fun avs R => ∃ i : Img, avs = [.dat (imD i)] ∧ R (.dat (.bl (isI i))) avs
def S_is_whole : ASp := S_law_is_int
/-- a whole offer: a tuple, a list, or one thing -/
inductive Off where
  | tup (l : List Img) | lst (l : List Img) | one (i : Img)
def ofD : Off → D
  | .tup l => .tup (l.map imD)
  | .lst l => .lst (l.map imD)
  | .one i => imD i
def offLen : Off → Nat
  | .tup l => l.length
  | .lst l => l.length
  | .one _ => 0
def toInts : List Img → Option (List Int)
  | [] => some []
  | .int i :: r => (toInts r).map (i :: ·)
  | _ :: _ => none
/-- the ints of a right offer for n variables -/
def offI (n : Nat) : Off → Option (List Int)
  | .tup l => if l.length = n then toInts l else none
  | _ => none
def S_names_from (C : Addr) : ASp := fun avs R => ∃ t o, avs = [.dat (objD C t), .dat (ofD o)] ∧ TreeOk t ∧ offLen o ≤ 1000 ∧ match offI (vars t.rows).length o with
  | some is => R (.new (bD ((vars t.rows).zip is))) avs
  | none => R (.dat .non) avs
/-! kinds -/
def putK (s1 s2 : List Span) : Bd → List (Int × Int) → Option Bd
  | b, [] => some b
  | b, (t, i) :: r => if (0 ≤ t ∨ 0 ≤ i) ∧ t ≠ i then none else if 0 ≤ t then putK s1 s2 b r else match lkB b t with
    | some v => if v = i then putK s1 s2 b r else none
    | none => if i ∈ b.map (·.2) ∨ bnd s1 t ≠ bnd s2 i then none else putK s1 s2 (b ++ [(t, i)]) r
def S_put_kinds (C : Addr) : ASp := fun avs R => ∃ t b ts o is, avs = [.dat (objD C t), .dat (bD b), .dat (tmD ts), .dat (objD C o), .dat (tmD is)] ∧ TreeOk t ∧ TreeOk o ∧ BdOk b ∧ b.length ≤ 500 ∧ ts.length ≤ 100 ∧ is.length ≤ 100 ∧ match putK t.spans o.spans b (ts.zip is) with
  | some b' => ∀ r, r = .dat (bD b') ∨ r = .new (bD b') → R r avs
  | none => R (.dat .non) avs
def tryK (s1 s2 : List Span) (b : Bd) (r q : Row) : Option Bd := if q.1 = r.1 then putK s1 s2 b (r.2.zip q.2) else none
/-- the first way to lay all rows -/
def matF (s1 s2 : List Span) (os : List Row) : List Row → Bd → Option Bd
  | [], b => some b
  | r :: rs, b => os.findSome? fun q => (tryK s1 s2 b r q).bind (matF s1 s2 os rs)
def S_matchD (C : Addr) : Nat → ASp
  | 0 => fun _ _ => False
  | n + 1 => fun avs R => ∃ t place b o told, avs = [.dat (objD C t), .dat (.int (place : Nat)), .dat (bD b), .dat (objD C o), .own (.lst (told.map bD))] ∧ TreeOk t ∧ TreeOk o ∧ BdOk b ∧ t.rows.length ≤ 16 ∧ b.length ≤ 20 + 5 * place ∧ (∀ r ∈ t.rows, r.2.length ≤ 5) ∧ (∀ r ∈ o.rows, r.2.length ≤ 5) ∧ told.length ≤ 1 ∧ place ≤ t.rows.length ∧ t.rows.length ≤ place + n ∧
      R (.dat .non) [.dat (objD C t), .dat (.int (place : Nat)), .dat (bD b), .dat (objD C o), .own (.lst ((if told = [] then (matF t.spans o.spans o.rows (t.rows.drop place) b).toList else told).map bD))]
def orowD (sp : List Span) (r : Row) : D := .tup [.str r.1, .tup (r.2.map fun x => prD (bnd sp x))]
def outD (t : Tree) : D := .tup [.tup (sortD (t.rows.map (orowD t.spans))), .tup (t.wide.map fun x => prD (bnd t.spans x))]
def S_outline (C : Addr) : ASp := fun avs R => ∃ t, avs = [.dat (objD C t)] ∧ TreeOk t ∧ R (.dat (outD t)) avs
/-- a case: rows, cells, wide -/
def csD (t : Tree) : D := .tup [.tup (t.rows.map rowD), celD t.spans, tmD t.wide]
structure CaseOk (t : Tree) : Prop where
  rok : ∀ r ∈ t.rows, RowOk r ∧ r.2.length ≤ 4
  nots : RowsOk t.nots
  rl : t.rows.length ≤ 16
  rnd : t.rows.Nodup
  vl : (vars t.rows).length ≤ 5
  wl : t.wide.length ≤ 10
  wh : Has (vars t.rows) t.wide
  snd : (t.spans.map (·.1)).Nodup
  skey : ∀ x, x ∈ t.spans.map (·.1) ↔ x ∈ vars t.rows
/-- rows of a table are of its width -/
def Ar (ar : Str → Nat) (t : Tree) : Prop := ∀ r ∈ t.rows, r.2.length = ar r.1
def sameF (t o : Tree) : Option (List Int) := if t.rows.length ≠ o.rows.length ∨ outD t ≠ outD o then none else (putK t.spans o.spans [] (t.wide.zip o.wide)).bind fun b => (matF t.spans o.spans o.rows t.rows b).map fun b => (vars t.rows).map fun x => (lkB b x).getD 0
def S_same_kind (C : Addr) : ASp := fun avs R => ∃ t o ar, avs = [.dat (objD C t), .dat (objD C o)] ∧ CaseOk t ∧ CaseOk o ∧ Ar ar t ∧ Ar ar o ∧ R (.dat (match sameF t o with | some l => tmD l | none => .non)) avs
def showB (t o : Tree) (is : List Int) : Bool :=
  decide (t.rows.length = o.rows.length) && decide (t.wide.length = o.wide.length) && decide is.Nodup && is.all (fun i => decide (i < 0)) && ((vars t.rows).zip is).all (fun p => decide (bnd t.spans p.1 = bnd o.spans p.2)) && decide (vl t.wide ((vars t.rows).zip is) = o.wide) && decide ((vars o.rows).length = is.length) && t.rows.all fun r => decide ((r.1, vl r.2 ((vars t.rows).zip is)) ∈ o.rows)
def showF (t o : Tree) (im : Off) : Bool := match offI (vars t.rows).length im with
  | some is => showB t o is
  | none => false
def S_shows_kind (C : Addr) : ASp := fun avs R => ∃ t o im, avs = [.dat (objD C t), .dat (objD C o), .dat (ofD im)] ∧ CaseOk t ∧ CaseOk o ∧ offLen im ≤ 100 ∧ R (.dat (.bl (showF t o im))) avs
/-! the law's own maps -/
def lkC (sp : List Span) (x : Int) : Option (Int × Int) := (sp.find? fun s => s.1 == x).map (·.2)
def isMapF (t o : Tree) (b : Bd) : Bool := decide (b.map (·.2)).Nodup && b.all (fun p => decide (p.2 ∈ o.spans.map (·.1)) && decide (lkC o.spans p.2 = lkC t.spans p.1)) && decide (vl t.wide b = o.wide) && decide (sortD (t.rows.map fun r => rowD (r.1, vl r.2 b)) = sortD (o.rows.map rowD))
def S_law_is_map : ASp := fun avs R => ∃ t o b, avs = [.dat (csD t), .dat (csD o), .dat (bD b)] ∧ CaseOk t ∧ CaseOk o ∧ b.map (·.1) = vars t.rows ∧ R (.dat (.bl (isMapF t o b))) avs
def asgF (t o : Tree) : List Int → List Bd → List Bd
  | [], f => f
  | x :: xs, f => asgF t o xs (f.flatMap fun b => ((vars o.rows).filter fun i => decide (i ∉ b.map (·.2)) && decide (lkC o.spans i = lkC t.spans x)).map fun i => b ++ [(x, i)])
def mapsF (t o : Tree) : List (List Int) := if (vars t.rows).length = (vars o.rows).length then ((asgF t o (vars t.rows) [[]]).filter (isMapF t o)).map (vl (vars t.rows)) else []
def S_law_maps : ASp := fun avs R => ∃ t o, avs = [.dat (csD t), .dat (csD o)] ∧ CaseOk t ∧ CaseOk o ∧ R (.new (.lst ((mapsF t o).map tmD))) avs
def readF (t o : Tree) (im : Off) : Bool := match offI (vars t.rows).length im with
  | some is => decide ((vars o.rows).length = (vars t.rows).length) && isMapF t o ((vars t.rows).zip is)
  | none => false
def S_law_reads : ASp := fun avs R => ∃ t o im, avs = [.dat (csD t), .dat (csD o), .dat (ofD im)] ∧ CaseOk t ∧ CaseOk o ∧ offLen im ≤ 100 ∧ R (.dat (.bl (readF t o im))) avs
/-! making cases -/
def wholeT (rs : List Row) (sp : List Span) (ws : List Int) : Tree where
  rows := unl [] rs
  nots := []
  spans := (vars (unl [] rs)).map fun x => (x, (lkC sp x).getD (0, 1000))
  wide := ws.map fun x => if 0 ≤ x ∨ x ∈ vars (unl [] rs) then x else 50
def S_law_whole : ASp := fun avs R => ∃ rs sp ws, avs = [.dat (.lst (rs.map rowD)), .dat (celD sp), .dat (.lst (ws.map D.int))] ∧ RowsOk rs ∧ sp.length ≤ 1000 ∧ (sp.map (·.1)).Nodup ∧ ws.length ≤ 1000 ∧ R (.dat (csD (wholeT rs sp ws))) avs
/-- tables to draw from; terms to draw -/
def tbD (p : Str × Nat) : D := .tup [.str p.1, .int p.2]
def TbOk (tb : List (Str × Nat)) : Prop := tb ≠ [] ∧ tb.length ≤ 10 ∧ (tb.map (·.1)).Nodup ∧ ∀ p ∈ tb, PyData.strOk p.1 = true ∧ 1 ≤ p.2 ∧ p.2 ≤ 4
def S_law_drawn : ASp := fun avs R => ∃ d tb many mn, avs = [.own d, .dat (.lst (tb.map tbD)), .dat (.int many), .dat (.lst (mn.map prD))] ∧ Dr d ∧ TbOk tb ∧ 1 ≤ many ∧ many ≤ 15 ∧ mn ≠ [] ∧ mn.length ≤ 10 ∧
  ∀ t d', CaseOk t → t.rows ≠ [] → t.rows.length ≤ 15 → t.wide.length ≤ 9 → (∀ r ∈ t.rows, 1 ≤ r.2.length) → (∀ ar : Str → Nat, (∀ p ∈ tb, ar p.1 = p.2) → Ar ar t) → Dr d' → R (.dat (csD t)) [.own d', .dat (.lst (tb.map tbD)), .dat (.int many), .dat (.lst (mn.map prD))]
/-- names given anew: keys are the rows' variables, images unlike and negative -/
structure NewNm (t : Tree) (b : Bd) : Prop where
  keys : b.map (·.1) = vars t.rows
  nd : (b.map (·.2)).Nodup
  neg : ∀ p ∈ b, p.2 < 0
structure Big (t : Tree) : Prop where
  ne : t.rows ≠ []
  rl : t.rows.length ≤ 15
  wl : t.wide.length ≤ 9
  r1 : ∀ r ∈ t.rows, 1 ≤ r.2.length
def S_law_exchanged : ASp := fun avs R => ∃ d t b, avs = [.own d, .dat (csD t), .dat (bD b)] ∧ Dr d ∧ CaseOk t ∧ Big t ∧ NewNm t b ∧
  ∀ o d', CaseOk o → Big o → (∀ x ∈ vars o.rows, x ∈ b.map (·.2)) → (∀ ar, Ar ar t → Ar ar o) → Dr d' → R (.dat (csD o)) [.own d', .dat (csD t), .dat (bD b)]
def S_law_turned : ASp := fun avs R => ∃ d t way tb mn, avs = [.own d, .dat (csD t), .dat (.int way), .dat (.lst (tb.map tbD)), .dat (.lst (mn.map prD))] ∧ Dr d ∧ CaseOk t ∧ Big t ∧ TbOk tb ∧ mn ≠ [] ∧ mn.length ≤ 10 ∧
  ∀ o d', CaseOk o → (∀ ar : Str → Nat, (∀ p ∈ tb, ar p.1 = p.2) → Ar ar t → Ar ar o) → Dr d' → R (.dat (csD o)) [.own d', .dat (csD t), .dat (.int way), .dat (.lst (tb.map tbD)), .dat (.lst (mn.map prD))]
def withN (t : Tree) (ns : List Row) : Tree := { t with nots := ns }
def S_law_body_of (C : Addr) : ASp := fun avs R => ∃ t ns, avs = [.dat (csD t), .dat (.tup (ns.map rowD))] ∧ CaseOk t ∧ R (.new (objD C (withN t ns))) avs
def S_law_spoilt : ASp := fun avs R => ∃ (d : D) (is th : List Int), avs = [.own d, .dat (tmD is), .dat (.lst (th.map D.int))] ∧ Dr d ∧ is.length ≤ 50 ∧ th.length ≤ 50 ∧
  ∀ o r d', offLen o ≤ is.length + 1 → (r = .dat (ofD o) ∨ r = .new (ofD o)) → Dr d' → R r [.own d', .dat (tmD is), .dat (.lst (th.map D.int))]
def S_law_agrees (C : Addr) : ASp := fun avs R => ∃ d t o n1 n2 made ar, avs = [.own d, .dat (csD t), .dat (csD o), .dat (objD C (withN t n1)), .dat (objD C (withN o n2)), .dat (tmD made)] ∧ Dr d ∧ CaseOk t ∧ CaseOk o ∧ Ar ar t ∧ Ar ar o ∧ RowsOk n1 ∧ RowsOk n2 ∧ made.length ≤ 10 ∧
  ∀ d', Dr d' → R (.dat (.bl true)) [.own d', .dat (csD t), .dat (csD o), .dat (objD C (withN t n1)), .dat (objD C (withN o n2)), .dat (tmD made)]
def S_law : ASp := fun avs R => ∃ ns : List Int, avs = [.dat (.scr (ns.map D.int))] ∧ R (.dat (.bl true)) avs
end AL
namespace AL
open PySem L2
/-! X2: readings. -/
/-- Body.tree(self): 0=self 1=spans 2=term -/
def B_Body_tree : Nat → Bool := fun i => false
def Body_tree_0_1 (C : Addr) : AS' := (aRet B_Body_tree (aTup (aConsD (aFld C "rows" (aVar 0)) (aConsD (aFld C "nots" (aVar 0)) (aConsD (aVar 1) (aConsD (aFld C "wide" (aVar 0)) aNil))))))
def Body_tree_0_0 (C : Addr) : AS' := aSeq (aSet 1 (aRd fTuple (aLc (aiSeq (aSortedDR (aFld C "spans" (aVar 0)))) (agName 2) atYes (aTup (aConsD (aVar 2) (aConsD (aOp fIx (aOp fIx (aFld C "spans" (aVar 0)) (aVar 2)) (aC (.int 0))) (aConsD (aOp fIx (aOp fIx (aFld C "spans" (aVar 0)) (aVar 2)) (aC (.int 1))) aNil)))) [2]))) (Body_tree_0_1 C)
def a_Body_tree (C : Addr) : AS' := Body_tree_0_0 C
/-- _law_is_int(thing): 0=thing -/
def B_law_is_int : Nat → Bool := fun i => false
def law_is_int_0_0 : AS' := (aRet B_law_is_int (aAndV (aB (aIsi "int" (aVar 0))) (aNotV (aB (aIsi "bool" (aVar 0))))))
def a_law_is_int : AS' := law_is_int_0_0
/-- _law_laid(terms, names): 0=terms 1=names 2=term -/
def B_law_laid : Nat → Bool := fun i => false
def law_laid_0_0 : AS' := (aRet B_law_laid (aRd fTuple (aLc (aiSeq (aVar 0)) (agName 2) atYes (aIf (aB (aOp fGe (aVar 2) (aC (.int 0)))) (aVar 2) (aOp fIx (aVar 1) (aVar 2))) [2])))
def a_law_laid : AS' := law_laid_0_0
/-- _law_unlike(row): 0=row 1=told 2=thing -/
def B_law_unlike : Nat → Bool := fun i => false
def law_unlike_2_0 : AS' := (aDrop (aMut 1 (aConsD (aVar 2) aNil) fAppend))
def law_unlike_1_0 : AS' := (aIfS (aB (aOp (fIn true) (aVar 2) (aVar 1))) law_unlike_2_0 aNext)
def law_unlike_0_2 : AS' := (aRet B_law_unlike (aVar 1))
def law_unlike_0_1 : AS' := aSeq (aFor (aiSeq (aVar 0)) (agName 2) law_unlike_1_0) law_unlike_0_2
def law_unlike_0_0 : AS' := aSeq (aSet 1 (aLst aNil)) law_unlike_0_1
def a_law_unlike : AS' := law_unlike_0_0
/-- _law_is_map(case, other, names): 0=case 1=other 2=names 3=images 4=term 5=rows 6=cells 7=wide 8=row -/
def B_law_is_map : Nat → Bool := fun i => false
def law_is_map_1_0 : AS' := (aRet B_law_is_map (aC (.bl false)))
def law_is_map_3_0 : AS' := (aRet B_law_is_map (aC (.bl false)))
def law_is_map_2_0 : AS' := (aIfS (aOr (aB (aOp (fIn true) (aOp fIx (aVar 2) (aVar 4)) (aOp fIx (aVar 1) (aC (.int 1))))) (aB (aOp fNe (aOp fIx (aOp fIx (aVar 1) (aC (.int 1))) (aOp fIx (aVar 2) (aVar 4))) (aOp fIx (aVar 6) (aVar 4))))) law_is_map_3_0 aNext)
def law_is_map_4_0 : AS' := (aRet B_law_is_map (aC (.bl false)))
def law_is_map_0_5 : AS' := (aRet B_law_is_map (aOp fEq (aRd fSortD (aLc (aiSeq (aVar 5)) (agName 8) atYes (aTup (aConsD (aOp fIx (aVar 8) (aC (.int 0))) (aConsD (aFn S_law_laid (aConsD (aOp fIx (aVar 8) (aC (.int 1))) (aConsD (aVar 2) aNil))) aNil))) [8])) (aRd fSortD (aOp fIx (aVar 1) (aC (.int 0))))))
def law_is_map_0_4 : AS' := aSeq (aIfS (aB (aOp fNe (aFn S_law_laid (aConsD (aVar 7) (aConsD (aVar 2) aNil))) (aOp fIx (aVar 1) (aC (.int 2))))) law_is_map_4_0 aNext) law_is_map_0_5
def law_is_map_0_3 : AS' := aSeq (aFor (aiSeq (aVar 2)) (agName 4) law_is_map_2_0) law_is_map_0_4
def law_is_map_0_2 : AS' := aSeq (aIfS (aB (aOp fNe (aRd fLen (aFn S_law_unlike (aConsD (aVar 3) aNil))) (aRd fLen (aVar 3)))) law_is_map_1_0 aNext) law_is_map_0_3
def law_is_map_0_1 : AS' := aSeq (aSet 3 (aLc (aiSeq (aVar 2)) (agName 4) atYes (aOp fIx (aVar 2) (aVar 4)) [4])) law_is_map_0_2
def law_is_map_0_0 : AS' := aSeq (aAsg (aVar 0) (agTup 3 (agCons (agName 5) (agCons (agName 6) (agCons (agName 7) agNil))))) law_is_map_0_1
def a_law_is_map : AS' := law_is_map_0_0
/-- _law_variables(rows): 0=rows 1=told 2=row 3=term -/
def B_law_variables : Nat → Bool := fun i => i == 0
def law_variables_3_0 : AS' := (aDrop (aMut 1 (aConsD (aVar 3) aNil) fAppend))
def law_variables_2_0 : AS' := (aIfS (aAnd (aB (aOp fLt (aVar 3) (aC (.int 0)))) (aB (aOp (fIn true) (aVar 3) (aVar 1)))) law_variables_3_0 aNext)
def law_variables_1_0 : AS' := (aFor (aiSeq (aOp fIx (aVar 2) (aC (.int 1)))) (agName 3) law_variables_2_0)
def law_variables_0_2 : AS' := (aRet B_law_variables (aVar 1))
def law_variables_0_1 : AS' := aSeq (aForX 0 (agName 2) law_variables_1_0) law_variables_0_2
def law_variables_0_0 : AS' := aSeq (aSet 1 (aLst aNil)) law_variables_0_1
def a_law_variables : AS' := law_variables_0_0
/-- _law_maps(case, other): 0=case 1=other 2=maps 3=term 4=mine 5=theirs 6=more 7=names 8=taken 9=image 10=one 11=told -/
def B_law_maps : Nat → Bool := fun i => false
def law_maps_1_0 : AS' := (aRet B_law_maps (aLst aNil))
def law_maps_5_2 : AS' := (aDrop (aMut 6 (aConsD (aVar 11) aNil) fAppend))
def law_maps_5_1 : AS' := aSeq (aAsg (aVar 9) (agSub (aVar 11) (aVar 3))) law_maps_5_2
def law_maps_5_0 : AS' := aSeq (aSet 11 (aRd fDict (aVar 7))) law_maps_5_1
def law_maps_4_0 : AS' := (aIfS (aAnd (aB (aOp (fIn true) (aVar 9) (aVar 8))) (aB (aOp fEq (aOp fIx (aOp fIx (aVar 1) (aC (.int 1))) (aVar 9)) (aOp fIx (aOp fIx (aVar 0) (aC (.int 1))) (aVar 3))))) law_maps_5_0 aNext)
def law_maps_3_1 : AS' := (aFor (aiSeq (aVar 5)) (agName 9) law_maps_4_0)
def law_maps_3_0 : AS' := aSeq (aSet 8 (aLc (aiSeq (aVar 7)) (agName 10) atYes (aOp fIx (aVar 7) (aVar 10)) [10])) law_maps_3_1
def law_maps_2_2 : AS' := (aSet 2 (aVar 6))
def law_maps_2_1 : AS' := aSeq (aFor (aiSeq (aVar 2)) (agName 7) law_maps_3_0) law_maps_2_2
def law_maps_2_0 : AS' := aSeq (aSet 6 (aLst aNil)) law_maps_2_1
def law_maps_0_4 : AS' := (aRet B_law_maps (aLc (aiSeq (aVar 2)) (agName 7) (aTru (aFn S_law_is_map (aConsD (aVar 0) (aConsD (aVar 1) (aConsD (aVar 7) aNil))))) (aFn S_law_laid (aConsD (aVar 4) (aConsD (aVar 7) aNil))) [7]))
def law_maps_0_3 : AS' := aSeq (aFor (aiSeq (aVar 4)) (agName 3) law_maps_2_0) law_maps_0_4
def law_maps_0_2 : AS' := aSeq (aSet 2 (aLst (aConsD aNewK aNil))) law_maps_0_3
def law_maps_0_1 : AS' := aSeq (aIfS (aB (aOp fNe (aRd fLen (aVar 4)) (aRd fLen (aVar 5)))) law_maps_1_0 aNext) law_maps_0_2
def law_maps_0_0 : AS' := aSeq (aPar [4, 5] (anCons (aFn S_law_variables (aConsD (aOp fIx (aVar 0) (aC (.int 0))) aNil)) (anCons (aFn S_law_variables (aConsD (aOp fIx (aVar 1) (aC (.int 0))) aNil)) aNil))) law_maps_0_1
def a_law_maps : AS' := law_maps_0_0
/-- _law_draw(d, many): 0=d 1=many 2=told 3=cell -/
def B_law_draw : Nat → Bool := fun i => i == 0
def law_draw_1_2 : AS' := (aRet B_law_draw (aVar 2))
def law_draw_1_1 : AS' := aSeq (aAsg (aOp fDiv (aOp fIx (aVar 0) (aC (.str "rest"))) (aVar 1)) (agSub (aVar 0) (aC (.str "rest")))) law_draw_1_2
def law_draw_1_0 : AS' := aSeq (aSet 2 (aOp fMod (aRd fInt (aOp fIx (aVar 0) (aC (.str "rest")))) (aVar 1))) law_draw_1_1
def law_draw_3_1 : AS' := (aRet B_law_draw (aOp fMod (aRd fInt (aOp fDiv (aVar 3) (aC (.int 2)))) (aVar 1)))
def law_draw_3_0 : AS' := aSeq (aAsg (aOp fDiv (aOp fDiv (aVar 3) (aC (.int 2))) (aVar 1)) (agSub (aVar 0) (aC (.str "rest")))) law_draw_3_1
def law_draw_2_3 : AS' := (aAsg (aOp fMod (aRd fInt (aOp fAdd (aOp fAdd (aOp fMul (aOp fIx (aVar 0) (aC (.str "seed"))) (aC (.int 1009))) (aVar 3)) (aC (.int 1)))) (aC (.int 1000000007))) (agSub (aVar 0) (aC (.str "seed"))))
def law_draw_2_2 : AS' := aSeq (aIfS (aB (aOp fGe (aVar 3) (aOp fPow (aC (.int 10)) (aC (.int 18))))) law_draw_3_0 aNext) law_draw_2_3
def law_draw_2_1 : AS' := aSeq (aAsg (aOp fAdd (aOp fIx (aVar 0) (aC (.str "at"))) (aC (.int 1))) (agSub (aVar 0) (aC (.str "at")))) law_draw_2_2
def law_draw_2_0 : AS' := aSeq (aSet 3 (aOp fIx (aOp fIx (aVar 0) (aC (.str "cells"))) (aOp fIx (aVar 0) (aC (.str "at"))))) law_draw_2_1
def law_draw_0_5 : AS' := (aRet B_law_draw (aOp fMod (aVar 2) (aVar 1)))
def law_draw_0_4 : AS' := aSeq (aSet 2 (aOp fMod (aRd fInt (aOp fAdd (aOp fDiv (aVar 2) (aC (.int 7))) (aOp fMul (aVar 2) (aC (.int 69621))))) (aC (.int 1999999973)))) law_draw_0_5
def law_draw_0_3 : AS' := aSeq (aSet 2 (aOp fMod (aRd fInt (aOp fAdd (aOp fMul (aOp fAdd (aOp fIx (aVar 0) (aC (.str "seed"))) (aOp fMul (aOp fIx (aVar 0) (aC (.str "turn"))) (aC (.int 7919)))) (aC (.int 48271))) (aC (.int 12345)))) (aC (.int 2147483647)))) law_draw_0_4
def law_draw_0_2 : AS' := aSeq (aIfS (aB (aOp fLt (aOp fIx (aVar 0) (aC (.str "at"))) (aRd fLen (aOp fIx (aVar 0) (aC (.str "cells")))))) law_draw_2_0 aNext) law_draw_0_3
def law_draw_0_1 : AS' := aSeq (aIfS (aB (aOp fGt (aOp fIx (aVar 0) (aC (.str "rest"))) (aC (.int 0)))) law_draw_1_0 aNext) law_draw_0_2
def law_draw_0_0 : AS' := aSeq (aAsg (aOp fAdd (aOp fIx (aVar 0) (aC (.str "turn"))) (aC (.int 1))) (agSub (aVar 0) (aC (.str "turn")))) law_draw_0_1
def a_law_draw : AS' := law_draw_0_0
/-- _law_mixed(d, row): 0=d 1=row 2=left 3=told 4=turn -/
def B_law_mixed : Nat → Bool := fun i => i == 0
def law_mixed_1_0 : AS' := (aDrop (aMut 3 (aConsD (aMut 2 (aConsD (aFn S_law_draw (aCons (aVar 0) (aConsD (aRd fLen (aVar 2)) aNil))) aNil) fPopAt) aNil) fAppend))
def law_mixed_0_3 : AS' := (aRet B_law_mixed (aVar 3))
def law_mixed_0_2 : AS' := aSeq (aFor (aiRange1 (aConsD (aRd fLen (aVar 1)) aNil)) (agName 4) law_mixed_1_0) law_mixed_0_3
def law_mixed_0_1 : AS' := aSeq (aSet 3 (aLst aNil)) law_mixed_0_2
def law_mixed_0_0 : AS' := aSeq (aSet 2 (aRd fList (aVar 1))) law_mixed_0_1
def a_law_mixed : AS' := law_mixed_0_0
/-- _law_reads(case, other, images): 0=case 1=other 2=images 3=mine 4=names 5=place 6=image -/
def B_law_reads : Nat → Bool := fun i => false
def law_reads_1_0 : AS' := (aRet B_law_reads (aC (.bl false)))
def law_reads_2_0 : AS' := (aRet B_law_reads (aC (.bl false)))
def law_reads_3_0 : AS' := (aRet B_law_reads (aC (.bl false)))
def law_reads_4_0 : AS' := (aAsg (aOp fIx (aVar 2) (aVar 5)) (agSub (aVar 4) (aOp fIx (aVar 3) (aVar 5))))
def law_reads_0_6 : AS' := (aRet B_law_reads (aFn S_law_is_map (aConsD (aVar 0) (aConsD (aVar 1) (aConsD (aVar 4) aNil)))))
def law_reads_0_5 : AS' := aSeq (aFor (aiRange1 (aConsD (aRd fLen (aVar 3)) aNil)) (agName 5) law_reads_4_0) law_reads_0_6
def law_reads_0_4 : AS' := aSeq (aSet 4 aNewK) law_reads_0_5
def law_reads_0_3 : AS' := aSeq (aIfS (aB (aOp fNe (aRd fLen (aFn S_law_variables (aConsD (aOp fIx (aVar 1) (aC (.int 0))) aNil))) (aRd fLen (aVar 3)))) law_reads_3_0 aNext) law_reads_0_4
def law_reads_0_2 : AS' := aSeq (aIfS (aNot (aTru (aRd fAll (aLc (aiSeq (aVar 2)) (agName 6) atYes (aFn S_law_is_int (aConsD (aVar 6) aNil)) [6])))) law_reads_2_0 aNext) law_reads_0_3
def law_reads_0_1 : AS' := aSeq (aIfS (aOr (aNot (aTru (aIsi "tuple" (aVar 2)))) (aB (aOp fNe (aRd fLen (aVar 2)) (aRd fLen (aVar 3))))) law_reads_1_0 aNext) law_reads_0_2
def law_reads_0_0 : AS' := aSeq (aSet 3 (aFn S_law_variables (aConsD (aOp fIx (aVar 0) (aC (.int 0))) aNil))) law_reads_0_1
def a_law_reads : AS' := law_reads_0_0
/-- _law_pick(d, row): 0=d 1=row -/
def B_law_pick : Nat → Bool := fun i => i == 0 || i == 1
def law_pick_0_0 : AS' := (aRet B_law_pick (aOp fIx (aVar 1) (aFn S_law_draw (aCons (aVar 0) (aConsD (aRd fLen (aVar 1)) aNil)))))
def a_law_pick : AS' := law_pick_0_0
/-- _law_spoilt(d, images, theirs): 0=d 1=images 2=theirs 3=way 4=at -/
def B_law_spoilt : Nat → Bool := fun i => i == 0
def law_spoilt_1_0 : AS' := (aRet B_law_spoilt (aOp fAdd (aVar 1) (aTup (aConsD (aFn S_law_pick (aCons (aVar 0) (aConsD (aOp fAdd (aVar 2) (aLst (aConsD (aNeg (aC (.int 30))) aNil))) aNil))) aNil))))
def law_spoilt_2_0 : AS' := (aRet B_law_spoilt (aOp fAdd (aSl (aVar 1) aoNone (aoSome (aVar 4))) (aSl (aVar 1) (aoSome (aOp fAdd (aVar 4) (aC (.int 1)))) aoNone)))
def law_spoilt_3_0 : AS' := (aRet B_law_spoilt (aOp fAdd (aOp fAdd (aSl (aVar 1) aoNone (aoSome (aVar 4))) (aTup (aConsD (aFn S_law_pick (aCons (aVar 0) (aConsD (aLst (aConsD (aC (.int 50)) (aConsD (aNeg (aC (.int 30))) (aConsD (aC (.bl true)) (aConsD (aC .non) (aConsD (aC (.str "a")) aNil)))))) aNil))) aNil))) (aSl (aVar 1) (aoSome (aOp fAdd (aVar 4) (aC (.int 1)))) aoNone)))
def law_spoilt_4_0 : AS' := (aRet B_law_spoilt (aRd fList (aVar 1)))
def law_spoilt_0_6 : AS' := (aRet B_law_spoilt (aOp fAdd (aOp fAdd (aSl (aVar 1) aoNone (aoSome (aVar 4))) (aTup (aConsD (aFn S_law_pick (aCons (aVar 0) (aConsD (aOp fAdd (aVar 2) (aLst (aConsD (aNeg (aC (.int 30))) aNil))) aNil))) aNil))) (aSl (aVar 1) (aoSome (aOp fAdd (aVar 4) (aC (.int 1)))) aoNone)))
def law_spoilt_0_5 : AS' := aSeq (aIfS (aB (aOp fEq (aVar 3) (aC (.int 3)))) law_spoilt_4_0 aNext) law_spoilt_0_6
def law_spoilt_0_4 : AS' := aSeq (aIfS (aB (aOp fEq (aVar 3) (aC (.int 2)))) law_spoilt_3_0 aNext) law_spoilt_0_5
def law_spoilt_0_3 : AS' := aSeq (aIfS (aB (aOp fEq (aVar 3) (aC (.int 1)))) law_spoilt_2_0 aNext) law_spoilt_0_4
def law_spoilt_0_2 : AS' := aSeq (aSet 4 (aFn S_law_draw (aCons (aVar 0) (aConsD (aRd fLen (aVar 1)) aNil)))) law_spoilt_0_3
def law_spoilt_0_1 : AS' := aSeq (aIfS (aOr (aB (aOp fEq (aVar 3) (aC (.int 0)))) (aB (aOp fEq (aRd fLen (aVar 1)) (aC (.int 0))))) law_spoilt_1_0 aNext) law_spoilt_0_2
def law_spoilt_0_0 : AS' := aSeq (aSet 3 (aFn S_law_draw (aCons (aVar 0) (aConsD (aC (.int 6)) aNil)))) law_spoilt_0_1
def a_law_spoilt : AS' := law_spoilt_0_0
/-- Body.variables(self): 0=self 1=told 2=row 3=term -/
def B_Body_variables : Nat → Bool := fun i => false
def Body_variables_3_0 (C : Addr) : AS' := (aDrop (aMut 1 (aConsD (aVar 3) aNil) fAppend))
def Body_variables_2_0 (C : Addr) : AS' := (aIfS (aAnd (aB (aOp fLt (aVar 3) (aC (.int 0)))) (aB (aOp (fIn true) (aVar 3) (aVar 1)))) (Body_variables_3_0 C) aNext)
def Body_variables_1_0 (C : Addr) : AS' := (aFor (aiSeq (aOp fIx (aVar 2) (aC (.int 1)))) (agName 3) (Body_variables_2_0 C))
def Body_variables_0_2 (C : Addr) : AS' := (aRet B_Body_variables (aVar 1))
def Body_variables_0_1 (C : Addr) : AS' := aSeq (aFor (aiSeq (aFld C "rows" (aVar 0))) (agName 2) (Body_variables_1_0 C)) (Body_variables_0_2 C)
def Body_variables_0_0 (C : Addr) : AS' := aSeq (aSet 1 (aLst aNil)) (Body_variables_0_1 C)
def a_Body_variables (C : Addr) : AS' := Body_variables_0_0 C
/-- Body.span(self, term): 0=self 1=term -/
def B_Body_span : Nat → Bool := fun i => false
def Body_span_1_0 (C : Addr) : AS' := (aRet B_Body_span (aTup (aConsD (aVar 1) (aConsD (aOp fAdd (aVar 1) (aC (.int 1))) aNil))))
def Body_span_0_1 (C : Addr) : AS' := (aRet B_Body_span (aGet (aFld C "spans" (aVar 0)) (aVar 1) (aTup (aConsD (aC (.int 0)) (aConsD (aC (.int 1000)) aNil)))))
def Body_span_0_0 (C : Addr) : AS' := aSeq (aIfS (aB (aOp fGe (aVar 1) (aC (.int 0)))) (Body_span_1_0 C) aNext) (Body_span_0_1 C)
def a_Body_span (C : Addr) : AS' := Body_span_0_0 C
/-- put_kinds(case, names, terms, other, images): 0=case 1=names 2=terms 3=other 4=images 5=term 6=image -/
def B_put_kinds : Nat → Bool := fun i => false
def put_kinds_2_0 (C : Addr) : AS' := (aRet B_put_kinds (aC .non))
def put_kinds_3_0 (C : Addr) : AS' := (fun A env => A.ct env)
def put_kinds_5_0 (C : Addr) : AS' := (aRet B_put_kinds (aC .non))
def put_kinds_4_1 (C : Addr) : AS' := (fun A env => A.ct env)
def put_kinds_4_0 (C : Addr) : AS' := aSeq (aIfS (aB (aOp fNe (aOp fIx (aVar 1) (aVar 5)) (aVar 6))) (put_kinds_5_0 C) aNext) (put_kinds_4_1 C)
def put_kinds_6_0 (C : Addr) : AS' := (aRet B_put_kinds (aC .non))
def put_kinds_1_5 (C : Addr) : AS' := (aAsg (aVar 6) (agSub (aVar 1) (aVar 5)))
def put_kinds_1_4 (C : Addr) : AS' := aSeq (aSet 1 (aRd fDict (aVar 1))) (put_kinds_1_5 C)
def put_kinds_1_3 (C : Addr) : AS' := aSeq (aIfS (aOr (aB (aOp (fIn false) (aVar 6) (aListVals (aVar 1)))) (aB (aOp fNe (aMeth C "span" (S_Body_span C) (aFrz (aVar 0)) (aConsD (aVar 5) aNil)) (aMeth C "span" (S_Body_span C) (aFrz (aVar 3)) (aConsD (aVar 6) aNil))))) (put_kinds_6_0 C) aNext) (put_kinds_1_4 C)
def put_kinds_1_2 (C : Addr) : AS' := aSeq (aIfS (aB (aOp (fIn false) (aVar 5) (aVar 1))) (put_kinds_4_0 C) aNext) (put_kinds_1_3 C)
def put_kinds_1_1 (C : Addr) : AS' := aSeq (aIfS (aB (aOp fGe (aVar 5) (aC (.int 0)))) (put_kinds_3_0 C) aNext) (put_kinds_1_2 C)
def put_kinds_1_0 (C : Addr) : AS' := aSeq (aIfS (aAnd (aOr (aB (aOp fGe (aVar 5) (aC (.int 0)))) (aB (aOp fGe (aVar 6) (aC (.int 0))))) (aB (aOp fNe (aVar 5) (aVar 6)))) (put_kinds_2_0 C) aNext) (put_kinds_1_1 C)
def put_kinds_0_1 (C : Addr) : AS' := (aRet B_put_kinds (aVar 1))
def put_kinds_0_0 (C : Addr) : AS' := aSeq (aFor (aiZip (aConsD (aVar 2) (aConsD (aVar 4) aNil))) (agTup 2 (agCons (agName 5) (agCons (agName 6) agNil))) (put_kinds_1_0 C)) (put_kinds_0_1 C)
def a_put_kinds (C : Addr) : AS' := put_kinds_0_0 C
/-- match(case, place, names, other, told): 0=case 1=place 2=names 3=other 4=told 5=table 6=terms 7=target 8=images 9=more -/
def B_matchD : Nat → Bool := fun i => i == 4
def matchD_1_0 (C : Addr) (Sr : ASp) : AS' := (fun A env => A.rt (.dat .non) env)
def matchD_2_1 (C : Addr) (Sr : ASp) : AS' := (fun A env => A.rt (.dat .non) env)
def matchD_2_0 (C : Addr) (Sr : ASp) : AS' := aSeq (aDrop (aMut 4 (aConsD (aVar 2) aNil) fAppend)) (matchD_2_1 C Sr)
def matchD_5_0 (C : Addr) (Sr : ASp) : AS' := (aDrop (aFn Sr (aConsD (aVar 0) (aConsD (aOp fAdd (aVar 1) (aC (.int 1))) (aConsD (aVar 9) (aConsD (aVar 3) (aCons (aVar 4) aNil)))))))
def matchD_4_1 (C : Addr) (Sr : ASp) : AS' := (aIfS (aB (aOp fNotN (aVar 9) (aC .non))) (matchD_5_0 C Sr) aNext)
def matchD_4_0 (C : Addr) (Sr : ASp) : AS' := aSeq (aSet 9 (aFn (S_put_kinds C) (aConsD (aVar 0) (aConsD (aVar 2) (aConsD (aVar 6) (aConsD (aVar 3) (aConsD (aVar 8) aNil))))))) (matchD_4_1 C Sr)
def matchD_3_0 (C : Addr) (Sr : ASp) : AS' := (aIfS (aB (aOp fEq (aVar 7) (aVar 5))) (matchD_4_0 C Sr) aNext)
def matchD_0_3 (C : Addr) (Sr : ASp) : AS' := (aFor (aiSeq (aFld C "rows" (aVar 3))) (agTup 2 (agCons (agName 7) (agCons (agName 8) agNil))) (matchD_3_0 C Sr))
def matchD_0_2 (C : Addr) (Sr : ASp) : AS' := aSeq (aAsg (aOp fIx (aFld C "rows" (aVar 0)) (aVar 1)) (agTup 2 (agCons (agName 5) (agCons (agName 6) agNil)))) (matchD_0_3 C Sr)
def matchD_0_1 (C : Addr) (Sr : ASp) : AS' := aSeq (aIfS (aB (aOp fEq (aVar 1) (aRd fLen (aFld C "rows" (aVar 0))))) (matchD_2_0 C Sr) aNext) (matchD_0_2 C Sr)
def matchD_0_0 (C : Addr) (Sr : ASp) : AS' := aSeq (aIfS (aTru (aVar 4)) (matchD_1_0 C Sr) aNext) (matchD_0_1 C Sr)
def a_matchD (C : Addr) (Sr : ASp) : AS' := matchD_0_0 C Sr
/-- outline(case): 0=case 1=rows 2=table 3=terms 4=term -/
def B_outline : Nat → Bool := fun i => false
def outline_0_1 (C : Addr) : AS' := (aRet B_outline (aTup (aConsD (aRd fTuple (aRd fSortD (aVar 1))) (aConsD (aRd fTuple (aLc (aiSeq (aFld C "wide" (aVar 0))) (agName 4) atYes (aMeth C "span" (S_Body_span C) (aFrz (aVar 0)) (aConsD (aVar 4) aNil)) [4])) aNil))))
def outline_0_0 (C : Addr) : AS' := aSeq (aSet 1 (aLc (aiSeq (aFld C "rows" (aVar 0))) (agTup 2 (agCons (agName 2) (agCons (agName 3) agNil))) atYes (aTup (aConsD (aVar 2) (aConsD (aRd fTuple (aLc (aiSeq (aVar 3)) (agName 4) atYes (aMeth C "span" (S_Body_span C) (aFrz (aVar 0)) (aConsD (aVar 4) aNil)) [4])) aNil))) [2, 3])) (outline_0_1 C)
def a_outline (C : Addr) : AS' := outline_0_0 C
/-- same_kind(case, other): 0=case 1=other 2=names 3=told 4=term -/
def B_same_kind : Nat → Bool := fun i => false
def same_kind_1_0 (C : Addr) : AS' := (aRet B_same_kind (aC .non))
def same_kind_2_0 (C : Addr) : AS' := (aRet B_same_kind (aC .non))
def same_kind_3_0 (C : Addr) : AS' := (aRet B_same_kind (aC .non))
def same_kind_0_6 (C : Addr) : AS' := (aRet B_same_kind (aRd fTuple (aLc (aiSeq (aMeth C "variables" (S_Body_variables C) (aFrz (aVar 0)) aNil)) (agName 4) atYes (aOp fIx (aOp fIx (aVar 3) (aC (.int 0))) (aVar 4)) [4])))
def same_kind_0_5 (C : Addr) : AS' := aSeq (aIfS (aNot (aTru (aVar 3))) (same_kind_3_0 C) aNext) (same_kind_0_6 C)
def same_kind_0_4 (C : Addr) : AS' := aSeq (aDrop (aFn (S_matchD C 17) (aConsD (aVar 0) (aConsD (aC (.int 0)) (aConsD (aVar 2) (aConsD (aVar 1) (aCons (aVar 3) aNil))))))) (same_kind_0_5 C)
def same_kind_0_3 (C : Addr) : AS' := aSeq (aSet 3 (aLst aNil)) (same_kind_0_4 C)
def same_kind_0_2 (C : Addr) : AS' := aSeq (aIfS (aB (aOp fIsN (aVar 2) (aC .non))) (same_kind_2_0 C) aNext) (same_kind_0_3 C)
def same_kind_0_1 (C : Addr) : AS' := aSeq (aSet 2 (aFn (S_put_kinds C) (aConsD (aVar 0) (aConsD aNewK (aConsD (aFld C "wide" (aVar 0)) (aConsD (aVar 1) (aConsD (aFld C "wide" (aVar 1)) aNil))))))) (same_kind_0_2 C)
def same_kind_0_0 (C : Addr) : AS' := aSeq (aIfS (aOr (aB (aOp fNe (aRd fLen (aFld C "rows" (aVar 0))) (aRd fLen (aFld C "rows" (aVar 1))))) (aB (aOp fNe (aFn (S_outline C) (aConsD (aVar 0) aNil)) (aFn (S_outline C) (aConsD (aVar 1) aNil))))) (same_kind_1_0 C) aNext) (same_kind_0_1 C)
def a_same_kind (C : Addr) : AS' := same_kind_0_0 C
/-- laid(terms, names): 0=terms 1=names 2=term -/
def B_laid : Nat → Bool := fun i => false
def laid_0_0 : AS' := (aRet B_laid (aRd fTuple (aLc (aiSeq (aVar 0)) (agName 2) atYes (aIf (aB (aOp fGe (aVar 2) (aC (.int 0)))) (aVar 2) (aOp fIx (aVar 1) (aVar 2))) [2])))
def a_laid : AS' := laid_0_0
/-- is_whole(value): 0=value -/
def B_is_whole : Nat → Bool := fun i => false
def is_whole_0_0 : AS' := (aRet B_is_whole (aAndV (aB (aIsi "int" (aVar 0))) (aNotV (aB (aIsi "bool" (aVar 0))))))
def a_is_whole : AS' := is_whole_0_0
/-- names_from(body, images): 0=body 1=images 2=variables 3=names 4=term 5=image -/
def B_names_from : Nat → Bool := fun i => false
def names_from_1_0 (C : Addr) : AS' := (aRet B_names_from (aC .non))
def names_from_3_0 (C : Addr) : AS' := (aRet B_names_from (aC .non))
def names_from_2_1 (C : Addr) : AS' := (aAsg (aVar 5) (agSub (aVar 3) (aVar 4)))
def names_from_2_0 (C : Addr) : AS' := aSeq (aIfS (aNot (aTru (aFn S_is_whole (aConsD (aVar 5) aNil)))) (names_from_3_0 C) aNext) (names_from_2_1 C)
def names_from_0_4 (C : Addr) : AS' := (aRet B_names_from (aVar 3))
def names_from_0_3 (C : Addr) : AS' := aSeq (aFor (aiZip (aConsD (aVar 2) (aConsD (aVar 1) aNil))) (agTup 2 (agCons (agName 4) (agCons (agName 5) agNil))) (names_from_2_0 C)) (names_from_0_4 C)
def names_from_0_2 (C : Addr) : AS' := aSeq (aSet 3 aNewK) (names_from_0_3 C)
def names_from_0_1 (C : Addr) : AS' := aSeq (aIfS (aOr (aNot (aTru (aIsi "tuple" (aVar 1)))) (aB (aOp fNe (aRd fLen (aVar 1)) (aRd fLen (aVar 2))))) (names_from_1_0 C) aNext) (names_from_0_2 C)
def names_from_0_0 (C : Addr) : AS' := aSeq (aSet 2 (aMeth C "variables" (S_Body_variables C) (aFrz (aVar 0)) aNil)) (names_from_0_1 C)
def a_names_from (C : Addr) : AS' := names_from_0_0 C
/-- shows_kind(case, other, images): 0=case 1=other 2=images 3=names 4=term 5=table 6=terms 7=image -/
def B_shows_kind : Nat → Bool := fun i => false
def shows_kind_1_0 (C : Addr) : AS' := (aRet B_shows_kind (aC (.bl false)))
def shows_kind_2_0 (C : Addr) : AS' := (aRet B_shows_kind (aC (.bl false)))
def shows_kind_3_0 (C : Addr) : AS' := (aRet B_shows_kind (aC (.bl false)))
def shows_kind_4_0 (C : Addr) : AS' := (aRet B_shows_kind (aC (.bl false)))
def shows_kind_0_5 (C : Addr) : AS' := (aRet B_shows_kind (aRd fAll (aLc (aiSeq (aFld C "rows" (aVar 0))) (agTup 2 (agCons (agName 5) (agCons (agName 6) agNil))) atYes (aOp (fIn false) (aTup (aConsD (aVar 5) (aConsD (aFn S_laid (aConsD (aVar 6) (aConsD (aVar 3) aNil))) aNil))) (aFld C "rows" (aVar 1))) [5, 6])))
def shows_kind_0_4 (C : Addr) : AS' := aSeq (aIfS (aOr (aB (aOp fNe (aFn S_laid (aConsD (aFld C "wide" (aVar 0)) (aConsD (aVar 3) aNil))) (aFld C "wide" (aVar 1)))) (aB (aOp fNe (aRd fLen (aMeth C "variables" (S_Body_variables C) (aFrz (aVar 1)) aNil)) (aRd fLen (aVar 2))))) (shows_kind_4_0 C) aNext) (shows_kind_0_5 C)
def shows_kind_0_3 (C : Addr) : AS' := aSeq (aIfS (aNot (aTru (aRd fAll (aLc (aiSeq (aVar 3)) (agName 4) atYes (aOp fEq (aMeth C "span" (S_Body_span C) (aFrz (aVar 0)) (aConsD (aVar 4) aNil)) (aMeth C "span" (S_Body_span C) (aFrz (aVar 1)) (aConsD (aOp fIx (aVar 3) (aVar 4)) aNil))) [4])))) (shows_kind_3_0 C) aNext) (shows_kind_0_4 C)
def shows_kind_0_2 (C : Addr) : AS' := aSeq (aIfS (aOr (aB (aOp fNe (aLenSetT (aVar 2)) (aRd fLen (aVar 2)))) (aNot (aTru (aRd fAll (aLc (aiSeq (aVar 2)) (agName 7) atYes (aOp fLt (aVar 7) (aC (.int 0))) [7]))))) (shows_kind_2_0 C) aNext) (shows_kind_0_3 C)
def shows_kind_0_1 (C : Addr) : AS' := aSeq (aIfS (aOr (aB (aOp fIsN (aVar 3) (aC .non))) (aOr (aB (aOp fNe (aRd fLen (aFld C "rows" (aVar 0))) (aRd fLen (aFld C "rows" (aVar 1))))) (aB (aOp fNe (aRd fLen (aFld C "wide" (aVar 0))) (aRd fLen (aFld C "wide" (aVar 1))))))) (shows_kind_1_0 C) aNext) (shows_kind_0_2 C)
def shows_kind_0_0 (C : Addr) : AS' := aSeq (aSet 3 (aFn (S_names_from C) (aConsD (aVar 0) (aConsD (aVar 2) aNil)))) (shows_kind_0_1 C)
def a_shows_kind (C : Addr) : AS' := shows_kind_0_0 C
/-- _law_agrees(d, case, other, first, second, made): 0=d 1=case 2=other 3=first 4=second 5=made 6=maps 7=told 8=tries 9=theirs 10=images 11=said 12=image -/
def B_law_agrees : Nat → Bool := fun i => i == 0
def law_agrees_1_0 (C : Addr) : AS' := (aRet B_law_agrees (aC (.bl false)))
def law_agrees_2_0 (C : Addr) : AS' := (aRet B_law_agrees (aC (.bl false)))
def law_agrees_3_0 (C : Addr) : AS' := (aRet B_law_agrees (aC (.bl false)))
def law_agrees_4_1 (C : Addr) : AS' := (aDrop (aMut 8 (aConsD (aRd fTuple (aFn S_law_mixed (aCons (aVar 0) (aConsD (aRd fList (aVar 10)) aNil)))) aNil) fAppend))
def law_agrees_4_0 (C : Addr) : AS' := aSeq (aDrop (aMut 8 (aConsD (aFn S_law_spoilt (aCons (aVar 0) (aConsD (aVar 10) (aConsD (aVar 9) aNil)))) aNil) fAppend)) (law_agrees_4_1 C)
def law_agrees_6_0 (C : Addr) : AS' := (aRet B_law_agrees (aC (.bl false)))
def law_agrees_5_1 (C : Addr) : AS' := (aIfS (aOr (aNot (aTru (aIsi "bool" (aVar 11)))) (aB (aOp fNe (aVar 11) (aFn S_law_reads (aConsD (aVar 1) (aConsD (aVar 2) (aConsD (aVar 10) aNil))))))) (law_agrees_6_0 C) aNext)
def law_agrees_5_0 (C : Addr) : AS' := aSeq (aSet 11 (aFn (S_shows_kind C) (aConsD (aVar 3) (aConsD (aVar 4) (aConsD (aVar 10) aNil))))) (law_agrees_5_1 C)
def law_agrees_0_9 (C : Addr) : AS' := (aRet B_law_agrees (aC (.bl true)))
def law_agrees_0_8 (C : Addr) : AS' := aSeq (aFor (aiSeq (aOp fAdd (aVar 8) (aLst (aConsD (aC .non) (aConsD (aTup aNil) (aConsD (aC (.int 0)) aNil)))))) (agName 10) (law_agrees_5_0 C)) (law_agrees_0_9 C)
def law_agrees_0_7 (C : Addr) : AS' := aSeq (aFor (aiSeq (aRd fList (aVar 8))) (agName 10) (law_agrees_4_0 C)) (law_agrees_0_8 C)
def law_agrees_0_6 (C : Addr) : AS' := aSeq (aSet 9 (aFn S_law_variables (aConsD (aOp fIx (aVar 2) (aC (.int 0))) aNil))) (law_agrees_0_7 C)
def law_agrees_0_5 (C : Addr) : AS' := aSeq (aSet 8 (aOp fAdd (aLst (aConsD (aVar 5) aNil)) (aSl (aVar 6) aoNone (aoSome (aC (.int 3)))))) (law_agrees_0_6 C)
def law_agrees_0_4 (C : Addr) : AS' := aSeq (aIfS (aAnd (aTru (aVar 6)) (aNot (aTru (aRd fAll (aLc (aiSeq (aVar 7)) (agName 12) atYes (aFn S_law_is_int (aConsD (aVar 12) aNil)) [12]))))) (law_agrees_3_0 C) aNext) (law_agrees_0_5 C)
def law_agrees_0_3 (C : Addr) : AS' := aSeq (aIfS (aAnd (aTru (aVar 6)) (aOr (aNot (aTru (aIsi "tuple" (aVar 7)))) (aB (aOp (fIn true) (aVar 7) (aVar 6))))) (law_agrees_2_0 C) aNext) (law_agrees_0_4 C)
def law_agrees_0_2 (C : Addr) : AS' := aSeq (aIfS (aAnd (aNot (aTru (aVar 6))) (aB (aOp fNotN (aVar 7) (aC .non)))) (law_agrees_1_0 C) aNext) (law_agrees_0_3 C)
def law_agrees_0_1 (C : Addr) : AS' := aSeq (aSet 7 (aFn (S_same_kind C) (aConsD (aVar 3) (aConsD (aVar 4) aNil)))) (law_agrees_0_2 C)
def law_agrees_0_0 (C : Addr) : AS' := aSeq (aSet 6 (aFn S_law_maps (aConsD (aVar 1) (aConsD (aVar 2) aNil)))) (law_agrees_0_1 C)
def a_law_agrees (C : Addr) : AS' := law_agrees_0_0 C
/-- _law_begin(script): 0=script 1=cells 2=cell -/
def B_law_begin : Nat → Bool := fun i => false
def law_begin_1_0 : AS' := (aDrop (aMut 1 (aConsD (aIf (aB (aOp fGe (aVar 2) (aC (.int 0)))) (aOp fMul (aC (.int 2)) (aVar 2)) (aOp fAdd (aOp fMul (aNeg (aC (.int 2))) (aVar 2)) (aC (.int 1)))) aNil) fAppend))
def law_begin_0_2 : AS' := (aRet B_law_begin (aDisp [((aC (.str "cells")), (aVar 1)), ((aC (.str "at")), (aC (.int 0))), ((aC (.str "rest")), (aC (.int 0))), ((aC (.str "turn")), (aC (.int 0))), ((aC (.str "seed")), (aC (.int 1)))]))
def law_begin_0_1 : AS' := aSeq (aFor (aiSeq (aSl (aVar 0) aoNone (aoSome (aC (.int 63))))) (agName 2) law_begin_1_0) law_begin_0_2
def law_begin_0_0 : AS' := aSeq (aSet 1 (aLst aNil)) law_begin_0_1
def a_law_begin : AS' := law_begin_0_0
/-- Body.__init__(self, rows, nots, spans, wide): 0=self 1=rows 2=nots 3=spans 4=wide -/
def B_Body_init : Nat → Bool := fun i => i == 0
def Body_init_0_3 (C : Addr) : AS' := (aFldSet 0 C "wide" (aVar 4))
def Body_init_0_2 (C : Addr) : AS' := aSeq (aFldSet 0 C "spans" (aVar 3)) (Body_init_0_3 C)
def Body_init_0_1 (C : Addr) : AS' := aSeq (aFldSet 0 C "nots" (aVar 2)) (Body_init_0_2 C)
def Body_init_0_0 (C : Addr) : AS' := aSeq (aFldSet 0 C "rows" (aVar 1)) (Body_init_0_1 C)
def a_Body_init (C : Addr) : AS' := Body_init_0_0 C
/-- _law_body_of(case, nots): 0=case 1=nots -/
def B_law_body_of : Nat → Bool := fun i => false
def law_body_of_0_0 (C : Addr) : AS' := (aRet B_law_body_of (aMake C (S_Body_init C) (aConsD (aOp fIx (aVar 0) (aC (.int 0))) (aConsD (aVar 1) (aConsD (aRd fDict (aOp fIx (aVar 0) (aC (.int 1)))) (aConsD (aOp fIx (aVar 0) (aC (.int 2))) aNil))))))
def a_law_body_of (C : Addr) : AS' := law_body_of_0_0 C
/-- _law_whole(rows, cells, wide): 0=rows 1=cells 2=wide 3=met 4=held 5=term -/
def B_law_whole : Nat → Bool := fun i => false
def law_whole_1_0 : AS' := (aAsg (aGet (aVar 1) (aVar 5) (aTup (aConsD (aC (.int 0)) (aConsD (aC (.int 1000)) aNil)))) (agSub (aVar 4) (aVar 5)))
def law_whole_0_4 : AS' := (aRet B_law_whole (aTup (aConsD (aRd fTuple (aVar 0)) (aConsD (aVar 4) (aConsD (aRd fTuple (aLc (aiSeq (aVar 2)) (agName 5) atYes (aIf (aOr (aB (aOp fGe (aVar 5) (aC (.int 0)))) (aB (aOp (fIn false) (aVar 5) (aVar 3)))) (aVar 5) (aC (.int 50))) [5])) aNil)))))
def law_whole_0_3 : AS' := aSeq (aFor (aiSeq (aVar 3)) (agName 5) law_whole_1_0) law_whole_0_4
def law_whole_0_2 : AS' := aSeq (aSet 4 aNewK) law_whole_0_3
def law_whole_0_1 : AS' := aSeq (aSet 3 (aFn S_law_variables (aCons (aVar 0) aNil))) law_whole_0_2
def law_whole_0_0 : AS' := aSeq (aSet 0 (aFn S_law_unlike (aConsD (aVar 0) aNil))) law_whole_0_1
def a_law_whole : AS' := law_whole_0_0
/-- _law_drawn(d, tables, many, menu): 0=d 1=tables 2=many 3=menu 4=pool 5=rows 6=turn 7=cells 8=term 9=longest 10=wide 11=terms 12=place 13=name 14=width -/
def B_law_drawn : Nat → Bool := fun i => i == 0
def law_drawn_2_0 : AS' := (aDrop (aMut 11 (aConsD (aIf (aB (aOp fEq (aFn S_law_draw (aCons (aVar 0) (aConsD (aC (.int 8)) aNil))) (aC (.int 0)))) (aFn S_law_pick (aCons (aVar 0) (aConsD (aLst (aConsD (aC (.int 50)) (aConsD (aC (.int 150)) aNil))) aNil))) (aFn S_law_pick (aCons (aVar 0) (aCons (aVar 4) aNil)))) aNil) fAppend))
def law_drawn_1_3 : AS' := (aDrop (aMut 5 (aConsD (aTup (aConsD (aVar 13) (aConsD (aRd fTuple (aVar 11)) aNil))) aNil) fAppend))
def law_drawn_1_2 : AS' := aSeq (aFor (aiRange1 (aConsD (aVar 14) aNil)) (agName 12) law_drawn_2_0) law_drawn_1_3
def law_drawn_1_1 : AS' := aSeq (aSet 11 (aLst aNil)) law_drawn_1_2
def law_drawn_1_0 : AS' := aSeq (aAsg (aFn S_law_pick (aCons (aVar 0) (aCons (aVar 1) aNil))) (agTup 2 (agCons (agName 13) (agCons (agName 14) agNil)))) law_drawn_1_1
def law_drawn_3_0 : AS' := (aAsg (aFn S_law_pick (aCons (aVar 0) (aCons (aVar 3) aNil))) (agSub (aVar 7) (aVar 8)))
def law_drawn_0_7 : AS' := (aRet B_law_drawn (aFn S_law_whole (aConsD (aVar 5) (aConsD (aVar 7) (aConsD (aVar 10) aNil)))))
def law_drawn_0_6 : AS' := aSeq (aSet 10 (aLc (aiRange1 (aConsD (aFn S_law_draw (aCons (aVar 0) (aConsD (aVar 9) aNil))) aNil)) (agName 6) atYes (aIf (aB (aOp fGt (aFn S_law_draw (aCons (aVar 0) (aConsD (aC (.int 6)) aNil))) (aC (.int 0)))) (aFn S_law_pick (aCons (aVar 0) (aCons (aVar 4) aNil))) (aC (.int 50))) [6])) law_drawn_0_7
def law_drawn_0_5 : AS' := aSeq (aSet 9 (aCall fMin2 (aConsD (aC (.int 9)) (aConsD (aOp fAdd (aC (.int 3)) (aOp fDiv (aVar 2) (aC (.int 2)))) aNil)))) law_drawn_0_6
def law_drawn_0_4 : AS' := aSeq (aFor (aiSeq (aVar 4)) (agName 8) law_drawn_3_0) law_drawn_0_5
def law_drawn_0_3 : AS' := aSeq (aSet 7 aNewK) law_drawn_0_4
def law_drawn_0_2 : AS' := aSeq (aFor (aiRange1 (aConsD (aVar 2) aNil)) (agName 6) law_drawn_1_0) law_drawn_0_3
def law_drawn_0_1 : AS' := aSeq (aSet 5 (aLst aNil)) law_drawn_0_2
def law_drawn_0_0 : AS' := aSeq (aSet 4 (aSl (aLst (aConsD (aNeg (aC (.int 1))) (aConsD (aNeg (aC (.int 2))) (aConsD (aNeg (aC (.int 3))) (aConsD (aNeg (aC (.int 4))) (aConsD (aNeg (aC (.int 5))) aNil)))))) aoNone (aoSome (aOp fAdd (aC (.int 1)) (aFn S_law_draw (aCons (aVar 0) (aConsD (aC (.int 5)) aNil))))))) law_drawn_0_1
def a_law_drawn : AS' := law_drawn_0_0
/-- _law_exchanged(d, case, names): 0=d 1=case 2=names 3=told 4=term 5=mixed 6=rows 7=cells 8=wide 9=row -/
def B_law_exchanged : Nat → Bool := fun i => i == 0
def law_exchanged_1_0 : AS' := (aAsg (aOp fIx (aVar 7) (aVar 4)) (agSub (aVar 3) (aOp fIx (aVar 2) (aVar 4))))
def law_exchanged_0_4 : AS' := (aRet B_law_exchanged (aTup (aConsD (aRd fTuple (aVar 5)) (aConsD (aVar 3) (aConsD (aFn S_law_laid (aConsD (aVar 8) (aConsD (aVar 2) aNil))) aNil)))))
def law_exchanged_0_3 : AS' := aSeq (aSet 5 (aFn S_law_mixed (aCons (aVar 0) (aConsD (aLc (aiSeq (aVar 6)) (agName 9) atYes (aTup (aConsD (aOp fIx (aVar 9) (aC (.int 0))) (aConsD (aFn S_law_laid (aConsD (aOp fIx (aVar 9) (aC (.int 1))) (aConsD (aVar 2) aNil))) aNil))) [9]) aNil)))) law_exchanged_0_4
def law_exchanged_0_2 : AS' := aSeq (aFor (aiSeq (aVar 7)) (agName 4) law_exchanged_1_0) law_exchanged_0_3
def law_exchanged_0_1 : AS' := aSeq (aSet 3 aNewK) law_exchanged_0_2
def law_exchanged_0_0 : AS' := aSeq (aAsg (aVar 1) (agTup 3 (agCons (agName 6) (agCons (agName 7) (agCons (agName 8) agNil))))) law_exchanged_0_1
def a_law_exchanged : AS' := law_exchanged_0_0
/-- _law_names(d, many): 0=d 1=many 2=letters 3=told 4=place 5=name 6=turn -/
def B_law_names : Nat → Bool := fun i => i == 0
def law_names_1_1 : AS' := (aDrop (aMut 3 (aConsD (aOp fAdd (aOp fAdd (aVar 5) (aC (.str "q"))) (aOp fIx (aVar 2) (aOp fMod (aVar 4) (aC (.int 26))))) aNil) fAppend))
def law_names_1_0 : AS' := aSeq (aSet 5 (aJoin "" (aLc (aiRange1 (aConsD (aFn S_law_draw (aCons (aVar 0) (aConsD (aC (.int 4)) aNil))) aNil)) (agName 6) atYes (aFn S_law_pick (aCons (aVar 0) (aCons (aVar 2) aNil))) [6]))) law_names_1_1
def law_names_0_3 : AS' := (aRet B_law_names (aVar 3))
def law_names_0_2 : AS' := aSeq (aFor (aiRange1 (aConsD (aVar 1) aNil)) (agName 4) law_names_1_0) law_names_0_3
def law_names_0_1 : AS' := aSeq (aSet 3 (aLst aNil)) law_names_0_2
def law_names_0_0 : AS' := aSeq (aSet 2 (aC (.str "abcdefghijklmnopqrstuvwxyz"))) law_names_0_1
def a_law_names : AS' := law_names_0_0
/-- _law_some(d, row, least): 0=d 1=row 2=least 3=told 4=thing -/
def B_law_some : Nat → Bool := fun i => i == 0
def law_some_2_0 : AS' := (aDrop (aMut 3 (aConsD (aVar 4) aNil) fAppend))
def law_some_1_0 : AS' := (aIfS (aAnd (aB (aOp fLt (aRd fLen (aVar 3)) (aVar 2))) (aB (aOp (fIn true) (aVar 4) (aVar 3)))) law_some_2_0 aNext)
def law_some_0_2 : AS' := (aRet B_law_some (aLc (aiSeq (aVar 1)) (agName 4) (aB (aOp (fIn false) (aVar 4) (aVar 3))) (aVar 4) [4]))
def law_some_0_1 : AS' := aSeq (aFor (aiSeq (aVar 1)) (agName 4) law_some_1_0) law_some_0_2
def law_some_0_0 : AS' := aSeq (aSet 3 (aLc (aiSeq (aVar 1)) (agName 4) (aB (aOp fEq (aFn S_law_draw (aCons (aVar 0) (aConsD (aC (.int 2)) aNil))) (aC (.int 1)))) (aVar 4) [4])) law_some_0_1
def a_law_some : AS' := law_some_0_0
/-- _law_turned(d, case, way, tables, menu): 0=d 1=case 2=way 3=tables 4=menu 5=met 6=at 7=rows 8=cells 9=wide 10=place 11=name 12=terms 13=one 14=other 15=width -/
def B_law_turned : Nat → Bool := fun i => i == 0
def law_turned_1_2 : AS' := (aAsg (aTup (aConsD (aVar 11) (aConsD (aOp fAdd (aOp fAdd (aSl (aVar 12) aoNone (aoSome (aVar 10))) (aTup (aConsD (aFn S_law_pick (aCons (aVar 0) (aCons (aVar 5) aNil))) aNil))) (aSl (aVar 12) (aoSome (aOp fAdd (aVar 10) (aC (.int 1)))) aoNone)) aNil))) (agSub (aVar 7) (aVar 6)))
def law_turned_1_1 : AS' := aSeq (aSet 10 (aFn S_law_draw (aCons (aVar 0) (aConsD (aRd fLen (aVar 12)) aNil)))) law_turned_1_2
def law_turned_1_0 : AS' := aSeq (aAsg (aOp fIx (aVar 7) (aVar 6)) (agTup 2 (agCons (agName 11) (agCons (agName 12) agNil)))) law_turned_1_1
def law_turned_3_1 : AS' := (aAsg (aTup (aConsD (aOp fIx (aVar 8) (aVar 14)) (aConsD (aOp fIx (aVar 8) (aVar 13)) aNil))) (agTup 2 (agCons (agSub (aVar 8) (aVar 13)) (agCons (agSub (aVar 8) (aVar 14)) agNil))))
def law_turned_3_0 : AS' := aSeq (aAsg (aSl (aFn S_law_mixed (aCons (aVar 0) (aConsD (aSl (aVar 5) aoNone (aoSome (aNeg (aC (.int 1))))) aNil))) aoNone (aoSome (aC (.int 2)))) (agTup 2 (agCons (agName 13) (agCons (agName 14) agNil)))) law_turned_3_1
def law_turned_5_1 : AS' := (aSet 9 (aOp fAdd (aOp fAdd (aSl (aVar 9) aoNone (aoSome (aVar 10))) (aLst (aConsD (aFn S_law_pick (aCons (aVar 0) (aCons (aVar 5) aNil))) aNil))) (aSl (aVar 9) (aoSome (aOp fAdd (aVar 10) (aC (.int 1)))) aoNone)))
def law_turned_5_0 : AS' := aSeq (aSet 10 (aFn S_law_draw (aCons (aVar 0) (aConsD (aOp fAdd (aRd fLen (aVar 9)) (aC (.int 1))) aNil)))) law_turned_5_1
def law_turned_7_0 : AS' := (aDrop (aMut 7 (aConsD (aVar 6) aNil) fPopAt))
def law_turned_9_1 : AS' := (aDrop (aMut 7 (aConsD (aTup (aConsD (aVar 11) (aConsD (aRd fTuple (aLc (aiRange1 (aConsD (aVar 15) aNil)) (agName 10) atYes (aFn S_law_pick (aCons (aVar 0) (aCons (aVar 5) aNil))) [10])) aNil))) aNil) fAppend))
def law_turned_9_0 : AS' := aSeq (aAsg (aFn S_law_pick (aCons (aVar 0) (aCons (aVar 3) aNil))) (agTup 2 (agCons (agName 11) (agCons (agName 15) agNil)))) law_turned_9_1
def law_turned_11_0 : AS' := (aAsg (aFn S_law_pick (aCons (aVar 0) (aCons (aVar 4) aNil))) (agSub (aVar 8) (aFn S_law_pick (aCons (aVar 0) (aConsD (aSl (aVar 5) aoNone (aoSome (aNeg (aC (.int 1))))) aNil)))))
def law_turned_10_0 : AS' := (aIfS (aB (aOp fGt (aRd fLen (aVar 5)) (aC (.int 1)))) law_turned_11_0 aNext)
def law_turned_8_0 : AS' := (aIfS (aB (aOp fEq (aVar 2) (aC (.int 5)))) law_turned_9_0 law_turned_10_0)
def law_turned_6_0 : AS' := (aIfS (aAnd (aB (aOp fEq (aVar 2) (aC (.int 4)))) (aB (aOp fGt (aRd fLen (aVar 7)) (aC (.int 1))))) law_turned_7_0 law_turned_8_0)
def law_turned_4_0 : AS' := (aIfS (aB (aOp fEq (aVar 2) (aC (.int 3)))) law_turned_5_0 law_turned_6_0)
def law_turned_2_0 : AS' := (aIfS (aAnd (aB (aOp fEq (aVar 2) (aC (.int 2)))) (aB (aOp fGt (aRd fLen (aVar 5)) (aC (.int 2))))) law_turned_3_0 law_turned_4_0)
def law_turned_0_4 : AS' := (aRet B_law_turned (aFn S_law_whole (aConsD (aVar 7) (aConsD (aVar 8) (aConsD (aVar 9) aNil)))))
def law_turned_0_3 : AS' := aSeq (aIfS (aB (aOp fEq (aVar 2) (aC (.int 1)))) law_turned_1_0 law_turned_2_0) law_turned_0_4
def law_turned_0_2 : AS' := aSeq (aSet 6 (aFn S_law_draw (aCons (aVar 0) (aConsD (aRd fLen (aVar 7)) aNil)))) law_turned_0_3
def law_turned_0_1 : AS' := aSeq (aSet 5 (aOp fAdd (aFn S_law_variables (aCons (aVar 7) aNil)) (aLst (aConsD (aC (.int 50)) aNil)))) law_turned_0_2
def law_turned_0_0 : AS' := aSeq (aPar [7, 8, 9] (anCons (aRd fList (aOp fIx (aVar 1) (aC (.int 0)))) (anCons (aRd fDict (aOp fIx (aVar 1) (aC (.int 1)))) (anCons (aRd fList (aOp fIx (aVar 1) (aC (.int 2)))) aNil)))) law_turned_0_1
def a_law_turned : AS' := law_turned_0_0
/-- law(script): 0=script 1=d 2=letters 3=tables 4=menu 5=many 6=case 7=mine 8=numbers 9=names 10=back 11=place 12=other 13=made 14=gone 15=turned 16=nots 17=first 18=second 19=third 20=before 21=row 22=term -/
def B_law : Nat → Bool := fun i => false
def law_1_1 (C : Addr) : AS' := (aAsg (aOp fIx (aVar 7) (aVar 11)) (agSub (aVar 10) (aOp fIx (aVar 8) (aVar 11))))
def law_1_0 (C : Addr) : AS' := aSeq (aAsg (aOp fIx (aVar 8) (aVar 11)) (agSub (aVar 9) (aOp fIx (aVar 7) (aVar 11)))) (law_1_1 C)
def law_2_0 (C : Addr) : AS' := (aRet B_law (aC (.bl false)))
def law_3_0 (C : Addr) : AS' := (aRet B_law (aC (.bl false)))
def law_4_0 (C : Addr) : AS' := (aRet B_law (aC (.bl false)))
def law_5_0 (C : Addr) : AS' := (aRet B_law (aC (.bl false)))
def law_0_24 (C : Addr) : AS' := (aRet B_law (aOp fEq (aTup (aConsD (aMeth C "tree" (S_Body_tree C) (aFrz (aVar 17)) aNil) (aConsD (aMeth C "tree" (S_Body_tree C) (aFrz (aVar 18)) aNil) (aConsD (aMeth C "tree" (S_Body_tree C) (aFrz (aVar 19)) aNil) aNil)))) (aVar 20)))
def law_0_23 (C : Addr) : AS' := aSeq (aIfS (aNot (aTru (aFn (S_law_agrees C) (aCons (aVar 1) (aConsD (aVar 12) (aConsD (aVar 6) (aConsD (aVar 18) (aConsD (aVar 17) (aConsD (aVar 14) aNil))))))))) (law_5_0 C) aNext) (law_0_24 C)
def law_0_22 (C : Addr) : AS' := aSeq (aIfS (aNot (aTru (aFn (S_law_agrees C) (aCons (aVar 1) (aConsD (aVar 15) (aConsD (aVar 6) (aConsD (aVar 19) (aConsD (aVar 17) (aConsD (aVar 14) aNil))))))))) (law_4_0 C) aNext) (law_0_23 C)
def law_0_21 (C : Addr) : AS' := aSeq (aIfS (aNot (aTru (aFn (S_law_agrees C) (aCons (aVar 1) (aConsD (aVar 6) (aConsD (aVar 15) (aConsD (aVar 17) (aConsD (aVar 19) (aConsD (aVar 13) aNil))))))))) (law_3_0 C) aNext) (law_0_22 C)
def law_0_20 (C : Addr) : AS' := aSeq (aIfS (aNot (aTru (aFn (S_law_agrees C) (aCons (aVar 1) (aConsD (aVar 6) (aConsD (aVar 12) (aConsD (aVar 17) (aConsD (aVar 18) (aConsD (aVar 13) aNil))))))))) (law_2_0 C) aNext) (law_0_21 C)
def law_0_19 (C : Addr) : AS' := aSeq (aSet 20 (aTup (aConsD (aMeth C "tree" (S_Body_tree C) (aFrz (aVar 17)) aNil) (aConsD (aMeth C "tree" (S_Body_tree C) (aFrz (aVar 18)) aNil) (aConsD (aMeth C "tree" (S_Body_tree C) (aFrz (aVar 19)) aNil) aNil))))) (law_0_20 C)
def law_0_18 (C : Addr) : AS' := aSeq (aSet 19 (aFn (S_law_body_of C) (aConsD (aVar 15) (aConsD (aTup aNil) aNil)))) (law_0_19 C)
def law_0_17 (C : Addr) : AS' := aSeq (aSet 18 (aFn (S_law_body_of C) (aConsD (aVar 12) (aConsD (aTup aNil) aNil)))) (law_0_18 C)
def law_0_16 (C : Addr) : AS' := aSeq (aSet 17 (aFn (S_law_body_of C) (aConsD (aVar 6) (aConsD (aRd fTuple (aFn S_law_unlike (aConsD (aVar 16) aNil))) aNil)))) (law_0_17 C)
def law_0_15 (C : Addr) : AS' := aSeq (aSet 16 (aRd fTuple (aSl (aFn S_law_some (aCons (aVar 1) (aConsD (aLc (aiSeq (aOp fIx (aVar 6) (aC (.int 0)))) (agName 21) atYes (aTup (aConsD (aOp fIx (aVar 21) (aC (.int 0))) (aConsD (aRd fTuple (aLc (aiSeq (aOp fIx (aVar 21) (aC (.int 1)))) (agName 22) atYes (aC (.int 50)) [22])) aNil))) [21]) (aConsD (aC (.int 0)) aNil)))) aoNone (aoSome (aC (.int 2)))))) (law_0_16 C)
def law_0_14 (C : Addr) : AS' := aSeq (aSet 15 (aFn S_law_turned (aCons (aVar 1) (aConsD (aVar 12) (aConsD (aFn S_law_draw (aCons (aVar 1) (aConsD (aC (.int 7)) aNil))) (aConsD (aVar 3) (aConsD (aVar 4) aNil))))))) (law_0_15 C)
def law_0_13 (C : Addr) : AS' := aSeq (aSet 14 (aFn S_law_laid (aConsD (aFn S_law_variables (aConsD (aOp fIx (aVar 12) (aC (.int 0))) aNil)) (aConsD (aVar 10) aNil)))) (law_0_14 C)
def law_0_12 (C : Addr) : AS' := aSeq (aSet 13 (aFn S_law_laid (aConsD (aVar 7) (aConsD (aVar 9) aNil)))) (law_0_13 C)
def law_0_11 (C : Addr) : AS' := aSeq (aSet 12 (aFn S_law_exchanged (aCons (aVar 1) (aConsD (aVar 6) (aConsD (aVar 9) aNil))))) (law_0_12 C)
def law_0_10 (C : Addr) : AS' := aSeq (aFor (aiRange1 (aConsD (aRd fLen (aVar 7)) aNil)) (agName 11) (law_1_0 C)) (law_0_11 C)
def law_0_9 (C : Addr) : AS' := aSeq (aSet 10 aNewK) (law_0_10 C)
def law_0_8 (C : Addr) : AS' := aSeq (aSet 9 aNewK) (law_0_9 C)
def law_0_7 (C : Addr) : AS' := aSeq (aSet 8 (aFn S_law_mixed (aCons (aVar 1) (aConsD (aLst (aConsD (aNeg (aC (.int 1))) (aConsD (aNeg (aC (.int 2))) (aConsD (aNeg (aC (.int 3))) (aConsD (aNeg (aC (.int 4))) (aConsD (aNeg (aC (.int 5))) (aConsD (aNeg (aC (.int 6))) (aConsD (aNeg (aC (.int 7))) (aConsD (aNeg (aC (.int 8))) aNil))))))))) aNil)))) (law_0_8 C)
def law_0_6 (C : Addr) : AS' := aSeq (aSet 7 (aFn S_law_variables (aConsD (aOp fIx (aVar 6) (aC (.int 0))) aNil))) (law_0_7 C)
def law_0_5 (C : Addr) : AS' := aSeq (aSet 6 (aFn S_law_drawn (aCons (aVar 1) (aConsD (aVar 3) (aConsD (aVar 5) (aConsD (aVar 4) aNil)))))) (law_0_6 C)
def law_0_4 (C : Addr) : AS' := aSeq (aSet 5 (aIf (aB (aOp fEq (aFn S_law_draw (aCons (aVar 1) (aConsD (aC (.int 6)) aNil))) (aC (.int 0)))) (aOp fAdd (aC (.int 4)) (aFn S_law_draw (aCons (aVar 1) (aConsD (aC (.int 12)) aNil)))) (aOp fAdd (aC (.int 1)) (aFn S_law_draw (aCons (aVar 1) (aConsD (aC (.int 4)) aNil)))))) (law_0_5 C)
def law_0_3 (C : Addr) : AS' := aSeq (aSet 4 (aFn S_law_pick (aCons (aVar 1) (aConsD (aLst (aConsD (aLst (aConsD (aTup (aConsD (aC (.int 0)) (aConsD (aC (.int 1000)) aNil))) aNil)) (aConsD (aLst (aConsD (aTup (aConsD (aC (.int 0)) (aConsD (aC (.int 100)) aNil))) (aConsD (aTup (aConsD (aC (.int 100)) (aConsD (aC (.int 1000)) aNil))) aNil))) (aConsD (aLst (aConsD (aTup (aConsD (aC (.int 0)) (aConsD (aC (.int 100)) aNil))) (aConsD (aTup (aConsD (aC (.int 100)) (aConsD (aC (.int 300)) aNil))) (aConsD (aTup (aConsD (aC (.int 300)) (aConsD (aC (.int 1000)) aNil))) aNil)))) aNil)))) aNil)))) (law_0_4 C)
def law_0_2 (C : Addr) : AS' := aSeq (aSet 3 (aLst (aConsD (aTup (aConsD (aOp fIx (aVar 2) (aC (.int 0))) (aConsD (aOp fAdd (aC (.int 1)) (aFn S_law_draw (aCons (aVar 1) (aConsD (aC (.int 3)) aNil)))) aNil))) (aConsD (aTup (aConsD (aOp fIx (aVar 2) (aC (.int 1))) (aConsD (aOp fAdd (aC (.int 1)) (aFn S_law_draw (aCons (aVar 1) (aConsD (aC (.int 4)) aNil)))) aNil))) aNil)))) (law_0_3 C)
def law_0_1 (C : Addr) : AS' := aSeq (aSet 2 (aFn S_law_names (aCons (aVar 1) (aConsD (aC (.int 2)) aNil)))) (law_0_2 C)
def law_0_0 (C : Addr) : AS' := aSeq (aSet 1 (aFn S_law_begin (aConsD (aVar 0) aNil))) (law_0_1 C)
def a_law (C : Addr) : AS' := law_0_0 C
end AL
namespace AL
open PySem L2
/-! P1: the draws. -/
def BodyOk (n m : Nat) (B : Nat → Bool) (a : AS') (S : ASp) : Prop := ∀ avs R, S avs R → avs.length = n ∧ (∀ (i : Nat) (d : D), avs[i]? = some (.own d) → B i = true) ∧ a { nx := fun env => R (.dat .non) (outs avs env), rt := fun r env => (∀ i, r ≠ .at i) ∧ R r (outs avs env) } (start0 m avs)
theorem nat_ (x : D) (i : Nat) : RV.dat x ≠ .at i := fun z => by cases z
theorem new_ (x : D) (i : Nat) : RV.new x ≠ .at i := fun z => by cases z
/-- the own check: slot 0 alone -/
theorem own0 {d : D} {ds : List D} {B : Nat → Bool} (h : B 0 = true) : ∀ (i : Nat) (e : D), (AV.own d :: ds.map AV.dat)[i]? = some (.own e) → B i = true
  | 0, _, _ => h
  | i + 1, e, q => by
    rw [List.getElem?_cons_succ, List.getElem?_map] at q
    cases w : ds[i]? with
    | none => rw [w] at q; cases q
    | some x => rw [w] at q; cases q
theorem ownN {ds : List D} {B : Nat → Bool} : ∀ (i : Nat) (e : D), (ds.map AV.dat)[i]? = some (.own e) → B i = true := fun i e q => by
  rw [List.getElem?_map] at q
  cases w : ds[i]? with
  | none => rw [w] at q; cases q
  | some x => rw [w] at q; cases q
theorem n_ca : ¬ ("cells" : Str) = "at" := by decide +kernel
theorem n_cr : ¬ ("cells" : Str) = "rest" := by decide +kernel
theorem n_ct : ¬ ("cells" : Str) = "turn" := by decide +kernel
theorem n_cs : ¬ ("cells" : Str) = "seed" := by decide +kernel
theorem n_ar : ¬ ("at" : Str) = "rest" := by decide +kernel
theorem n_at : ¬ ("at" : Str) = "turn" := by decide +kernel
theorem n_as : ¬ ("at" : Str) = "seed" := by decide +kernel
theorem n_rt : ¬ ("rest" : Str) = "turn" := by decide +kernel
theorem n_rs : ¬ ("rest" : Str) = "seed" := by decide +kernel
theorem n_ts : ¬ ("turn" : Str) = "seed" := by decide +kernel
theorem dr {cs : List Int} {a r t s : Int} (hc : ∀ c ∈ cs, (0 : Int) ≤ c) (ha : 0 ≤ a) (hr : 0 ≤ r) (ht : 0 ≤ t) (hs : 0 ≤ s) : Dr (drD cs a r t s) := ⟨cs, a, r, t, s, rfl, hc, ha, hr, ht, hs⟩
section
variable {cs : List Int} {a r t s z : Int} {F : RV → Prop} {env : AEnv} {N : AEnv → Prop} {j : Nat}
theorem ix_cells (h : F (.dat (.lst (cs.map D.int)))) : fIx (drD cs a r t s) (.str "cells") F := ix_dic (z := .lst (cs.map D.int)) rfl (by simp [drK, dGet]) h
theorem ix_at (h : F (.dat (.int a))) : fIx (drD cs a r t s) (.str "at") F := ix_dic (z := .int a) rfl (by simp [drK, dGet, n_ca]) h
theorem ix_rest (h : F (.dat (.int r))) : fIx (drD cs a r t s) (.str "rest") F := ix_dic (z := .int r) rfl (by simp [drK, dGet, n_cr, n_ar]) h
theorem ix_turn (h : F (.dat (.int t))) : fIx (drD cs a r t s) (.str "turn") F := ix_dic (z := .int t) rfl (by simp [drK, dGet, n_ct, n_at, n_rt]) h
theorem ix_seed (h : F (.dat (.int s))) : fIx (drD cs a r t s) (.str "seed") F := ix_dic (z := .int s) rfl (by simp [drK, dGet, n_cs, n_as, n_rs, n_ts]) h
theorem sz5 : (5 : Nat) < sizeLine := by rw [PySem.sizeLine_eq]; omega
theorem set_at (e : env[j]? = some (.own (drD cs a r t s))) (h : N (env.set j (.own (drD cs z r t s)))) : setAt j (.str "at") (.int z) env N := by
  unfold setAt
  rw [e]
  refine ⟨rfl, sz5, ?_⟩
  simpa [dPutK, dPutW, dPutV, drK, drD, n_ca, n_ar, n_at, n_as, Ne.symm n_ar, Ne.symm n_at, Ne.symm n_as] using h
theorem set_rest (e : env[j]? = some (.own (drD cs a r t s))) (h : N (env.set j (.own (drD cs a z t s)))) : setAt j (.str "rest") (.int z) env N := by
  unfold setAt
  rw [e]
  refine ⟨rfl, sz5, ?_⟩
  simpa [dPutK, dPutW, dPutV, drK, drD, n_cr, n_ar, n_rt, n_rs, Ne.symm n_rt, Ne.symm n_rs] using h
theorem set_turn (e : env[j]? = some (.own (drD cs a r t s))) (h : N (env.set j (.own (drD cs a r z s)))) : setAt j (.str "turn") (.int z) env N := by
  unfold setAt
  rw [e]
  refine ⟨rfl, sz5, ?_⟩
  simpa [dPutK, dPutW, dPutV, drK, drD, n_ct, n_at, n_rt, n_ts, Ne.symm n_ts] using h
theorem set_seed (e : env[j]? = some (.own (drD cs a r t s))) (h : N (env.set j (.own (drD cs a r t z)))) : setAt j (.str "seed") (.int z) env N := by
  unfold setAt
  rw [e]
  refine ⟨rfl, sz5, ?_⟩
  simpa [dPutK, dPutW, dPutV, drK, drD, n_cs, n_as, n_rs, n_ts] using h
end
theorem p_law_draw : BodyOk 2 4 B_law_draw a_law_draw S_law_draw := by
  rintro _ R ⟨_, many, rfl, ⟨cs, a, r, t, s, rfl, hc, ha, hr, ht, hs⟩, hm, hm2, k⟩
  refine ⟨rfl, own0 (ds := [_]) rfl, ?_⟩
  have fin : ∀ a' s', 0 ≤ a' → 0 ≤ s' → ∀ env : AEnv, (env = [.own (drD cs a' r (t + 1) s'), .dat (.int many), .un, .un] ∨ ∃ c, env = [.own (drD cs a' r (t + 1) s'), .dat (.int many), .un, .dat (.int c)]) →
      law_draw_0_3 { nx := fun env => R (.dat .non) (outs [.own (drD cs a r t s), .dat (.int many)] env), rt := fun r0 env => (∀ i, r0 ≠ .at i) ∧ R r0 (outs [.own (drD cs a r t s), .dat (.int many)] env) } env := by
    intro a' s' ha' hs' env he
    rcases he with rfl | ⟨c, rfl⟩ <;>
    · conv => whnf
      refine ix_seed ?_
      conv => whnf
      refine ix_turn ?_
      conv => whnf
      refine ⟨.inr (by omega), ?_⟩
      conv => whnf
      refine ⟨.inr (by omega), ?_⟩
      conv => whnf
      refine ⟨by omega, ?_⟩
      conv => whnf
      refine ⟨⟨by omega, by omega⟩, ?_⟩
      conv => whnf
      refine ⟨.inr (by omega), ?_⟩
      conv => whnf
      refine ⟨by omega, ?_⟩
      conv => whnf
      refine ⟨hm, ?_⟩
      conv => whnf
      exact ⟨nat_ _, k _ _ (Int.emod_nonneg _ (by omega)) (Int.emod_lt_of_pos _ hm) (dr hc ha' hr (by omega) hs')⟩
  conv => whnf
  refine ix_turn ?_
  conv => whnf
  refine set_turn rfl ?_
  conv => whnf
  refine ix_rest ?_
  conv => whnf
  refine brI (fun h => ?_) (fun h => ?_)
  · conv => whnf
    refine ix_rest ?_
    conv => whnf
    refine ⟨hm, ?_⟩
    conv => whnf
    refine ix_rest ?_
    conv => whnf
    refine ⟨⟨hm, hm2⟩, ?_⟩
    conv => whnf
    refine set_rest rfl ?_
    conv => whnf
    exact ⟨nat_ _, k _ _ (Int.emod_nonneg _ (by omega)) (Int.emod_lt_of_pos _ hm) (dr hc ha (Int.ediv_nonneg hr (by omega)) (by omega) hs)⟩
  · conv => whnf
    refine ix_at ?_
    conv => whnf
    refine ix_cells ?_
    conv => whnf
    refine brI (fun h2 => ?_) (fun h2 => ?_)
    · have hlt : a < (cs.length : Int) := by simpa using h2
      obtain ⟨c, ec⟩ : ∃ c, cs[a.toNat]? = some c := ⟨cs[a.toNat]'(by omega), List.getElem?_eq_getElem (by omega)⟩
      have hcc : 0 ≤ c := hc c (List.mem_of_getElem? ec)
      conv => whnf
      refine ix_cells ?_
      conv => whnf
      refine ix_at ?_
      conv => whnf
      refine ix_lst ha (by rw [List.getElem?_map, ec]; rfl) ?_
      conv => whnf
      refine ix_at ?_
      conv => whnf
      refine set_at rfl ?_
      conv => whnf
      refine ⟨⟨by omega, by omega, by omega⟩, ?_⟩
      conv => whnf
      refine brI (fun h3 => ?_) (fun h3 => ?_)
      · conv => whnf
        refine ⟨⟨by omega, by omega⟩, ?_⟩
        conv => whnf
        refine ⟨⟨hm, hm2⟩, ?_⟩
        conv => whnf
        refine set_rest rfl ?_
        conv => whnf
        refine ⟨⟨by omega, by omega⟩, ?_⟩
        conv => whnf
        refine ⟨hm, ?_⟩
        conv => whnf
        exact ⟨nat_ _, k _ _ (Int.emod_nonneg _ (by omega)) (Int.emod_lt_of_pos _ hm) (dr hc (by omega) (Int.ediv_nonneg (Int.ediv_nonneg hcc (by omega)) (by omega)) (by omega) hs)⟩
      · conv => whnf
        refine ix_seed ?_
        conv => whnf
        refine ⟨.inr (by omega), ?_⟩
        conv => whnf
        refine ⟨by omega, ?_⟩
        conv => whnf
        refine set_seed rfl ?_
        exact fin (a + 1) _ (by omega) (Int.emod_nonneg _ (by omega)) _ (.inr ⟨c, rfl⟩)
    · exact fin a s ha hs _ (.inl rfl)
/-- a draw in a def -/
theorem use_draw {env : AEnv} (j : Nat) {d : D} {many : Int} {R : RV → AEnv → Prop} (e : env[j]? = some (.own d)) (hd : Dr d) (hm : 0 < many) (hm2 : many < 1073741824) (k : ∀ r d', 0 ≤ r → r < many → Dr d' → R (.dat (.int r)) (env.set j (.own d'))) : callR S_law_draw [.at j, .dat (.int many)] env R :=
  call_lent j [.int many] e ⟨d, many, rfl, hd, hm, hm2, fun r d' h1 h2 h3 => k r d' h1 h2 h3⟩
end AL
namespace AL
open PySem L2
/-! P2: begin, pick, mixed. -/
def cutL {α : Type} (xs : List α) (lo hi : Option Int) : List α := (xs.drop (HT.sIx xs.length 0 lo)).take (HT.sIx xs.length xs.length hi - HT.sIx xs.length 0 lo)
theorem cutD_map {α : Type} (f : α → D) (xs : List α) (lo hi : Option Int) : cutD (xs.map f) lo hi = (cutL xs lo hi).map f := by
  unfold cutD cutL
  rw [List.length_map, List.map_take, List.map_drop]
theorem sz_le {n : Nat} (h : n ≤ 16777216) : n ≤ sizeLine := by rw [PySem.sizeLine_eq]; exact h
theorem sz_of {n : Nat} (h : n ≤ sizeLine) : n ≤ 16777216 := by rw [PySem.sizeLine_eq] at h; exact h
theorem sz_lt {n : Nat} (h : n < 16777216) : n < sizeLine := by rw [PySem.sizeLine_eq]; exact h
theorem seq_items {d : D} {l : List D} (h : seqOf d = some l) : d = .lst l ∨ d = .tup l := by
  cases d <;> first | (cases h; exact .inl rfl) | (cases h; exact .inr rfl) | cases h
theorem p_law_begin : BodyOk 1 3 B_law_begin a_law_begin S_law_begin := by
  rintro _ R ⟨ns, rfl, k⟩
  refine ⟨rfl, ownN (ds := [_]), ?_⟩
  conv => whnf
  refine ⟨Nat.zero_le _, ?_⟩
  conv => whnf
  rw [cutD_map]
  intro hl
  refine for_ind (Iv := fun items env => ∃ (cs ms : List Int) (x : AV), items = ms.map D.int ∧ env = [.dat (.scr (ns.map D.int)), .own (.lst (cs.map D.int)), x] ∧ (∀ c ∈ cs, (0 : Int) ≤ c) ∧ cs.length + items.length ≤ 16777216) ?_ ?_ _ _ ⟨[], _, .un, rfl, rfl, (fun c hc => nomatch hc), by simpa using sz_of hl⟩
  · rintro env ⟨cs, ms, x, _, rfl, hc, _⟩
    conv => whnf
    refine ⟨by decide +kernel, by decide +kernel, by decide, ?_⟩
    conv => whnf
    exact ⟨new_ _, k _ (dr hc (by omega) (by omega) (by omega) (by omega))⟩
  · rintro d ds env N hN ⟨cs, ms, x, e, rfl, hc, hz⟩
    obtain ⟨m, r, rfl, rfl, rfl⟩ := map_cons_inv e.symm
    rw [List.length_cons] at hz
    have put : ∀ v : Int, 0 ≤ v → (cs.map D.int).length < sizeLine ∧ N [.dat (.scr (ns.map D.int)), .own (.lst (cs.map D.int ++ [.int v])), .dat (.int m)] := fun v hv => by
      refine ⟨by rw [List.length_map]; exact sz_lt (by omega), hN _ ⟨cs ++ [v], r, _, rfl, by rw [List.map_append]; rfl, fun c hc' => ?_, by rw [List.length_append, List.length_singleton]; omega⟩⟩
      rcases List.mem_append.mp hc' with h | h
      · exact hc c h
      · rw [List.mem_singleton] at h
        rw [h]; exact hv
    conv => whnf
    refine ⟨⟨_, rfl⟩, ?_⟩
    conv => whnf
    refine brI (fun h => ?_) (fun h => ?_)
    · conv => whnf
      refine ⟨.inl (by omega), ?_⟩
      conv => whnf
      refine ⟨trivial, ?_⟩
      conv => whnf
      have : (0 : Int) ≤ m := by simpa using h
      exact put _ (by omega)
    · conv => whnf
      refine ⟨.inl (by omega), ?_⟩
      conv => whnf
      refine ⟨trivial, ?_⟩
      conv => whnf
      have : ¬ (0 : Int) ≤ m := by simpa using h
      exact put _ (by omega)
theorem own2 {d : D} {x : AV} {B : Nat → Bool} (h : B 0 = true) (h1 : B 1 = true) : ∀ (i : Nat) (e : D), [AV.own d, x][i]? = some (.own e) → B i = true
  | 0, _, _ => h
  | 1, _, _ => h1
  | i + 2, e, q => by cases q
theorem p_law_pick : BodyOk 2 2 B_law_pick a_law_pick S_law_pick := by
  rintro _ R ⟨d, row, l, x, rfl, hx, hd, hi, hl, hz, k⟩
  refine ⟨rfl, own2 rfl rfl, ?_⟩
  have pos : 0 < l.length := List.length_pos_iff.mpr hl
  have get : ∀ r : Int, 0 ≤ r → r < (l.length : Int) → ∃ z, l[r.toNat]? = some z ∧ z ∈ l := fun r h1 h2 => ⟨l[r.toNat]'(by omega), List.getElem?_eq_getElem (by omega), List.getElem_mem _⟩
  cases row <;> first | (cases hi; done) | skip
  · rename_i s
    have e : l = s.cps.toList.map fun c => D.str ⟨#[c]⟩ := (Option.some.inj hi).symm
    have el : s.length = l.length := by rw [e, List.length_map, Array.length_toList]; rfl
    have elc : s.cps.toList.length = l.length := by rw [e, List.length_map]
    rcases hx with rfl | rfl <;>
    · conv => whnf
      refine ⟨trivial, ?_⟩
      conv => whnf
      refine ⟨sz_le (by rw [el]; omega), ?_⟩
      conv => whnf
      refine ⟨trivial, ?_⟩
      conv => whnf
      refine use_draw 0 rfl hd (by omega) (by omega) fun r d' h1 h2 hd' => ?_
      rw [el] at h2
      obtain ⟨z, hz', mz⟩ := get r h1 h2
      rw [e, List.getElem?_map] at hz'
      cases w : s.cps.toList[r.toNat]? with
      | none => rw [w] at hz'; cases hz'
      | some c =>
        rw [w] at hz'
        cases hz'
        conv => whnf
        unfold fIx
        refine ⟨sz_le (by rw [el]; omega), c, ?_, nat_ _, k _ d' mz hd'⟩
        unfold atI
        have : ixN s.cps.toList.length r = some r.toNat := by
          unfold ixN
          rw [if_pos h1, if_pos (by omega)]
        rw [this]
        exact w
  · cases hi
    rcases hx with rfl | rfl <;>
    · conv => whnf
      refine ⟨trivial, ?_⟩
      conv => whnf
      refine ⟨trivial, ?_⟩
      conv => whnf
      refine use_draw 0 rfl hd (by omega) (by omega) fun r d' h1 h2 hd' => ?_
      obtain ⟨z, hz', mz⟩ := get r h1 h2
      conv => whnf
      refine ix_tup h1 hz' ?_
      conv => whnf
      exact ⟨nat_ _, k _ d' mz hd'⟩
  · cases hi
    rcases hx with rfl | rfl <;>
    · conv => whnf
      refine ⟨trivial, ?_⟩
      conv => whnf
      refine ⟨trivial, ?_⟩
      conv => whnf
      refine use_draw 0 rfl hd (by omega) (by omega) fun r d' h1 h2 hd' => ?_
      obtain ⟨z, hz', mz⟩ := get r h1 h2
      conv => whnf
      refine ix_lst h1 hz' ?_
      conv => whnf
      exact ⟨nat_ _, k _ d' mz hd'⟩
theorem use_pick {env : AEnv} (j : Nat) {d row : D} (l : List D) {R : RV → AEnv → Prop} (e : env[j]? = some (.own d)) (hd : Dr d) (hi : itemsOf row = some l) (hl : l ≠ []) (hz : l.length ≤ 1000000) (k : ∀ z d', z ∈ l → Dr d' → R (.dat z) (env.set j (.own d'))) : callR S_law_pick [.at j, .dat row] env R :=
  call_lent j [row] e ⟨d, row, l, .dat row, rfl, .inl rfl, hd, hi, hl, hz, fun z d' h1 h2 => k z d' h1 h2⟩
theorem call_gen {S : ASp} {rs : List RV} {env : AEnv} {R : RV → AEnv → Prop} (h : lentOk env rs) (q : S (argsE env rs) fun r avs' => R r (backE env rs avs')) : callR S rs env R := by
  unfold callR
  exact ⟨h, q⟩
theorem use_pickO {env : AEnv} (j i : Nat) {d row : D} (l : List D) {R : RV → AEnv → Prop} (e : env[j]? = some (.own d)) (e2 : env[i]? = some (.own row)) (ne : j ≠ i) (hd : Dr d) (hi : itemsOf row = some l) (hl : l ≠ []) (hz : l.length ≤ 1000000) (k : ∀ z d', z ∈ l → Dr d' → R (.dat z) ((env.set j (.own d')).set i (.own row))) : callR S_law_pick [.at j, .at i] env R := by
  refine call_gen ⟨?_, fun m hm => ?_⟩ ?_
  · show [j, i].Nodup
    exact List.nodup_cons.mpr ⟨fun h => ne (List.mem_singleton.mp h), List.nodup_cons.mpr ⟨by simp, List.nodup_nil⟩⟩
  · have hm : m ∈ [j, i] := hm
    simp only [List.mem_cons, List.not_mem_nil, or_false] at hm
    rcases hm with rfl | rfl
    · exact ⟨_, e⟩
    · exact ⟨_, e2⟩
  · simp only [argsE, e, e2]
    exact ⟨d, row, l, .own row, rfl, .inr rfl, hd, hi, hl, hz, fun z d' h1 h2 => k z d' h1 h2⟩
end AL
namespace AL
open PySem L2
/-! P3: mixed, unlike, some. -/
theorem idx_nat {n : Nat} {r : Int} (h : 0 ≤ r) (h2 : r < (n : Int)) : seqIndex? r n = some r.toNat := by
  refine (ixN_seq ?_).1
  unfold ixN
  rw [if_pos h, if_pos h2]
theorem erase_perm {α : Type} : ∀ (l : List α) (i : Nat) (h : i < l.length), (l[i] :: l.eraseIdx i).Perm l
  | a :: l, 0, h => List.Perm.refl _
  | a :: l, i + 1, h => by
    simp only [List.getElem_cons_succ, List.eraseIdx_cons_succ]
    exact (List.Perm.swap _ _ _).trans (List.Perm.cons a (erase_perm l i (by simpa using h)))
theorem range_len (n : Nat) : (rangeD 0 n).length = n := by unfold rangeD; rw [List.length_map, List.length_range]
theorem p_law_mixed : BodyOk 2 5 B_law_mixed a_law_mixed S_law_mixed := by
  rintro _ R ⟨d, row, l, rfl, hd, hi, hz, k⟩
  refine ⟨rfl, own0 (ds := [_]) rfl, ?_⟩
  have loop : ∀ env : AEnv, env = [.own d, .dat row, .own (.lst l), .own (.lst []), .un] → forL (agName 4) law_mixed_1_0 { nx := law_mixed_0_3 { nx := fun env => R (.dat .non) (outs [.own d, .dat row] env), rt := fun r env => (∀ i, r ≠ .at i) ∧ R r (outs [.own d, .dat row] env) }, rt := fun r env => (∀ i, r ≠ .at i) ∧ R r (outs [.own d, .dat row] env) } (rangeD 0 l.length) env := by
    intro env he
    refine for_ind (Iv := fun items env => ∃ (d' : D) (left told : List D) (x : AV), env = [.own d', .dat row, .own (.lst left), .own (.lst told), x] ∧ Dr d' ∧ left.length = items.length ∧ (told ++ left).Perm l) ?_ ?_ _ _ ⟨d, l, [], .un, he, hd, (range_len _).symm, List.Perm.refl _⟩
    · rintro env ⟨d', left, told, x, rfl, hd', hl, pm⟩
      conv => whnf
      refine ⟨rfl, new_ _, k _ d' ?_ hd'⟩
      have : left = [] := List.length_eq_zero_iff.mp hl
      subst this
      rwa [List.append_nil] at pm
    · rintro z ds env N hN ⟨d', left, told, x, rfl, hd', hl, pm⟩
      rw [List.length_cons] at hl
      have hl2 : told.length + left.length = l.length := by rw [← List.length_append]; exact pm.length_eq
      conv => whnf
      refine ⟨⟨_, rfl⟩, ?_⟩
      conv => whnf
      refine ⟨⟨_, rfl⟩, ?_⟩
      conv => whnf
      refine ⟨trivial, ?_⟩
      conv => whnf
      refine ⟨trivial, ?_⟩
      conv => whnf
      refine use_draw 0 rfl hd' (by omega) (by omega) fun r d2 h1 h2 hd2 => ?_
      have lt : r.toNat < left.length := by omega
      conv => whnf
      refine ⟨trivial, ?_⟩
      conv => whnf
      refine ⟨by omega, ?_⟩
      conv => whnf
      refine ⟨by omega, r.toNat, left[r.toNat]'lt, idx_nat h1 h2, List.getElem?_eq_getElem lt, ?_⟩
      conv => whnf
      refine ⟨trivial, ?_⟩
      conv => whnf
      refine ⟨sz_lt (by omega), ?_⟩
      conv => whnf
      refine hN _ ⟨d2, left.eraseIdx r.toNat, told ++ [left[r.toNat]'lt], _, rfl, hd2, ?_, ?_⟩
      · rw [List.length_eraseIdx_of_lt lt]; omega
      · refine List.Perm.trans ?_ pm
        rw [List.append_assoc]
        refine List.Perm.append_left _ ?_
        exact erase_perm left r.toNat lt
  rcases seq_items hi with rfl | rfl <;>
  · cases hi
    conv => whnf
    refine ⟨Nat.zero_le _, ?_⟩
    conv => whnf
    refine ⟨trivial, ?_⟩
    conv => whnf
    refine ⟨⟨by omega, by omega⟩, ?_⟩
    exact loop _ rfl
theorem use_mixed {env : AEnv} (j : Nat) {d row : D} (l : List D) {R : RV → AEnv → Prop} (e : env[j]? = some (.own d)) (hd : Dr d) (hi : seqOf row = some l) (hz : l.length ≤ 1000000) (k : ∀ l' d', l'.Perm l → Dr d' → R (.new (.lst l')) (env.set j (.own d'))) : callR S_law_mixed [.at j, .dat row] env R :=
  call_lent j [row] e ⟨d, row, l, rfl, hd, hi, hz, fun z d' h1 h2 => k z d' h1 h2⟩
theorem unl_in {α : Type} [DecidableEq α] : ∀ (xs told : List α), ∀ x, x ∈ unl told xs ↔ x ∈ told ∨ x ∈ xs
  | [], told, x => by
    show x ∈ told ↔ _
    simp
  | y :: xs, told, x => by
    show x ∈ unl (if y ∈ told then told else told ++ [y]) xs ↔ _
    rw [unl_in xs]
    by_cases h : y ∈ told
    · rw [if_pos h, List.mem_cons]
      constructor
      · rintro (z | z)
        · exact .inl z
        · exact .inr (.inr z)
      · rintro (z | z | z)
        · exact .inl z
        · rw [z]; exact .inl h
        · exact .inr z
    · rw [if_neg h, List.mem_append, List.mem_singleton, List.mem_cons, or_assoc]
theorem unl_len {α : Type} [DecidableEq α] : ∀ (xs told : List α), (unl told xs).length ≤ told.length + xs.length
  | [], told => by show told.length ≤ _; simp
  | y :: xs, told => by
    show (unl (if y ∈ told then told else told ++ [y]) xs).length ≤ _
    refine Nat.le_trans (unl_len xs _) ?_
    rw [List.length_cons]
    by_cases h : y ∈ told
    · rw [if_pos h]; omega
    · rw [if_neg h, List.length_append, List.length_singleton]; omega
theorem unl_nodup {α : Type} [DecidableEq α] : ∀ (xs told : List α), told.Nodup → (unl told xs).Nodup
  | [], told, h => h
  | y :: xs, told, h => by
    show (unl (if y ∈ told then told else told ++ [y]) xs).Nodup
    refine unl_nodup xs _ ?_
    by_cases m : y ∈ told
    · rw [if_pos m]; exact h
    · rw [if_neg m]
      rw [List.nodup_append]
      refine ⟨h, List.nodup_cons.mpr ⟨by simp, List.nodup_nil⟩, fun a ha b hb e => ?_⟩
      rw [List.mem_singleton] at hb
      rw [hb] at e
      rw [e] at ha
      exact m ha
theorem unl_map {α β : Type} [DecidableEq α] [DecidableEq β] {f : α → β} (inj : ∀ a b, f a = f b → a = b) : ∀ (xs told : List α), unl (told.map f) (xs.map f) = (unl told xs).map f
  | [], told => rfl
  | y :: xs, told => by
    show unl (if f y ∈ told.map f then told.map f else told.map f ++ [f y]) (xs.map f) = (unl (if y ∈ told then told else told ++ [y]) xs).map f
    by_cases h : y ∈ told
    · rw [if_pos h, if_pos (List.mem_map.mpr ⟨y, h, rfl⟩)]
      exact unl_map inj xs told
    · rw [if_neg h, if_neg fun z => by
        obtain ⟨a, ha, e⟩ := List.mem_map.mp z
        rw [inj a y e] at ha
        exact h ha]
      have := unl_map inj xs (told ++ [y])
      rw [List.map_append] at this
      exact this
theorem unl_self {α : Type} [DecidableEq α] : ∀ (xs told : List α), (told ++ xs).Nodup → unl told xs = told ++ xs
  | [], told, _ => (List.append_nil told).symm
  | y :: xs, told, h => by
    have n : y ∉ told := fun z => by
      rw [List.nodup_append] at h
      exact h.2.2 y z y List.mem_cons_self rfl
    show unl (if y ∈ told then told else told ++ [y]) xs = _
    rw [if_neg n, unl_self xs _ (by rw [List.append_assoc]; exact h), List.append_assoc]
    rfl
theorem p_law_unlike : BodyOk 1 3 B_law_unlike a_law_unlike S_law_unlike := by
  rintro _ R ⟨row, l, n, rfl, hi, hz, hn, pl, k⟩
  refine ⟨rfl, ownN (ds := [_]), ?_⟩
  have loop : ∀ env : AEnv, env = [.dat row, .own (.lst []), .un] → forL (agName 2) law_unlike_1_0 { nx := law_unlike_0_2 { nx := fun env => R (.dat .non) (outs [.dat row] env), rt := fun r env => (∀ i, r ≠ .at i) ∧ R r (outs [.dat row] env) }, rt := fun r env => (∀ i, r ≠ .at i) ∧ R r (outs [.dat row] env) } l env := by
    intro env he
    refine for_ind (Iv := fun items env => ∃ (told : List D) (x : AV), env = [.dat row, .own (.lst told), x] ∧ unl told items = unl [] l ∧ (∀ y ∈ told, y ∈ l) ∧ (∀ y ∈ items, y ∈ l) ∧ told.length + items.length ≤ l.length) ?_ ?_ _ _ ⟨[], .un, he, rfl, (fun y h => nomatch h), (fun y h => h), by simp⟩
    · rintro env ⟨told, x, rfl, e, _, _, _⟩
      have e : told = unl [] l := e
      subst e
      conv => whnf
      exact ⟨rfl, new_ _, k⟩
    · rintro z ds env N hN ⟨told, x, rfl, e, ti, ii, lz⟩
      rw [List.length_cons] at lz
      have hz' := ii z List.mem_cons_self
      have pz : Pl n z := pl z hz'
      have pt : ∀ y ∈ told, Pl n y := fun y h => pl y (ti y h)
      have e : unl (if z ∈ told then told else told ++ [z]) ds = unl [] l := e
      have ii2 : ∀ y ∈ ds, y ∈ l := fun y h => ii y (List.mem_cons_of_mem _ h)
      conv => whnf
      refine notin_lst pz pt ?_
      conv => whnf
      refine brI (fun h => ?_) (fun h => ?_)
      · have nin : ¬ z ∈ told := by simpa using h
        rw [if_neg nin] at e
        conv => whnf
        refine ⟨⟨_, rfl⟩, ?_⟩
        conv => whnf
        refine ⟨trivial, ?_⟩
        conv => whnf
        refine ⟨sz_lt (by omega), ?_⟩
        conv => whnf
        refine hN _ ⟨told ++ [z], _, rfl, e, fun y hy => ?_, ii2, by rw [List.length_append, List.length_singleton]; omega⟩
        rcases List.mem_append.mp hy with q | q
        · exact ti y q
        · rw [List.mem_singleton] at q
          rw [q]; exact hz'
      · conv => whnf
        have hin : z ∈ told := by simpa using h
        rw [if_pos hin] at e
        exact hN _ ⟨told, _, rfl, e, ti, ii2, by omega⟩
  rcases seq_items hi with rfl | rfl <;>
  · cases hi
    conv => whnf
    refine ⟨Nat.zero_le _, ?_⟩
    conv => whnf
    intro hl
    exact loop _ rfl
theorem use_unlike {env : AEnv} {row : D} (l : List D) (n : Nat) {R : RV → AEnv → Prop} (hi : seqOf row = some l) (hz : l.length ≤ 1000000) (hn : n ≤ 20) (pl : ∀ x ∈ l, Pl n x) (k : R (.new (.lst (unl [] l))) env) : callR S_law_unlike [.dat row] env R :=
  call_dats [row] ⟨row, l, n, rfl, hi, hz, hn, pl, k⟩
end AL
namespace AL
open PySem L2
/-! P4: variables. -/
/-! variables -/
theorem addVars_cons (told : List Int) (t : Int) (ts : List Int) : addVars told (t :: ts) = addVars (if t < 0 ∧ t ∉ told then told ++ [t] else told) ts := rfl
theorem addVars_len (told ts : List Int) : (addVars told ts).length ≤ told.length + ts.length := by
  induction ts generalizing told with
  | nil => exact Nat.le_refl _
  | cons t ts ih =>
    rw [addVars_cons, List.length_cons]
    by_cases c : t < 0 ∧ t ∉ told
    · rw [if_pos c]
      have := ih (told ++ [t])
      rw [List.length_append, List.length_singleton] at this
      omega
    · rw [if_neg c]
      have := ih told
      omega
theorem vars_inner {A : AEnds} {x0 x2 : AV} (told ts : List Int) (x3 : AV) (hz : told.length + ts.length ≤ 2000000) (h : ∀ x, A.nx [x0, .own (.lst ((addVars told ts).map D.int)), x2, x]) :
    forL (agName 3) law_variables_2_0 A (ts.map D.int) [x0, .own (.lst (told.map D.int)), x2, x3] := by
  refine for_ind (Iv := fun items env => ∃ (tl us : List Int) (x : AV), items = us.map D.int ∧ env = [x0, .own (.lst (tl.map D.int)), x2, x] ∧ addVars tl us = addVars told ts ∧ tl.length + us.length ≤ 2000000) ?_ ?_ _ _ ⟨told, ts, x3, rfl, rfl, rfl, hz⟩
  · rintro env ⟨tl, us, x, e, rfl, ea, hz2⟩
    cases us with
    | cons u r => cases e
    | nil =>
      have e0 : addVars tl [] = tl := rfl
      rw [e0] at ea
      rw [ea]
      exact h x
  · rintro d ds env M hM ⟨tl, us, x, e, rfl, ea, hz2⟩
    obtain ⟨t, r, rfl, rfl, rfl⟩ := map_cons_inv e.symm
    rw [List.length_cons] at hz2
    have pt : ∀ y ∈ tl.map D.int, Pl 0 y := fun y hy => by
      obtain ⟨i, _, rfl⟩ := List.mem_map.mp hy
      exact .int 0 i
    have mem : (D.int t ∈ tl.map D.int) ↔ t ∈ tl := by
      constructor
      · intro hm
        obtain ⟨i, hi, e⟩ := List.mem_map.mp hm
        cases e
        exact hi
      · exact fun hm => List.mem_map.mpr ⟨t, hm, rfl⟩
    have skip : ¬ (t < 0 ∧ t ∉ tl) → M [x0, .own (.lst (tl.map D.int)), x2, .dat (.int t)] := fun n => by
      refine hM _ ⟨tl, r, _, rfl, rfl, ?_, by omega⟩
      rw [← ea]
      rw [addVars_cons, if_neg n]
    conv => whnf
    refine brI (fun h => ?_) (fun h => ?_)
    · have lt : t < 0 := by simpa using h
      conv => whnf
      refine notin_lst (.int 0 t) pt ?_
      conv => whnf
      refine brI (fun h2 => ?_) (fun h2 => ?_)
      · have ni : t ∉ tl := fun z => by
          have := mem.mpr z
          simp [this] at h2
        conv => whnf
        refine ⟨⟨_, rfl⟩, ?_⟩
        conv => whnf
        refine ⟨trivial, ?_⟩
        conv => whnf
        refine ⟨by rw [List.length_map]; exact sz_lt (by omega), ?_⟩
        conv => whnf
        refine hM _ ⟨tl ++ [t], r, _, rfl, by rw [List.map_append]; rfl, ?_, by rw [List.length_append, List.length_singleton]; omega⟩
        rw [← ea]
        rw [addVars_cons, if_pos ⟨lt, ni⟩]
      · have hin : D.int t ∈ tl.map D.int := by simpa using h2
        conv => whnf
        exact skip fun z => z.2 (mem.mp hin)
    · conv => whnf
      rw [brP_false]
      have ge : ¬ t < 0 := by simpa using h
      exact skip fun z => ge z.1
theorem vars_outer {A : AEnds} {x0 x2 x3 : AV} (rs : List Row) (ok : RowsOk rs) (h : ∀ x y, A.nx [x0, .own (.lst ((vars rs).map D.int)), x, y]) :
    forL (agName 2) law_variables_1_0 A (rs.map rowD) [x0, .own (.lst []), x2, x3] := by
  refine for_ind (Iv := fun items env => ∃ (tl : List Int) (us : List Row) (x y : AV), items = us.map rowD ∧ env = [x0, .own (.lst (tl.map D.int)), x, y] ∧ varsFrom tl us = vars rs ∧ (∀ r ∈ us, RowOk r) ∧ tl.length + 100 * us.length ≤ 100000) ?_ ?_ _ _ ⟨[], rs, x2, x3, rfl, rfl, rfl, ok.2, by have := ok.1; simp only [List.length_nil]; omega⟩
  · rintro env ⟨tl, us, x, y, e, rfl, ea, _, hz2⟩
    cases us with
    | cons u r => cases e
    | nil =>
      have e0 : varsFrom tl [] = tl := rfl
      rw [e0] at ea
      rw [ea]
      exact h x y
  · rintro d ds env M hM ⟨tl, us, x, y, e, rfl, ea, hok, hz2⟩
    obtain ⟨r, q, rfl, rfl, rfl⟩ := map_cons_inv e.symm
    rw [List.length_cons] at hz2
    have rok := hok r List.mem_cons_self
    have al := addVars_len tl r.2
    have l100 := rok.2
    conv => whnf
    refine ix_tup (by omega) rfl ?_
    conv => whnf
    intro _
    refine vars_inner tl r.2 y (by omega) fun x => hM _ ⟨addVars tl r.2, q, _, _, rfl, rfl, ?_, fun z hz => hok z (List.mem_cons_of_mem _ hz), by omega⟩
    rw [← ea]
    rfl
theorem own1 {x : AV} {B : Nat → Bool} (h : B 0 = true) : ∀ (i : Nat) (e : D), [x][i]? = some (.own e) → B i = true
  | 0, _, _ => h
  | i + 1, e, q => by cases q
theorem p_law_variables : BodyOk 1 4 B_law_variables a_law_variables S_law_variables := by
  rintro _ R ⟨row, rs, x, rfl, hx, hi, ok, k⟩
  refine ⟨rfl, own1 rfl, ?_⟩
  rcases hx with rfl | ⟨rfl, rfl⟩
  · rcases seq_items hi with rfl | rfl <;>
    · conv => whnf
      refine ⟨Nat.zero_le _, ?_⟩
      conv => whnf
      intro _
      refine vars_outer rs ok fun x y => ?_
      conv => whnf
      exact ⟨rfl, new_ _, k⟩
  · conv => whnf
    refine ⟨Nat.zero_le _, ?_⟩
    conv => whnf
    intro _
    refine vars_outer rs ok fun x y => ?_
    conv => whnf
    exact ⟨rfl, new_ _, k⟩
theorem use_variables {env : AEnv} {row : D} (rs : List Row) {R : RV → AEnv → Prop} (hi : seqOf row = some (rs.map rowD)) (ok : RowsOk rs) (k : R (.new (.lst ((vars rs).map D.int))) env) : callR S_law_variables [.dat row] env R :=
  call_dats [row] ⟨row, rs, .dat row, rfl, .inl rfl, hi, ok, k⟩
theorem use_variablesO {env : AEnv} (j : Nat) (rs : List Row) {R : RV → AEnv → Prop} (e : env[j]? = some (.own (.lst (rs.map rowD)))) (ok : RowsOk rs) (k : R (.new (.lst ((vars rs).map D.int))) (env.set j (.own (.lst (rs.map rowD))))) : callR S_law_variables [.at j] env R :=
  call_lent j [] e ⟨_, rs, .own (.lst (rs.map rowD)), rfl, .inr ⟨rfl, rfl⟩, rfl, ok, k⟩
end AL
namespace AL
open PySem L2
/-! P5: the object, names, small laws. -/
section
variable {C : Addr} {t : Tree}
theorem fldD_eq {f : Str} {ns : List Str} {l : List D} : fldD C f (.obj C ns l) = (ns.zip l).lookup f := if_pos rfl
theorem fld_rows : fldD C "rows" (objD C t) = some (.tup (t.rows.map rowD)) := by
  unfold objD
  rw [fldD_eq]
  rfl
theorem n_rn : (("nots" : Str) == "rows") = false := by decide +kernel
theorem n_sr : (("spans" : Str) == "rows") = false := by decide +kernel
theorem n_sn : (("spans" : Str) == "nots") = false := by decide +kernel
theorem n_wr : (("wide" : Str) == "rows") = false := by decide +kernel
theorem n_wn : (("wide" : Str) == "nots") = false := by decide +kernel
theorem n_ws : (("wide" : Str) == "spans") = false := by decide +kernel
theorem fld_nots : fldD C "nots" (objD C t) = some (.tup (t.nots.map rowD)) := by
  unfold objD
  rw [fldD_eq]
  simp [List.zip, List.zipWith, List.lookup, n_rn]
theorem fld_spans : fldD C "spans" (objD C t) = some (.dic (t.spans.map fun s => D.int s.1) (t.spans.map fun s => D.tup [.int s.2.1, .int s.2.2])) := by
  unfold objD
  rw [fldD_eq]
  simp [List.zip, List.zipWith, List.lookup, n_sr, n_sn, celD]
theorem fld_wide : fldD C "wide" (objD C t) = some (tmD t.wide) := by
  unfold objD
  rw [fldD_eq]
  simp [List.zip, List.zipWith, List.lookup, n_wr, n_wn, n_ws]
end
theorem sz2 {a b : D} : [a, b].length ≤ sizeLine := sz_le (by simp)
theorem sz3 {a b c : D} : [a, b, c].length ≤ sizeLine := sz_le (by simp)
theorem sz4 {a b c d : D} : [a, b, c, d].length ≤ sizeLine := sz_le (by simp)
theorem m_rn : ¬ ("rows" : Str) = "nots" := by decide +kernel
theorem m_rs : ¬ ("rows" : Str) = "spans" := by decide +kernel
theorem m_ns : ¬ ("nots" : Str) = "spans" := by decide +kernel
theorem m_rw : ¬ ("rows" : Str) = "wide" := by decide +kernel
theorem m_nw : ¬ ("nots" : Str) = "wide" := by decide +kernel
theorem m_sw : ¬ ("spans" : Str) = "wide" := by decide +kernel
theorem oPut_len (f : Str) (d : D) : ∀ (ns : List Str) (l : List D), (oPut f d ns l).1.length ≤ ns.length + 1
  | [], _ => by simp [oPut]
  | g :: ns, [] => by simp [oPut]
  | g :: ns, u :: l => by
    unfold oPut
    split
    · simp
    · have := oPut_len f d ns l
      simpa using this
theorem p_Body_init {C : Addr} : BodyOk 5 5 B_Body_init (a_Body_init C) (S_Body_init C) := by
  rintro _ R ⟨a, b, c, e, rfl, k⟩
  refine ⟨rfl, own0 (ds := [_, _, _, _]) rfl, ?_⟩
  conv => whnf
  have e1 : oPut "rows" a [] [] = ((["rows"] : List Str), [a]) := rfl
  have e2 : oPut "nots" b ["rows"] [a] = ((["rows", "nots"] : List Str), [a, b]) := by simp [oPut, m_rn]
  have e3 : oPut "spans" c ["rows", "nots"] [a, b] = ((["rows", "nots", "spans"] : List Str), [a, b, c]) := by simp [oPut, m_rs, m_ns]
  have e4 : oPut "wide" e ["rows", "nots", "spans"] [a, b, c] = ((["rows", "nots", "spans", "wide"] : List Str), [a, b, c, e]) := by simp [oPut, m_rw, m_nw, m_sw]
  refine ⟨rfl, by decide, ?_⟩
  rw [e1]
  conv => whnf
  refine ⟨rfl, by simp, ?_⟩
  rw [e2]
  conv => whnf
  refine ⟨rfl, by simp, ?_⟩
  rw [e3]
  conv => whnf
  refine ⟨rfl, by simp, ?_⟩
  rw [e4]
  exact k
theorem get_spans {x : Int} : ∀ (us : List Span), dGet (us.map fun s => D.int s.1) (us.map fun s => D.tup [.int s.2.1, .int s.2.2]) (.int x) = (us.find? fun s => s.1 == x).map fun s => D.tup [.int s.2.1, .int s.2.2]
  | [] => rfl
  | s :: us => by
    simp only [List.map_cons, dGet, List.find?_cons]
    by_cases e : s.1 = x
    · have e3 : (s.1 == x) = true := by simpa using e
      rw [e3, if_pos (by rw [e])]
      rfl
    · have e3 : (s.1 == x) = false := by simpa using e
      rw [e3, if_neg (fun z => e (by injection z))]
      exact get_spans us
def intOf : D → Int
  | .int i => i
  | _ => 0
theorem tmD_pl (ts : List Int) : Pl 1 (tmD ts) := .tup fun d h => by
  obtain ⟨i, _, rfl⟩ := List.mem_map.mp h
  exact .int 0 i
theorem rowD_pl {r : Row} (ok : RowOk r) : Pl 2 (rowD r) := .tup fun d h => by
  simp only [List.mem_cons, List.not_mem_nil, or_false] at h
  rcases h with e | e
  · rw [e]; exact .str 1 ok.1
  · rw [e]; exact tmD_pl _
theorem rows_pl {rs : List Row} (ok : RowsOk rs) : ∀ x ∈ rs.map rowD, Pl 2 x := fun x h => by
  obtain ⟨r, hr, rfl⟩ := List.mem_map.mp h
  exact rowD_pl (ok.2 r hr)
theorem map_inj {xs ys : List Int} : xs.map D.int = ys.map D.int ↔ xs = ys := by
  constructor
  · intro h
    have := congrArg (List.map intOf) h
    rw [List.map_map, List.map_map] at this
    have e : (intOf ∘ D.int) = id := rfl
    rwa [e, List.map_id, List.map_id] at this
  · intro h; rw [h]
theorem tmD_inj {xs ys : List Int} : tmD xs = tmD ys ↔ xs = ys := by
  unfold tmD
  rw [D.tup.injEq]
  exact map_inj
theorem rowD_inj {r q : Row} : rowD r = rowD q ↔ r = q := by
  unfold rowD
  rw [D.tup.injEq, List.cons.injEq, List.cons.injEq, D.str.injEq, tmD_inj]
  constructor
  · rintro ⟨a, b, _⟩
    exact Prod.ext a b
  · intro h; rw [h]; exact ⟨rfl, rfl, rfl⟩
theorem row_mem {r : Row} {rs : List Row} : rowD r ∈ rs.map rowD ↔ r ∈ rs := by
  rw [List.mem_map]
  constructor
  · rintro ⟨q, h, e⟩
    rw [← rowD_inj.mp e]; exact h
  · exact fun h => ⟨r, h, rfl⟩
theorem addVars_nodup : ∀ (ts : List Int) {told : List Int}, told.Nodup → (addVars told ts).Nodup
  | [], told, h => h
  | t :: ts, told, h => by
    rw [addVars_cons]
    by_cases c : t < 0 ∧ t ∉ told
    · rw [if_pos c]
      refine addVars_nodup ts ?_
      rw [List.nodup_append]
      exact ⟨h, List.nodup_cons.mpr ⟨by simp, List.nodup_nil⟩, fun a ha b hb e => by
        rw [List.mem_singleton] at hb
        rw [e, hb] at ha
        exact c.2 ha⟩
    · rw [if_neg c]
      exact addVars_nodup ts h
theorem varsFrom_nodup : ∀ (rs : List Row) {told : List Int}, told.Nodup → (varsFrom told rs).Nodup
  | [], told, h => h
  | r :: rs, told, h => varsFrom_nodup rs (addVars_nodup r.2 h)
theorem vars_nodup (rs : List Row) : (vars rs).Nodup := varsFrom_nodup rs List.nodup_nil
theorem addVars_neg : ∀ (ts : List Int) {told : List Int}, (∀ x ∈ told, x < 0) → ∀ x ∈ addVars told ts, x < 0
  | [], told, h => h
  | t :: ts, told, h => by
    rw [addVars_cons]
    by_cases c : t < 0 ∧ t ∉ told
    · rw [if_pos c]
      refine addVars_neg ts fun x hx => ?_
      rcases List.mem_append.mp hx with q | q
      · exact h x q
      · rw [List.mem_singleton] at q
        rw [q]; exact c.1
    · rw [if_neg c]
      exact addVars_neg ts h
theorem varsFrom_neg : ∀ (rs : List Row) {told : List Int}, (∀ x ∈ told, x < 0) → ∀ x ∈ varsFrom told rs, x < 0
  | [], told, h => h
  | r :: rs, told, h => varsFrom_neg rs (addVars_neg r.2 h)
theorem vars_neg (rs : List Row) : ∀ x ∈ vars rs, x < 0 := varsFrom_neg rs fun x h => by cases h
theorem addVars_sub : ∀ (ts : List Int) {told : List Int}, ∀ x ∈ told, x ∈ addVars told ts
  | [], told, x, h => h
  | t :: ts, told, x, h => by
    rw [addVars_cons]
    by_cases c : t < 0 ∧ t ∉ told
    · rw [if_pos c]
      exact addVars_sub ts x (List.mem_append.mpr (.inl h))
    · rw [if_neg c]
      exact addVars_sub ts x h
theorem addVars_has : ∀ (ts : List Int) {told : List Int}, Has (addVars told ts) ts
  | [], told => fun x h => by cases h
  | t :: ts, told => fun x h lt => by
    rw [addVars_cons]
    rcases List.mem_cons.mp h with e | e
    · refine addVars_sub ts x ?_
      rw [e]
      rw [e] at lt
      by_cases c : t < 0 ∧ t ∉ told
      · rw [if_pos c]; simp
      · rw [if_neg c]
        exact Classical.byContradiction fun z => c ⟨lt, z⟩
    · exact addVars_has ts x e lt
theorem varsFrom_sub : ∀ (rs : List Row) {told : List Int}, ∀ x ∈ told, x ∈ varsFrom told rs
  | [], told, x, h => h
  | r :: rs, told, x, h => varsFrom_sub rs x (addVars_sub r.2 x h)
theorem varsFrom_has : ∀ (rs : List Row) {told : List Int}, ∀ r ∈ rs, Has (varsFrom told rs) r.2
  | [], told, r, h => by cases h
  | q :: rs, told, r, h => by
    rcases List.mem_cons.mp h with e | e
    · rw [e]
      exact fun x hx lt => varsFrom_sub rs x (addVars_has q.2 x hx lt)
    · exact varsFrom_has rs r e
theorem vars_has (rs : List Row) : ∀ r ∈ rs, Has (vars rs) r.2 := varsFrom_has rs
theorem varsFrom_len : ∀ (rs : List Row) {told : List Int}, (∀ r ∈ rs, RowOk r) → (varsFrom told rs).length ≤ told.length + 100 * rs.length
  | [], told, _ => by show told.length ≤ _; omega
  | r :: rs, told, h => by
    have h1 := addVars_len told r.2
    have h2 := varsFrom_len rs (told := addVars told r.2) fun q hq => h q (List.mem_cons_of_mem _ hq)
    have h3 := (h r List.mem_cons_self).2
    show (varsFrom (addVars told r.2) rs).length ≤ _
    rw [List.length_cons]
    omega
theorem vars_len {rs : List Row} (ok : RowsOk rs) : (vars rs).length ≤ 100000 := by
  have := varsFrom_len rs (told := []) ok.2
  have h := ok.1
  unfold vars
  rw [List.length_nil] at this
  omega
theorem set_dic {ks vs : List D} {x v : D} {env : AEnv} {j : Nat} {N : AEnv → Prop} (e : env[j]? = some (.own (.dic ks vs))) (hk : isKey x = true) (nx : x ∉ ks) (hz : ks.length < 1000000) (h : N (env.set j (.own (.dic (ks ++ [x]) (vs ++ [v]))))) : setAt j x v env N := by
  unfold setAt
  rw [e]
  refine ⟨hk, sz_lt (by omega), ?_⟩
  unfold dPutK dPutW
  rw [if_neg nx, if_neg nx]
  exact h
theorem sub_map {α β : Type} {f : α → β} : ∀ {xs : List α} {l : List β}, l.Sublist (xs.map f) → ∃ ys : List α, l = ys.map f ∧ ys.Sublist xs
  | [], l, h => by
    have := List.sublist_nil.mp h
    exact ⟨[], this, List.Sublist.refl _⟩
  | x :: xs, l, h => by
    cases h with
    | cons _ h =>
      obtain ⟨ys, e, s⟩ := sub_map h
      exact ⟨ys, e, s.cons _⟩
    | cons_cons _ h =>
      obtain ⟨ys, e, s⟩ := sub_map h
      exact ⟨x :: ys, by rw [e]; rfl, s.cons_cons _⟩
theorem outs_ints {P : Int → Prop} {S : D → Option D → Prop} (h : ∀ y z, S y (some z) → ∃ t, P t ∧ z = .int t) : ∀ {ds zs : List D}, Outs S ds zs → ∃ ts : List Int, zs = ts.map D.int ∧ (∀ t ∈ ts, P t) ∧ ts.length ≤ ds.length
  | _, _, .nil => ⟨[], rfl, (fun y h => nomatch h), Nat.le_refl _⟩
  | _, _, .yes s o => by
    obtain ⟨ts, rfl, ok, hl⟩ := outs_ints h o
    obtain ⟨t, ht, rfl⟩ := h _ _ s
    refine ⟨t :: ts, rfl, fun y hy => ?_, Nat.succ_le_succ hl⟩
    rcases List.mem_cons.mp hy with e | e
    · rw [e]; exact ht
    · exact ok y e
  | _, _, .no s o => by
    obtain ⟨ts, e, ok, hl⟩ := outs_ints h o
    exact ⟨ts, e, ok, Nat.le_succ_of_le hl⟩
theorem outs_ex {α : Type} {f : α → D} {P : α → Prop} {S : D → Option D → Prop} (h : ∀ y oz, S y oz → ∃ a, P a ∧ oz = some (f a)) : ∀ {ds zs : List D}, Outs S ds zs → ∃ as : List α, zs = as.map f ∧ (∀ a ∈ as, P a) ∧ as.length = ds.length
  | _, _, .nil => ⟨[], rfl, (fun y h => nomatch h), rfl⟩
  | _, _, .yes s o => by
    obtain ⟨ts, rfl, ok, hl⟩ := outs_ex h o
    obtain ⟨t, ht, e⟩ := h _ _ s
    cases e
    refine ⟨t :: ts, rfl, fun y hy => ?_, by simp [hl]⟩
    rcases List.mem_cons.mp hy with e | e
    · rw [e]; exact ht
    · exact ok y e
  | _, _, .no s o => by
    obtain ⟨t, ht, e⟩ := h _ _ s
    cases e
theorem perm_ex {α : Type} {f : α → D} {l m : List D} (p : l.Perm m) : ∀ xs : List α, m = xs.map f → ∃ ys : List α, l = ys.map f ∧ ys.Perm xs := by
  induction p with
  | nil =>
    intro xs e
    cases xs with
    | nil => exact ⟨[], rfl, .nil⟩
    | cons a r => cases e
  | cons x p ih =>
    intro xs e
    obtain ⟨a, r, rfl, rfl, rfl⟩ := map_cons_inv e.symm
    obtain ⟨ys, rfl, q⟩ := ih r rfl
    exact ⟨a :: ys, rfl, q.cons a⟩
  | swap x y l =>
    intro xs e
    obtain ⟨a, r, rfl, rfl, e2⟩ := map_cons_inv e.symm
    obtain ⟨b, r, rfl, rfl, rfl⟩ := map_cons_inv e2
    exact ⟨b :: a :: r, rfl, .swap a b r⟩
  | trans p q ih1 ih2 =>
    intro xs e
    obtain ⟨ys, rfl, p2⟩ := ih2 xs e
    obtain ⟨zs, rfl, p1⟩ := ih1 ys rfl
    exact ⟨zs, rfl, p1.trans p2⟩
theorem sz1 {a : D} : [a].length ≤ sizeLine := sz_le (by simp)
theorem range_D (n : Nat) : rangeD 0 n = (List.range' 0 n).map fun j : Nat => D.int (0 + (j : Int)) := by
  unfold rangeD
  rw [List.range_eq_range']
theorem strOk_add {x y : Str} (h1 : PyData.strOk x = true) (h2 : PyData.strOk y = true) : PyData.strOk (x ++ y) = true := by
  show (x.cps ++ y.cps).all _ = true
  rw [Array.all_append]
  unfold PyData.strOk at h1 h2
  rw [h1, h2]
  rfl
theorem len_add (x y : Str) : (x ++ y).length = x.length + y.length := by
  show (x.cps ++ y.cps).size = _
  rw [Array.size_append]
  rfl
theorem join_ok : ∀ {ys : List Str}, (∀ y ∈ ys, PyData.strOk y = true ∧ y.length = 1) → PyData.strOk (Txt.join "" ys) = true ∧ (Txt.join "" ys).length = ys.length := by
  intro ys h
  have e : Txt.join "" ys = Str.join "" ys := StrLaws.glued_eq_join "" ys
  rw [e]
  induction ys with
  | nil => exact ⟨by decide +kernel, by decide +kernel⟩
  | cons a r ih =>
    cases r with
    | nil => exact h a List.mem_cons_self
    | cons b q =>
      have := ih (fun y hy => h y (List.mem_cons_of_mem _ hy)) (StrLaws.glued_eq_join "" (b :: q))
      obtain ⟨a1, a2⟩ := h a List.mem_cons_self
      show PyData.strOk (a ++ "" ++ Str.join "" (b :: q)) = true ∧ (a ++ "" ++ Str.join "" (b :: q)).length = _
      refine ⟨strOk_add (strOk_add a1 (by decide +kernel)) this.1, ?_⟩
      rw [len_add, len_add, this.2, a2]
      have : ("" : Str).length = 0 := by decide +kernel
      rw [this]
      simp only [List.length_cons]
      omega
def letD : Str := "abcdefghijklmnopqrstuvwxyz"
theorem let_len : letD.cps.toList.length = 26 := by decide +kernel
theorem let_ok : ∀ c ∈ letD.cps.toList, PyData.strOk ⟨#[c]⟩ = true := by decide +kernel
theorem outs_strs {S : D → Option D → Prop} (h : ∀ y z, S y (some z) → ∃ c ∈ letD.cps.toList, z = .str ⟨#[c]⟩) : ∀ {ds zs : List D}, Outs S ds zs → ∃ ys : List Str, zs = ys.map D.str ∧ (∀ y ∈ ys, PyData.strOk y = true ∧ y.length = 1) ∧ ys.length ≤ ds.length
  | _, _, .nil => ⟨[], rfl, (fun y h => nomatch h), Nat.le_refl _⟩
  | _, _, .yes s o => by
    obtain ⟨ys, rfl, ok, hl⟩ := outs_strs h o
    obtain ⟨c, hc, rfl⟩ := h _ _ s
    refine ⟨⟨#[c]⟩ :: ys, rfl, fun y hy => ?_, Nat.succ_le_succ hl⟩
    rcases List.mem_cons.mp hy with e | e
    · rw [e]; exact ⟨let_ok c hc, rfl⟩
    · exact ok y e
  | _, _, .no s o => by
    obtain ⟨ys, e, ok, hl⟩ := outs_strs h o
    exact ⟨ys, e, ok, Nat.le_succ_of_le hl⟩
theorem sum_ones : ∀ {ys : List Str}, (∀ y ∈ ys, PyData.strOk y = true ∧ y.length = 1) → (ys.map (·.length)).sum = ys.length
  | [], _ => rfl
  | y :: ys, h => by
    rw [List.map_cons, List.sum_cons, sum_ones fun z hz => h z (List.mem_cons_of_mem _ hz), (h y List.mem_cons_self).2, List.length_cons]
    omega
/-! names -/
theorem last_add (x : Str) (c : Nat) : lastC (x ++ ⟨#[c]⟩) = some c := by
  show (x.cps ++ #[c]).toList.getLast? = some c
  rw [Array.toList_append]
  exact List.getLast?_concat
theorem let_nd : letD.cps.toList.Nodup := by decide +kernel
theorem p_law_names : BodyOk 2 7 B_law_names a_law_names S_law_names := by
  rintro _ R ⟨d, many, rfl, hd, h0, h9, k⟩
  refine ⟨rfl, own0 (ds := [_]) rfl, ?_⟩
  conv => whnf
  repeat (refine ⟨trivial, ?_⟩; conv => whnf)
  refine ⟨Nat.zero_le _, ?_⟩
  conv => whnf
  repeat (refine ⟨trivial, ?_⟩; conv => whnf)
  refine ⟨⟨by omega, by omega⟩, ?_⟩
  rw [range_D]
  refine for_ind (Iv := fun items env => ∃ (d' : D) (ns : List Str) (left : Nat) (x4 x5 : AV), items = (List.range' ns.length left).map (fun j : Nat => D.int (0 + (j : Int))) ∧ env = [.own d', .dat (.int many), .dat (.str letD), .own (.lst (ns.map D.str)), x4, x5, .un] ∧ Dr d' ∧ ns.length + left = many.toNat ∧ (∀ x ∈ ns, PyData.strOk x = true) ∧ ns.map lastC = (letD.cps.toList.take ns.length).map some) ?_ ?_ _ _ ⟨d, [], many.toNat, .un, .un, rfl, rfl, hd, (by simp), (fun x h => nomatch h), rfl⟩
  · rintro env ⟨d', ns, left, x4, x5, e, rfl, hd', hl, ok, lc⟩
    have l0 : left = 0 := by
      have := congrArg List.length e
      rw [List.length_map, List.length_range'] at this
      exact this.symm
    have nd : ns.Nodup := by
      have h : (ns.map lastC).Nodup := by
        rw [lc]
        exact List.Pairwise.map some (fun a b h e => h (Option.some.inj e)) (let_nd.sublist (List.take_sublist _ _))
      exact List.Pairwise.of_map lastC (fun _ _ hne e => hne (congrArg lastC e)) h
    conv => whnf
    repeat (refine ⟨trivial, ?_⟩; conv => whnf)
    exact ⟨rfl, new_ _, k ns d' (by omega) ok nd hd'⟩
  · rintro y ds env M hM ⟨d', ns, left, x4, x5, e, rfl, hd', hl, ok, lc⟩
    obtain ⟨lf, rfl⟩ : ∃ lf, left = lf + 1 := by
      cases left with
      | zero => cases e
      | succ n => exact ⟨n, rfl⟩
    rw [List.range'_succ, List.map_cons] at e
    injection e with e1 e2
    subst e1
    subst e2
    have n26 : ns.length < 26 := by omega
    conv => whnf
    repeat (refine ⟨trivial, ?_⟩; conv => whnf)
    refine use_draw 0 rfl hd' (by omega) (by omega) fun r d2 h1 h2 hd2 => ?_
    conv => whnf
    repeat (refine ⟨trivial, ?_⟩; conv => whnf)
    refine ⟨⟨by omega, by omega⟩, ?_⟩
    refine ⟨noOwn_one (x := .un) rfl (fun e z => by cases z), sz_le (by rw [range_len]; omega), ?_⟩
    refine lc_ind (Ev := fun env => ∃ d3, Dr d3 ∧ env = [.own d3, .dat (.int many), .dat (.str letD), .own (.lst (ns.map D.str)), .dat (.int (0 + (ns.length : Int))), x5, .un]) (Stp := fun y oz => ∀ z, oz = some z → ∃ c ∈ letD.cps.toList, z = .str ⟨#[c]⟩) _ ?_ _ _ ⟨d2, hd2, rfl⟩ ?_
    · rintro y hy _ K ⟨d3, hd3, rfl⟩ hK
      conv => whnf
      repeat (refine ⟨trivial, ?_⟩; conv => whnf)
      rw [brP_true]
      conv => whnf
      repeat (refine ⟨trivial, ?_⟩; conv => whnf)
      refine use_pick 0 (letD.cps.toList.map fun c => D.str ⟨#[c]⟩) rfl hd3 rfl ?_ ?_ fun z d4 mz hd4 => ?_
      · intro e
        have := congrArg List.length e
        rw [List.length_map, let_len] at this
        cases this
      · rw [List.length_map, let_len]; omega
      · obtain ⟨c, hc, rfl⟩ := List.mem_map.mp mz
        conv => whnf
        repeat (refine ⟨trivial, ?_⟩; conv => whnf)
        exact hK _ _ ⟨d4, hd4, rfl⟩ fun z e => ⟨c, hc, (Option.some.inj e).symm⟩
    · rintro zs _ o ⟨d3, hd3, rfl⟩
      obtain ⟨ys, rfl, yok, yl⟩ := outs_strs (fun y z h => h z rfl) o
      rw [range_len] at yl
      obtain ⟨j1, j2⟩ := join_ok yok
      conv => whnf
      repeat (refine ⟨trivial, ?_⟩; conv => whnf)
      have l0 : ("" : Str).length = 0 := by decide +kernel
      have lq : ("q" : Str).length = 1 := by decide +kernel
      refine ⟨ys, rfl, by rw [sum_ones yok, l0]; omega, ?_⟩
      conv => whnf
      repeat (refine ⟨trivial, ?_⟩; conv => whnf)
      refine ⟨⟨_, rfl⟩, ?_⟩
      conv => whnf
      repeat (refine ⟨trivial, ?_⟩; conv => whnf)
      refine ⟨sz_le (by rw [j2, lq]; omega), ?_⟩
      conv => whnf
      repeat (refine ⟨trivial, ?_⟩; conv => whnf)
      refine ⟨by omega, ?_⟩
      conv => whnf
      repeat (refine ⟨trivial, ?_⟩; conv => whnf)
      unfold fIx
      have hm : (0 + (ns.length : Int)) % 26 = (ns.length : Int) := by omega
      have lt : ns.length < letD.cps.toList.length := by rw [let_len]; exact n26
      refine ⟨by decide +kernel, letD.cps.toList[ns.length], ?_, ?_⟩
      · unfold atI
        have : ixN letD.cps.toList.length ((0 + (ns.length : Int)) % 26) = some ns.length := by
          rw [hm]
          unfold ixN
          rw [if_pos (by omega), if_pos (by omega)]
          rfl
        show (ixN letD.cps.toList.length ((0 + (ns.length : Int)) % 26)).bind _ = _
        rw [this]
        exact List.getElem?_eq_getElem lt
      · conv => whnf
        repeat (refine ⟨trivial, ?_⟩; conv => whnf)
        refine ⟨sz_le (by rw [len_add, j2, lq]; show _ + 1 ≤ _; omega), ?_⟩
        conv => whnf
        repeat (refine ⟨trivial, ?_⟩; conv => whnf)
        refine ⟨by rw [List.length_map]; exact sz_lt (by omega), ?_⟩
        conv => whnf
        repeat (refine ⟨trivial, ?_⟩; conv => whnf)
        refine hM _ ⟨d3, ns ++ [Txt.join "" ys ++ "q" ++ ⟨#[letD.cps.toList[ns.length]]⟩], lf, _, _, by rw [List.length_append, List.length_singleton], by rw [List.map_append]; rfl, hd3, by rw [List.length_append, List.length_singleton]; omega, fun x hx => ?_, ?_⟩
        · rcases List.mem_append.mp hx with h | h
          · exact ok x h
          · rw [List.mem_singleton] at h
            rw [h]
            exact strOk_add (strOk_add j1 (by decide +kernel)) (let_ok _ (List.getElem_mem lt))
        · rw [List.map_append, lc, List.length_append, List.length_singleton, List.take_succ_eq_append_getElem lt, List.map_append, List.map_cons, last_add]
          rfl
theorem use_names {env : AEnv} (j : Nat) {d : D} {many : Int} {R : RV → AEnv → Prop} (e : env[j]? = some (.own d)) (hd : Dr d) (h0 : 0 ≤ many) (h9 : many ≤ 26) (k : ∀ (ns : List Str) d', ns.length = many.toNat → (∀ x ∈ ns, PyData.strOk x = true) → ns.Nodup → Dr d' → R (.new (.lst (ns.map D.str))) (env.set j (.own d'))) : callR S_law_names [.at j, .dat (.int many)] env R :=
  call_lent j [.int many] e ⟨d, many, rfl, hd, h0, h9, fun ns d' a b c e => k ns d' a b c e⟩
/-! the tree -/
theorem find_nd : ∀ {sp : List Span}, (sp.map (·.1)).Nodup → ∀ s ∈ sp, sp.find? (fun z => z.1 == s.1) = some s
  | [], _, s, h => by cases h
  | a :: sp, nd, s, h => by
    rw [List.find?_cons]
    rw [List.map_cons, List.nodup_cons] at nd
    rcases List.mem_cons.mp h with e | e
    · rw [e]; simp
    · have ne : ¬ a.1 = s.1 := fun z => nd.1 (by rw [z]; exact List.mem_map.mpr ⟨s, e, rfl⟩)
      have : (a.1 == s.1) = false := by simpa using ne
      rw [this]
      exact find_nd nd.2 s e
theorem dsort_perm (sp : List Span) : (dsort sp).Perm sp := List.mergeSort_perm _ _
theorem dsort_pw (sp : List Span) : ((dsort sp).map (·.1)).Pairwise (· ≥ ·) := by
  rw [List.pairwise_map]
  have := List.pairwise_mergeSort (le := fun a b : Span => decide (b.1 ≤ a.1)) (fun a b c h1 h2 => by
    simp only [decide_eq_true_eq] at *
    omega) (fun a b => by
    simp only [Bool.or_eq_true, decide_eq_true_eq]
    omega) sp
  exact this.imp fun h => by simpa using h
theorem ge_uniq {xs ys : List Int} (p : xs.Perm ys) (h1 : xs.Pairwise (· ≥ ·)) (h2 : ys.Pairwise (· ≥ ·)) : xs = ys :=
  List.Perm.eq_of_pairwise (le := (· ≥ ·)) (fun a b _ _ h1 h2 => by omega) h1 h2 p
theorem p_Body_tree {C : Addr} : BodyOk 1 3 B_Body_tree (a_Body_tree C) (S_Body_tree C) := by
  rintro _ R ⟨t, rfl, ok, k⟩
  refine ⟨rfl, ownN (ds := [_]), ?_⟩
  conv => whnf
  repeat (refine ⟨trivial, ?_⟩; conv => whnf)
  refine ⟨_, fld_spans, ?_⟩
  conv => whnf
  repeat (refine ⟨trivial, ?_⟩; conv => whnf)
  refine ⟨t.spans.map (·.1), by rw [List.map_map]; rfl, fun ns' pm pw => ?_⟩
  have en : ns' = (dsort t.spans).map (·.1) := ge_uniq (pm.trans ((dsort_perm t.spans).map _).symm) pw (dsort_pw _)
  rw [en]
  conv => whnf
  repeat (refine ⟨trivial, ?_⟩; conv => whnf)
  intro _
  have dl := (dsort_perm t.spans).length_eq
  refine ⟨noOwn_one (x := .un) rfl (fun e z => by cases z), sz_le (by rw [List.length_map, List.length_map]; have := ok.slen; omega), ?_⟩
  refine lc_ind (Ev := fun env => env = [.dat (objD C t), .un, .un]) (Stp := fun y oz => ∃ x : Int, y = .int x ∧ oz = some (((t.spans.find? fun z => z.1 == x).map spD).getD .non)) _ ?_ _ _ rfl ?_
  · rintro y hy _ K rfl hK
    obtain ⟨x, hx, rfl⟩ := List.mem_map.mp hy
    obtain ⟨s, hs, rfl⟩ := List.mem_map.mp hx
    have fs := find_nd ok.nd s ((dsort_perm t.spans).mem_iff.mp hs)
    conv => whnf
    repeat (refine ⟨trivial, ?_⟩; conv => whnf)
    rw [brP_true]
    conv => whnf
    repeat (refine ⟨trivial, ?_⟩; conv => whnf)
    refine ⟨_, fld_spans, ?_⟩
    conv => whnf
    repeat (refine ⟨trivial, ?_⟩; conv => whnf)
    refine ix_dic (z := .tup [.int s.2.1, .int s.2.2]) rfl (by rw [get_spans, fs]; rfl) ?_
    conv => whnf
    repeat (refine ⟨trivial, ?_⟩; conv => whnf)
    refine ix_tup (by omega) rfl ?_
    conv => whnf
    repeat (refine ⟨trivial, ?_⟩; conv => whnf)
    refine ⟨_, fld_spans, ?_⟩
    conv => whnf
    repeat (refine ⟨trivial, ?_⟩; conv => whnf)
    refine ix_dic (z := .tup [.int s.2.1, .int s.2.2]) rfl (by rw [get_spans, fs]; rfl) ?_
    conv => whnf
    repeat (refine ⟨trivial, ?_⟩; conv => whnf)
    refine ix_tup (by omega) rfl ?_
    conv => whnf
    repeat (refine ⟨trivial, ?_⟩; conv => whnf)
    refine ⟨sz3, ?_⟩
    conv => whnf
    repeat (refine ⟨trivial, ?_⟩; conv => whnf)
    exact hK _ _ rfl ⟨s.1, rfl, by rw [fs]; rfl⟩
  · rintro zs _ o rfl
    have ez := o.map (f := fun x : Int => ((t.spans.find? fun z => z.1 == x).map spD).getD .non) fun x oz ⟨u, e1, e2⟩ => by
      injection e1 with e1
      rw [e1]
      exact e2
    have e : zs = (dsort t.spans).map spD := by
      rw [ez, List.map_map]
      refine List.map_congr_left fun s hs => ?_
      show ((t.spans.find? fun z => z.1 == s.1).map spD).getD .non = _
      rw [find_nd ok.nd s ((dsort_perm t.spans).mem_iff.mp hs)]
      rfl
    rw [e]
    conv => whnf
    repeat (refine ⟨trivial, ?_⟩; conv => whnf)
    refine ⟨_, fld_rows, ?_⟩
    conv => whnf
    repeat (refine ⟨trivial, ?_⟩; conv => whnf)
    refine ⟨_, fld_nots, ?_⟩
    conv => whnf
    repeat (refine ⟨trivial, ?_⟩; conv => whnf)
    refine ⟨_, fld_wide, ?_⟩
    conv => whnf
    repeat (refine ⟨trivial, ?_⟩; conv => whnf)
    refine ⟨sz4, ?_⟩
    conv => whnf
    repeat (refine ⟨trivial, ?_⟩; conv => whnf)
    exact ⟨nat_ _, k⟩
theorem use_tree {C : Addr} {env : AEnv} (t : Tree) {R : RV → AEnv → Prop} (ok : TreeOk t) (k : R (.dat (treeD t)) env) : callR (S_Body_tree C) [.dat (objD C t)] env R :=
  call_dats [objD C t] ⟨t, rfl, ok, k⟩
end AL
namespace AL
open PySem L2
/-! P4: some, pool, names, asked, variables. -/
theorem Outs.sub {S : D → Option D → Prop} (h : ∀ d z, S d (some z) → z = d) : ∀ {ds zs : List D}, Outs S ds zs → zs.Sublist ds
  | _, _, .nil => List.Sublist.refl _
  | _, _, .yes s o => by
    rw [h _ _ s]
    exact (o.sub h).cons_cons _
  | _, _, .no s o => (o.sub h).cons _
theorem p_law_some : BodyOk 3 5 B_law_some a_law_some S_law_some := by
  rintro _ R ⟨d, row, l, n, least, rfl, hd, hi, hz, hn, pl, k⟩
  refine ⟨rfl, own0 (ds := [_, _]) rfl, ?_⟩
  have zl : l.length ≤ sizeLine := sz_le (by omega)
  -- the last comprehension
  have last : ∀ (d' : D) (told : List D) (x : AV), Dr d' → (∀ e, x ≠ .own e) → (∀ y ∈ told, y ∈ l) → told.length ≤ 3000000 → law_some_0_2 { nx := fun env => R (.dat .non) (outs [.own d, .dat row, .dat (.int least)] env), rt := fun r env => (∀ i, r ≠ .at i) ∧ R r (outs [.own d, .dat row, .dat (.int least)] env) } [.own d', .dat row, .dat (.int least), .own (.lst told), x] := by
    intro d' told x hd' nx ht hzt
    have go : ∀ env1 : AEnv, env1 = [.own d', .dat row, .dat (.int least), .own (.lst told), x] → lcL (agName 4) (aB (aOp (fIn false) (aVar 4) (aVar 3))) (aVar 4) [4] l (fun zs env2 => retR B_law_some { nx := fun env => R (.dat .non) (outs [.own d, .dat row, .dat (.int least)] env), rt := fun r env => (∀ i, r ≠ .at i) ∧ R r (outs [.own d, .dat row, .dat (.int least)] env) } (restoreE env1 env2 [4]) (.new (.lst zs))) (wipeE env1 [4]) := by
      rintro _ rfl
      refine lc_ind (Ev := fun env => env = [.own d', .dat row, .dat (.int least), .own (.lst told), .un]) (Stp := fun y oz => oz = some y ∨ oz = none) l ?_ _ _ rfl ?_
      · rintro y hy _ K rfl hK
        have pt : ∀ z ∈ told, Pl n z := fun z h => pl z (ht z h)
        conv => whnf
        refine in_lst (pl y hy) pt ?_
        conv => whnf
        refine brI (fun h => ?_) (fun h => ?_)
        · conv => whnf
          exact hK _ _ rfl (.inl rfl)
        · exact hK _ _ rfl (.inr rfl)
      · rintro zs _ o rfl
        conv => whnf
        refine ⟨new_ _, k _ _ (o.sub fun y z h => ?_) hd'⟩
        rcases h with h | h
        · exact Option.some.inj h
        · cases h
    rcases seq_items hi with rfl | rfl <;>
    · cases hi
      conv => whnf
      intro _
      refine ⟨noOwn_one (x := x) rfl nx, zl, ?_⟩
      exact go _ rfl
  have loop : ∀ (d' : D) (told : List D), Dr d' → (∀ y ∈ told, y ∈ l) → told.length ≤ 1000000 → forL (agName 4) law_some_1_0 { nx := law_some_0_2 { nx := fun env => R (.dat .non) (outs [.own d, .dat row, .dat (.int least)] env), rt := fun r env => (∀ i, r ≠ .at i) ∧ R r (outs [.own d, .dat row, .dat (.int least)] env) }, rt := fun r env => (∀ i, r ≠ .at i) ∧ R r (outs [.own d, .dat row, .dat (.int least)] env) } l [.own d', .dat row, .dat (.int least), .own (.lst told), .un] := by
    intro d' told hd' ht hzt
    refine for_ind (Iv := fun items env => ∃ (told : List D) (x : AV), env = [.own d', .dat row, .dat (.int least), .own (.lst told), x] ∧ (∀ e, x ≠ .own e) ∧ (∀ y ∈ told, y ∈ l) ∧ (∀ y ∈ items, y ∈ l) ∧ told.length + items.length ≤ 2000000) ?_ ?_ _ _ ⟨told, .un, rfl, fun e z => (by cases z), ht, fun y h => h, by omega⟩
    · rintro env ⟨told, x, rfl, nx, ht, _, hz2⟩
      exact last d' told x hd' nx ht (by omega)
    · rintro y ds env N hN ⟨told, x, rfl, nx, ht, hit, hz2⟩
      rw [List.length_cons] at hz2
      have hy : y ∈ l := hit y List.mem_cons_self
      have hit2 : ∀ z ∈ ds, z ∈ l := fun z h => hit z (List.mem_cons_of_mem _ h)
      have pt : ∀ z ∈ told, Pl n z := fun z h => pl z (ht z h)
      have nd : ∀ e, AV.dat y ≠ .own e := fun e z => by cases z
      conv => whnf
      refine brI (fun h => ?_) (fun h => ?_)
      · conv => whnf
        refine notin_lst (pl y hy) pt ?_
        conv => whnf
        refine brI (fun h => ?_) (fun h => ?_)
        · conv => whnf
          refine ⟨⟨_, rfl⟩, ?_⟩
          conv => whnf
          refine ⟨trivial, ?_⟩
          conv => whnf
          refine ⟨sz_lt (by omega), ?_⟩
          conv => whnf
          refine hN _ ⟨told ++ [y], _, rfl, nd, fun z hz => ?_, hit2, by rw [List.length_append, List.length_singleton]; omega⟩
          rcases List.mem_append.mp hz with q | q
          · exact ht z q
          · rw [List.mem_singleton] at q
            rw [q]; exact hy
        · conv => whnf
          exact hN _ ⟨told, _, rfl, nd, ht, hit2, by omega⟩
      · conv => whnf
        rw [brP_false]
        exact hN _ ⟨told, _, rfl, nd, ht, hit2, by omega⟩
  -- the first comprehension
  have first : ∀ env1 : AEnv, env1 = [.own d, .dat row, .dat (.int least), .un, .un] → lcL (agName 4) (aB (aOp fEq (aFn S_law_draw (aCons (aVar 0) (aConsD (aC (.int 2)) aNil))) (aC (.int 1)))) (aVar 4) [4] l (fun zs env2 => setR 3 (law_some_0_1 { nx := fun env => R (.dat .non) (outs [.own d, .dat row, .dat (.int least)] env), rt := fun r env => (∀ i, r ≠ .at i) ∧ R r (outs [.own d, .dat row, .dat (.int least)] env) }) (restoreE env1 env2 [4]) (.new (.lst zs))) (wipeE env1 [4]) := by
    rintro _ rfl
    refine lc_ind (Ev := fun env => ∃ d', Dr d' ∧ env = [.own d', .dat row, .dat (.int least), .un, .un]) (Stp := fun y oz => oz = some y ∨ oz = none) l ?_ _ _ ⟨d, hd, rfl⟩ ?_
    · rintro y hy _ K ⟨d', hd', rfl⟩ hK
      conv => whnf
      refine ⟨trivial, ?_⟩
      conv => whnf
      refine ⟨trivial, ?_⟩
      conv => whnf
      refine use_draw 0 rfl hd' (by omega) (by omega) fun r d2 h1 h2 hd2 => ?_
      conv => whnf
      refine eq_int ?_
      conv => whnf
      refine brI (fun h => ?_) (fun h => ?_)
      · conv => whnf
        exact hK _ _ ⟨d2, hd2, rfl⟩ (.inl rfl)
      · exact hK _ _ ⟨d2, hd2, rfl⟩ (.inr rfl)
    · rintro zs _ o ⟨d', hd', rfl⟩
      have sl := o.sub fun y z h => by
        rcases h with h | h
        · exact Option.some.inj h
        · cases h
      have lz := sl.length_le
      have lp := loop d' zs hd' (fun y h => sl.subset h) (by omega)
      rcases seq_items hi with rfl | rfl <;>
      · cases hi
        conv => whnf
        intro _
        exact lp
  rcases seq_items hi with rfl | rfl <;>
  · cases hi
    conv => whnf
    intro _
    refine ⟨noOwn_one (x := .un) rfl (fun e z => by cases z), zl, ?_⟩
    exact first _ rfl
theorem use_some {env : AEnv} (j : Nat) {d row : D} {least : Int} (l : List D) (n : Nat) {R : RV → AEnv → Prop} (e : env[j]? = some (.own d)) (hd : Dr d) (hi : seqOf row = some l) (hz : l.length ≤ 1000000) (hn : n ≤ 20) (pl : ∀ x ∈ l, Pl n x) (k : ∀ l' d', l'.Sublist l → Dr d' → R (.new (.lst l')) (env.set j (.own d'))) : callR S_law_some [.at j, .dat row, .dat (.int least)] env R :=
  call_lent j [row, .int least] e ⟨d, row, l, n, least, rfl, hd, hi, hz, hn, pl, fun z d' h1 h2 => k z d' h1 h2⟩
end AL
namespace AL
open PySem L2
/-! P7: span, variables of the object, is_int, laid. -/
theorem brT {b : Bool} {t e : Prop} (h : b = true) (k : t) : brP b t e := by subst h; rw [brP_true]; exact k
theorem brF {b : Bool} {t e : Prop} (h : b = false) (k : e) : brP b t e := by subst h; rw [brP_false]; exact k
theorem p_Body_variables {C : Addr} : BodyOk 1 4 B_Body_variables (a_Body_variables C) (S_Body_variables C) := by
  rintro _ R ⟨t, rfl, ok, k⟩
  refine ⟨rfl, ownN (ds := [_]), ?_⟩
  conv => whnf
  refine ⟨Nat.zero_le _, ?_⟩
  conv => whnf
  refine ⟨_, fld_rows, ?_⟩
  conv => whnf
  intro _
  refine vars_outer (A := { nx := _, rt := _ }) t.rows ok.rows fun x y => ?_
  conv => whnf
  exact ⟨rfl, new_ _, k⟩
theorem use_bvars {C : Addr} {env : AEnv} (t : Tree) {R : RV → AEnv → Prop} (ok : TreeOk t) (k : R (.new (.lst ((vars t.rows).map D.int))) env) : callR (S_Body_variables C) [.dat (objD C t)] env R :=
  call_dats [objD C t] ⟨t, rfl, ok, k⟩
theorem bnd_ge {sp : List Span} {x : Int} (h : 0 ≤ x) : bnd sp x = (x, x + 1) := by unfold bnd; rw [if_pos h]
theorem bnd_lt {sp : List Span} {x : Int} (h : ¬ 0 ≤ x) : bnd sp x = ((sp.find? fun s => s.1 == x).map fun s => (s.2.1, s.2.2)).getD (0, 1000) := by
  unfold bnd
  rw [if_neg h]
  cases sp.find? (fun s => s.1 == x) <;> rfl
theorem p_Body_span {C : Addr} : BodyOk 2 2 B_Body_span (a_Body_span C) (S_Body_span C) := by
  rintro _ R ⟨t, x, rfl, ok, k⟩
  refine ⟨rfl, ownN (ds := [_, _]), ?_⟩
  conv => whnf
  refine brI (fun h => ?_) (fun h => ?_)
  · have ge : 0 ≤ x := by simpa using h
    rw [bnd_ge ge] at k
    conv => whnf
    repeat (refine ⟨trivial, ?_⟩; conv => whnf)
    exact ⟨sz2, nat_ _, k⟩
  · have lt : ¬ 0 ≤ x := by simpa using h
    rw [bnd_lt lt] at k
    conv => whnf
    refine ⟨_, fld_spans, ?_⟩
    refine ⟨trivial, ?_⟩
    conv => whnf
    refine ⟨trivial, ?_⟩
    conv => whnf
    refine ⟨trivial, ?_⟩
    conv => whnf
    refine ⟨sz2, ?_⟩
    conv => whnf
    refine ⟨rfl, ?_⟩
    rw [get_spans]
    conv => whnf
    cases e : t.spans.find? (fun s => s.1 == x) with
    | none =>
      rw [e] at k
      exact ⟨nat_ _, k⟩
    | some s =>
      rw [e] at k
      exact ⟨nat_ _, k⟩
theorem use_span {C : Addr} {env : AEnv} (t : Tree) (x : Int) {R : RV → AEnv → Prop} (ok : TreeOk t) (k : R (.dat (prD (bnd t.spans x))) env) : callR (S_Body_span C) [.dat (objD C t), .dat (.int x)] env R :=
  call_dats [objD C t, .int x] ⟨t, x, rfl, ok, k⟩
theorem p_law_is_int : BodyOk 1 1 B_law_is_int a_law_is_int S_law_is_int := by
  rintro _ R ⟨i, rfl, k⟩
  refine ⟨rfl, ownN (ds := [_]), ?_⟩
  cases i with
  | int i =>
    conv => whnf
    repeat (refine ⟨trivial, ?_⟩; conv => whnf)
    refine ⟨"int", true, rfl, by decide +kernel, ?_⟩
    conv => whnf
    repeat (refine ⟨trivial, ?_⟩; conv => whnf)
    rw [brP_true]
    conv => whnf
    repeat (refine ⟨trivial, ?_⟩; conv => whnf)
    refine ⟨"int", false, rfl, by decide +kernel, ?_⟩
    conv => whnf
    repeat (refine ⟨trivial, ?_⟩; conv => whnf)
    exact ⟨nat_ _, k⟩
  | bl b =>
    conv => whnf
    repeat (refine ⟨trivial, ?_⟩; conv => whnf)
    refine ⟨"bool", true, rfl, by decide +kernel, ?_⟩
    conv => whnf
    repeat (refine ⟨trivial, ?_⟩; conv => whnf)
    rw [brP_true]
    conv => whnf
    repeat (refine ⟨trivial, ?_⟩; conv => whnf)
    refine ⟨"bool", true, rfl, by decide +kernel, ?_⟩
    conv => whnf
    repeat (refine ⟨trivial, ?_⟩; conv => whnf)
    exact ⟨nat_ _, k⟩
  | non =>
    conv => whnf
    repeat (refine ⟨trivial, ?_⟩; conv => whnf)
    refine ⟨"NoneType", false, rfl, by decide +kernel, ?_⟩
    conv => whnf
    repeat (refine ⟨trivial, ?_⟩; conv => whnf)
    rw [brP_false]
    conv => whnf
    repeat (refine ⟨trivial, ?_⟩; conv => whnf)
    exact ⟨nat_ _, k⟩
  | str x =>
    conv => whnf
    repeat (refine ⟨trivial, ?_⟩; conv => whnf)
    refine ⟨"str", false, rfl, by decide +kernel, ?_⟩
    conv => whnf
    repeat (refine ⟨trivial, ?_⟩; conv => whnf)
    rw [brP_false]
    conv => whnf
    repeat (refine ⟨trivial, ?_⟩; conv => whnf)
    exact ⟨nat_ _, k⟩
theorem p_is_whole : BodyOk 1 1 B_is_whole a_is_whole S_is_whole := p_law_is_int
theorem use_isint {env : AEnv} (i : Img) {R : RV → AEnv → Prop} (k : R (.dat (.bl (isI i))) env) : callR S_law_is_int [.dat (imD i)] env R :=
  call_dats [_] ⟨i, rfl, k⟩
end AL
namespace AL
open PySem L2
/-! P8: laid, names_from. -/
theorem get_bd {t : Int} : ∀ b : Bd, dGet (b.map fun p => D.int p.1) (b.map fun p => D.int p.2) (.int t) = (lkB b t).map D.int
  | [] => rfl
  | (k, v) :: r => by
    simp only [List.map_cons, dGet, lkB]
    by_cases e : k = t
    · rw [if_pos e, if_pos (by rw [e])]
      rfl
    · rw [if_neg e, if_neg (fun z => e (by injection z))]
      exact get_bd r
theorem lkB_none {t : Int} : ∀ {b : Bd}, lkB b t = none ↔ t ∉ b.map (·.1)
  | [] => by simp [lkB]
  | (k, v) :: r => by
    unfold lkB
    by_cases e : k = t
    · rw [if_pos e]; simp [e]
    · rw [if_neg e, lkB_none (b := r), List.map_cons, List.mem_cons]
      constructor
      · rintro h (z | z)
        · exact e z.symm
        · exact h z
      · exact fun h z => h (.inr z)
theorem lkB_some {t : Int} {b : Bd} (h : t ∈ b.map (·.1)) : ∃ v, lkB b t = some v := by
  cases e : lkB b t with
  | none => exact absurd h (lkB_none.mp e)
  | some v => exact ⟨v, rfl⟩
theorem bd_mem {t : Int} {b : Bd} : D.int t ∈ (b.map fun p => D.int p.1) ↔ t ∈ b.map (·.1) := by
  constructor
  · intro h
    obtain ⟨p, hp, e⟩ := List.mem_map.mp h
    injection e with e
    exact List.mem_map.mpr ⟨p, hp, e⟩
  · intro h
    obtain ⟨p, hp, e⟩ := List.mem_map.mp h
    exact List.mem_map.mpr ⟨p, hp, by rw [e]⟩
theorem ix_bd {b : Bd} {t : Int} {F : RV → Prop} (h : t ∈ b.map (·.1)) (f : F (.dat (.int ((lkB b t).getD 0)))) : fIx (bD b) (.int t) F := by
  obtain ⟨v, e⟩ := lkB_some h
  refine ix_dic rfl (z := .int ((lkB b t).getD 0)) ?_ f
  rw [get_bd, e]
  rfl
theorem laid_lc {ts : List Int} {b : Bd} (has : Has (b.map (·.1)) ts) {row : D} {e : AE'} {R : List D → AEnv → Prop}
    (he : ∀ (t : Int) (env : AEnv) (K : RV → AEnv → Prop), t ∈ ts → env = [.dat row, .dat (bD b), .dat (.int t)] → K (.dat (.int (if 0 ≤ t then t else (lkB b t).getD 0))) env → e env K)
    (k : R ((vl ts b).map D.int) [.dat row, .dat (bD b), .un]) : lcL (agName 2) atYes e [2] (ts.map D.int) R [.dat row, .dat (bD b), .un] := by
  refine lc_ind (Ev := fun env => env = [.dat row, .dat (bD b), .un]) (Stp := fun y oz => ∃ t : Int, y = .int t ∧ oz = some (.int (if 0 ≤ t then t else (lkB b t).getD 0))) _ ?_ _ _ rfl ?_
  · rintro y hy _ K rfl hK
    obtain ⟨t, ht, rfl⟩ := List.mem_map.mp hy
    conv => whnf
    repeat (refine ⟨trivial, ?_⟩; conv => whnf)
    rw [brP_true]
    refine he t _ _ ht rfl ?_
    exact hK _ _ rfl ⟨t, rfl, rfl⟩
  · rintro zs _ o rfl
    have ez := o.map (f := fun t => D.int (if 0 ≤ t then t else (lkB b t).getD 0)) fun t oz ⟨u, e1, e2⟩ => by
      cases e1
      exact e2
    have e : zs = (vl ts b).map D.int := by
      rw [ez]
      unfold vl
      rw [List.map_map]
      rfl
    rw [e]
    exact k
theorem p_law_laid : BodyOk 2 3 B_law_laid a_law_laid S_law_laid := by
  rintro _ R ⟨row, ts, b, rfl, hi, hz, bo, has, k⟩
  refine ⟨rfl, ownN (ds := [_, _]), ?_⟩
  rcases seq_items hi with rfl | rfl <;>
  · conv => whnf
    repeat (refine ⟨trivial, ?_⟩; conv => whnf)
    intro _
    refine ⟨noOwn_one (x := .un) rfl (fun e z => by cases z), sz_le (by rw [List.length_map]; omega), ?_⟩
    refine laid_lc has (fun t env K ht he hK => ?_) ?_
    · subst he
      conv => whnf
      repeat (refine ⟨trivial, ?_⟩; conv => whnf)
      refine brI (fun h => ?_) (fun h => ?_)
      · have ge : 0 ≤ t := by simpa using h
        rw [if_pos ge] at hK
        exact hK
      · have lt : ¬ 0 ≤ t := by simpa using h
        rw [if_neg lt] at hK
        conv => whnf
        repeat (refine ⟨trivial, ?_⟩; conv => whnf)
        exact ix_bd (has t ht (by omega)) hK
    · conv => whnf
      repeat (refine ⟨trivial, ?_⟩; conv => whnf)
      exact ⟨nat_ _, k⟩
theorem p_laid : BodyOk 2 3 B_laid a_laid S_laid := by
  rintro _ R ⟨ts, b, rfl, hz, bo, has, k⟩
  exact p_law_laid _ R ⟨_, ts, b, rfl, rfl, hz, bo, has, k⟩
theorem use_llaid {env : AEnv} {row : D} (ts : List Int) (b : Bd) {R : RV → AEnv → Prop} (hi : seqOf row = some (ts.map D.int)) (hz : ts.length ≤ 1000) (bo : BdOk b) (has : Has (b.map (·.1)) ts) (k : R (.dat (tmD (vl ts b))) env) : callR S_law_laid [.dat row, .dat (bD b)] env R :=
  call_dats [_, _] ⟨row, ts, b, rfl, hi, hz, bo, has, k⟩
theorem use_laid {env : AEnv} (ts : List Int) (b : Bd) {R : RV → AEnv → Prop} (hz : ts.length ≤ 1000) (bo : BdOk b) (has : Has (b.map (·.1)) ts) (k : R (.dat (tmD (vl ts b))) env) : callR S_laid [.dat (tmD ts), .dat (bD b)] env R :=
  call_dats [_, _] ⟨ts, b, rfl, hz, bo, has, k⟩
end AL
namespace AL
open PySem L2
/-! P9: names_from. -/
theorem set_bd {b : Bd} {t v : Int} {env : AEnv} {j : Nat} {N : AEnv → Prop} (e : env[j]? = some (.own (bD b))) (n : t ∉ b.map (·.1)) (hz : b.length ≤ 900000) (h : N (env.set j (.own (bD (b ++ [(t, v)]))))) : setAt j (.int t) (.int v) env N := by
  refine set_dic e rfl (fun z => n (bd_mem.mp z)) (by rw [List.length_map]; omega) ?_
  have e1 : b.map (fun p => D.int p.1) ++ [D.int t] = (b ++ [(t, v)]).map fun p => D.int p.1 := by rw [List.map_append]; rfl
  have e2 : b.map (fun p => D.int p.2) ++ [D.int v] = (b ++ [(t, v)]).map fun p => D.int p.2 := by rw [List.map_append]; rfl
  rw [e1, e2]
  exact h
theorem nf_loop {C : Addr} {A : AEnds} {x0 x1 x2 : AV} : ∀ (us : List Int) (ls : List Img) (b : Bd) (x4 x5 : AV), us.length = ls.length → (b.map (·.1) ++ us).Nodup → b.length + us.length ≤ 90000 →
    (∀ is, toInts ls = some is → ∀ y4 y5, A.nx [x0, x1, x2, .own (bD (b ++ us.zip is)), y4, y5]) → (toInts ls = none → ∀ b y4 y5, A.rt (.dat .non) [x0, x1, x2, .own (bD b), y4, y5]) →
    forL (agTup 2 (agCons (agName 4) (agCons (agName 5) agNil))) (names_from_2_0 C) A ((us.zip ls).map fun p => D.tup [.int p.1, imD p.2]) [x0, x1, x2, .own (bD b), x4, x5]
  | [], [], b, x4, x5, _, _, _, k, _ => by
    have := k [] rfl x4 x5
    rw [List.zip_nil_left, List.append_nil] at this
    exact this
  | [], _ :: _, _, _, _, h, _, _, _, _ => by cases h
  | _ :: _, [], _, _, _, h, _, _, _, _ => by cases h
  | u :: us, i :: ls, b, x4, x5, hl, nd, hz, k, kn => by
    rw [List.length_cons] at hz
    have nu : u ∉ b.map (·.1) := fun z => by
      rw [List.nodup_append] at nd
      exact nd.2.2 u z u List.mem_cons_self rfl
    conv => whnf
    repeat (refine ⟨trivial, ?_⟩; conv => whnf)
    refine ⟨rfl, ?_⟩
    conv => whnf
    repeat (refine ⟨trivial, ?_⟩; conv => whnf)
    refine ⟨rfl, ?_⟩
    conv => whnf
    repeat (refine ⟨trivial, ?_⟩; conv => whnf)
    refine use_isint i ?_
    cases i with
    | int v =>
      conv => whnf
      repeat (refine ⟨trivial, ?_⟩; conv => whnf)
      refine brF rfl ?_
      conv => whnf
      repeat (refine ⟨trivial, ?_⟩; conv => whnf)
      refine set_bd rfl nu (by omega) ?_
      refine nf_loop us ls (b ++ [(u, v)]) _ _ (by simpa using hl) ?_ (by rw [List.length_append, List.length_singleton]; omega) (fun is e y4 y5 => ?_) (fun e => kn (by show (toInts ls).map _ = none; rw [e]; rfl))
      · rw [List.map_append, List.append_assoc]; exact nd
      · have := k (v :: is) (by show (toInts ls).map _ = _; rw [e]; rfl) y4 y5
        rw [List.append_assoc]
        exact this
    | bl x =>
      conv => whnf
      repeat (refine ⟨trivial, ?_⟩; conv => whnf)
      refine brT rfl ?_
      exact kn rfl _ _ _
    | non =>
      conv => whnf
      repeat (refine ⟨trivial, ?_⟩; conv => whnf)
      refine brT rfl ?_
      exact kn rfl _ _ _
    | str x =>
      conv => whnf
      repeat (refine ⟨trivial, ?_⟩; conv => whnf)
      refine brT rfl ?_
      exact kn rfl _ _ _
theorem zip_im (xs : List Int) (ys : List Img) : zipD (xs.map D.int) (ys.map imD) = (xs.zip ys).map fun p => D.tup [.int p.1, imD p.2] := by
  unfold zipD
  rw [List.zip_map, List.map_map]
  rfl
theorem p_names_from {C : Addr} : BodyOk 2 6 B_names_from (a_names_from C) (S_names_from C) := by
  rintro _ R ⟨t, o, rfl, to, ol, k⟩
  refine ⟨rfl, ownN (ds := [_, _]), ?_⟩
  have vlen := vars_len to.rows
  conv => whnf
  repeat (refine ⟨trivial, ?_⟩; conv => whnf)
  refine ⟨⟨_, _, rfl, rfl⟩, ?_⟩
  conv => whnf
  repeat (refine ⟨trivial, ?_⟩; conv => whnf)
  refine use_bvars t to ?_
  have nd := vars_nodup t.rows
  generalize vars t.rows = vs at nd k vlen
  cases o with
  | tup l =>
    have ol : l.length ≤ 1000 := ol
    conv => whnf
    repeat (refine ⟨trivial, ?_⟩; conv => whnf)
    refine ⟨"tuple", true, rfl, by decide +kernel, ?_⟩
    conv => whnf
    repeat (refine ⟨trivial, ?_⟩; conv => whnf)
    refine brF rfl ?_
    conv => whnf
    repeat (refine ⟨trivial, ?_⟩; conv => whnf)
    refine ne_int ?_
    conv => whnf
    repeat (refine ⟨trivial, ?_⟩; conv => whnf)
    refine brI (fun h => ?_) (fun h => ?_)
    · have ne : ¬ l.length = vs.length := fun z => by
        rw [List.length_map, List.length_map, z] at h
        simp at h
      have e : offI vs.length (.tup l) = none := if_neg ne
      rw [e] at k
      conv => whnf
      repeat (refine ⟨trivial, ?_⟩; conv => whnf)
      exact ⟨nat_ _, k⟩
    · have el : l.length = vs.length := by
        have : ((l.length : Int) = (vs.length : Int)) := by simpa using h
        omega
      have e : offI vs.length (.tup l) = toInts l := if_pos el
      rw [e] at k
      conv => whnf
      repeat (refine ⟨trivial, ?_⟩; conv => whnf)
      rw [zip_im]
      refine nf_loop vs l [] _ _ el.symm (by simpa using nd) (by simp; omega) (fun is e y4 y5 => ?_) (fun e b y4 y5 => ?_)
      · rw [e] at k
        conv => whnf
        repeat (refine ⟨trivial, ?_⟩; conv => whnf)
        exact ⟨rfl, new_ _, k⟩
      · rw [e] at k
        exact ⟨nat_ _, k⟩
  | lst l =>
    conv => whnf
    repeat (refine ⟨trivial, ?_⟩; conv => whnf)
    refine ⟨"list", false, rfl, by decide +kernel, ?_⟩
    conv => whnf
    repeat (refine ⟨trivial, ?_⟩; conv => whnf)
    refine brT rfl ?_
    conv => whnf
    repeat (refine ⟨trivial, ?_⟩; conv => whnf)
    refine brT rfl ?_
    conv => whnf
    repeat (refine ⟨trivial, ?_⟩; conv => whnf)
    exact ⟨nat_ _, k⟩
  | one i =>
    cases i with
    | int i =>
      conv => whnf
      repeat (refine ⟨trivial, ?_⟩; conv => whnf)
      refine ⟨"int", false, rfl, by decide +kernel, ?_⟩
      conv => whnf
      repeat (refine ⟨trivial, ?_⟩; conv => whnf)
      refine brT rfl ?_
      conv => whnf
      repeat (refine ⟨trivial, ?_⟩; conv => whnf)
      refine brT rfl ?_
      conv => whnf
      repeat (refine ⟨trivial, ?_⟩; conv => whnf)
      exact ⟨nat_ _, k⟩
    | bl i =>
      conv => whnf
      repeat (refine ⟨trivial, ?_⟩; conv => whnf)
      refine ⟨"bool", false, rfl, by decide +kernel, ?_⟩
      conv => whnf
      repeat (refine ⟨trivial, ?_⟩; conv => whnf)
      refine brT rfl ?_
      conv => whnf
      repeat (refine ⟨trivial, ?_⟩; conv => whnf)
      refine brT rfl ?_
      conv => whnf
      repeat (refine ⟨trivial, ?_⟩; conv => whnf)
      exact ⟨nat_ _, k⟩
    | non =>
      conv => whnf
      repeat (refine ⟨trivial, ?_⟩; conv => whnf)
      refine ⟨"NoneType", false, rfl, by decide +kernel, ?_⟩
      conv => whnf
      repeat (refine ⟨trivial, ?_⟩; conv => whnf)
      refine brT rfl ?_
      conv => whnf
      repeat (refine ⟨trivial, ?_⟩; conv => whnf)
      refine brT rfl ?_
      conv => whnf
      repeat (refine ⟨trivial, ?_⟩; conv => whnf)
      exact ⟨nat_ _, k⟩
    | str i =>
      conv => whnf
      repeat (refine ⟨trivial, ?_⟩; conv => whnf)
      refine ⟨"str", false, rfl, by decide +kernel, ?_⟩
      conv => whnf
      repeat (refine ⟨trivial, ?_⟩; conv => whnf)
      refine brT rfl ?_
      conv => whnf
      repeat (refine ⟨trivial, ?_⟩; conv => whnf)
      refine brT rfl ?_
      conv => whnf
      repeat (refine ⟨trivial, ?_⟩; conv => whnf)
      exact ⟨nat_ _, k⟩
theorem use_namesfrom {C : Addr} {env : AEnv} (t : Tree) (o : Off) {R : RV → AEnv → Prop} (to : TreeOk t) (ol : offLen o ≤ 1000) (k : match offI (vars t.rows).length o with
  | some is => R (.new (bD ((vars t.rows).zip is))) env
  | none => R (.dat .non) env) : callR (S_names_from C) [.dat (objD C t), .dat (ofD o)] env R :=
  call_dats [_, _] ⟨t, o, rfl, to, ol, k⟩
end AL
namespace AL
open PySem L2
/-! P10: put_kinds. -/
theorem prD_pl (p : Int × Int) : Pl 1 (prD p) := .tup fun d h => by
  simp only [List.mem_cons, List.not_mem_nil, or_false] at h
  rcases h with rfl | rfl <;> exact .int 0 _
theorem prD_inj {p q : Int × Int} : prD p = prD q ↔ p = q := by
  constructor
  · intro h
    injection h with h
    injection h with h1 h
    injection h with h2 h
    injection h1 with h1
    injection h2 with h2
    exact Prod.ext h1 h2
  · rintro rfl; rfl
theorem ints_pl (l : List Int) : ∀ y ∈ l.map D.int, Pl 0 y := fun y hy => by
  obtain ⟨i, _, rfl⟩ := List.mem_map.mp hy
  exact .int 0 i
theorem int_mem {i : Int} {l : List Int} : D.int i ∈ l.map D.int ↔ i ∈ l := by
  constructor
  · intro h
    obtain ⟨j, hj, e⟩ := List.mem_map.mp h
    injection e with e
    rw [← e]; exact hj
  · exact fun h => List.mem_map.mpr ⟨i, h, rfl⟩
/-- what is told behind a way -/
def PkK (x0 : AV) (A : AEnds) (f : AV → AV → AV → AEnv) (r : Option Bd) : Prop := match r with
  | some b => ∀ y1 y5 y6, (y1 = .dat (bD b) ∨ y1 = .own (bD b)) → A.nx (f y1 y5 y6)
  | none => ∀ l, A.rt (.dat .non) (x0 :: l)
theorem putK_cons (s1 s2 : List Span) (b : Bd) (t i : Int) (r : List (Int × Int)) : putK s1 s2 b ((t, i) :: r) = if (0 ≤ t ∨ 0 ≤ i) ∧ t ≠ i then none else if 0 ≤ t then putK s1 s2 b r else match lkB b t with
    | some v => if v = i then putK s1 s2 b r else none
    | none => if i ∈ b.map (·.2) ∨ bnd s1 t ≠ bnd s2 i then none else putK s1 s2 (b ++ [(t, i)]) r := rfl
theorem bd_snoc {b : Bd} {t v : Int} (bo : BdOk b) (n : t ∉ b.map (·.1)) (neg : t < 0) (hl : b.length + 1 ≤ 1000) : BdOk (b ++ [(t, v)]) := by
  refine ⟨?_, by rw [List.length_append, List.length_singleton]; omega, fun p hp => ?_⟩
  · rw [List.map_append, List.nodup_append]
    refine ⟨bo.nd, List.nodup_cons.mpr ⟨by simp, List.nodup_nil⟩, fun a ha c hc e => ?_⟩
    simp only [List.map_cons, List.map_nil, List.mem_singleton] at hc
    rw [hc] at e
    rw [e] at ha
    exact n ha
  · rcases List.mem_append.mp hp with h | h
    · exact bo.neg p h
    · rw [List.mem_singleton] at h
      rw [h]; exact neg
def pkE (C : Addr) (t o : Tree) (x2 x4 : AV) (x1 x5 x6 : AV) : AEnv := [.dat (objD C t), x1, x2, .dat (objD C o), x4, x5, x6]
set_option maxHeartbeats 0 in
theorem pk_loop {C : Addr} {A : AEnds} {t o : Tree} {x2 x4 : AV} (to : TreeOk t) (oo : TreeOk o) : ∀ (ps : List (Int × Int)) (b : Bd) (x1 x5 x6 : AV), BdOk b → b.length + ps.length ≤ 900 → (x1 = .dat (bD b) ∨ x1 = .own (bD b)) → PkK (.dat (objD C t)) A (pkE C t o x2 x4) (putK t.spans o.spans b ps) →
    forL (agTup 2 (agCons (agName 5) (agCons (agName 6) agNil))) (put_kinds_1_0 C) A (ps.map prD) (pkE C t o x2 x4 x1 x5 x6)
  | [], b, x1, x5, x6, _, _, h1, k => k x1 x5 x6 h1
  | (u, i) :: ps, b, x1, x5, x6, bo, hz, h1, k => by
    rw [List.length_cons] at hz
    have same : ¬ ((0 ≤ u ∨ 0 ≤ i) ∧ u ≠ i) → (0 ≤ u → PkK (.dat (objD C t)) A (pkE C t o x2 x4) (putK t.spans o.spans b ps)) ∧ (¬ 0 ≤ u → PkK (.dat (objD C t)) A (pkE C t o x2 x4) (match lkB b u with
        | some v => if v = i then putK t.spans o.spans b ps else none
        | none => if i ∈ b.map (·.2) ∨ bnd t.spans u ≠ bnd o.spans i then none else putK t.spans o.spans (b ++ [(u, i)]) ps)) := fun n => by
      rw [putK_cons, if_neg n] at k
      exact ⟨fun h => by rw [if_pos h] at k; exact k, fun h => by rw [if_neg h] at k; exact k⟩
    have bad : ((0 ≤ u ∨ 0 ≤ i) ∧ u ≠ i) → ∀ l, A.rt (.dat .non) (.dat (objD C t) :: l) := fun c => by
      rw [putK_cons, if_pos c] at k
      exact k
    have ih := fun b' x1' y5 y6 bo' hz' h1' k' => pk_loop (C := C) (A := A) (x2 := x2) (x4 := x4) to oo ps b' x1' y5 y6 bo' hz' h1' k'
    have rest : ¬ ((0 ≤ u ∨ 0 ≤ i) ∧ u ≠ i) → put_kinds_1_1 C { nx := forL (agTup 2 (agCons (agName 5) (agCons (agName 6) agNil))) (put_kinds_1_0 C) A (ps.map prD), ct := forL (agTup 2 (agCons (agName 5) (agCons (agName 6) agNil))) (put_kinds_1_0 C) A (ps.map prD), bk := A.nx, rt := A.rt } (pkE C t o x2 x4 x1 (.dat (.int u)) (.dat (.int i))) := fun n => by
      obtain ⟨s1, s2⟩ := same n
      unfold pkE
      rcases h1 with rfl | rfl <;>
      · conv => whnf
        repeat (refine ⟨trivial, ?_⟩; conv => whnf)
        refine brI (fun h => ?_) (fun h => ?_)
        · have ge : 0 ≤ u := by simpa using h
          exact ih b _ _ _ bo (by omega) (by first | exact .inl rfl | exact .inr rfl) (s1 ge)
        · have lt : ¬ 0 ≤ u := by simpa using h
          have s3 := s2 lt
          conv => whnf
          repeat (refine ⟨trivial, ?_⟩; conv => whnf)
          refine in_dic rfl ?_
          conv => whnf
          repeat (refine ⟨trivial, ?_⟩; conv => whnf)
          refine brI (fun h => ?_) (fun h => ?_)
          · have hin : u ∈ b.map (·.1) := bd_mem.mp (by simpa using h)
            obtain ⟨w, ew⟩ := lkB_some hin
            rw [ew] at s3
            have s3 : PkK (.dat (objD C t)) A (pkE C t o x2 x4) (if w = i then putK t.spans o.spans b ps else none) := s3
            conv => whnf
            repeat (refine ⟨trivial, ?_⟩; conv => whnf)
            refine ix_bd hin ?_
            rw [ew]
            conv => whnf
            repeat (refine ⟨trivial, ?_⟩; conv => whnf)
            refine ne_int ?_
            conv => whnf
            repeat (refine ⟨trivial, ?_⟩; conv => whnf)
            refine brI (fun h => ?_) (fun h => ?_)
            · have ne : ¬ w = i := by simpa using h
              rw [if_neg ne] at s3
              exact s3 _
            · have eq : w = i := by simpa using h
              rw [if_pos eq] at s3
              exact ih b _ _ _ bo (by omega) (by first | exact .inl rfl | exact .inr rfl) s3
          · have nin : u ∉ b.map (·.1) := fun z => by
              have := bd_mem.mpr z
              simp [this] at h
            rw [lkB_none.mpr nin] at s3
            have s3 : PkK (.dat (objD C t)) A (pkE C t o x2 x4) (if i ∈ b.map (·.2) ∨ bnd t.spans u ≠ bnd o.spans i then none else putK t.spans o.spans (b ++ [(u, i)]) ps) := s3
            conv => whnf
            repeat (refine ⟨trivial, ?_⟩; conv => whnf)
            refine ⟨sz_le (by rw [List.length_map]; omega), ?_⟩
            have ev : (b.map fun p => D.int p.2) = (b.map (·.2)).map D.int := by rw [List.map_map]; rfl
            rw [ev]
            conv => whnf
            repeat (refine ⟨trivial, ?_⟩; conv => whnf)
            refine in_lst (.int 0 i) (ints_pl _) ?_
            conv => whnf
            repeat (refine ⟨trivial, ?_⟩; conv => whnf)
            refine brI (fun h => ?_) (fun h => ?_)
            · have hin : i ∈ b.map (·.2) := int_mem.mp (by simpa using h)
              rw [if_pos (.inl hin)] at s3
              conv => whnf
              repeat (refine ⟨trivial, ?_⟩; conv => whnf)
              refine brT rfl ?_
              exact s3 _
            · have hin : i ∉ b.map (·.2) := fun z => by
                rw [decide_eq_true (int_mem.mpr z)] at h
                cases h
              conv => whnf
              repeat (refine ⟨trivial, ?_⟩; conv => whnf)
              refine ⟨⟨_, _, rfl, rfl⟩, ?_⟩
              conv => whnf
              repeat (refine ⟨trivial, ?_⟩; conv => whnf)
              refine use_span t u to ?_
              conv => whnf
              repeat (refine ⟨trivial, ?_⟩; conv => whnf)
              refine ⟨⟨_, _, rfl, rfl⟩, ?_⟩
              conv => whnf
              repeat (refine ⟨trivial, ?_⟩; conv => whnf)
              refine use_span o i oo ?_
              conv => whnf
              repeat (refine ⟨trivial, ?_⟩; conv => whnf)
              refine ne_pl (prD_pl _) (prD_pl _) ?_
              conv => whnf
              repeat (refine ⟨trivial, ?_⟩; conv => whnf)
              refine brI (fun h => ?_) (fun h => ?_)
              · have ne : bnd t.spans u ≠ bnd o.spans i := fun z => by
                  rw [z] at h
                  simp at h
                rw [if_pos (.inr ne)] at s3
                exact s3 _
              · have eq : bnd t.spans u = bnd o.spans i := by
                  have : prD (bnd t.spans u) = prD (bnd o.spans i) := by simpa using h
                  exact prD_inj.mp this
                rw [if_neg fun z => z.elim hin fun z => z eq] at s3
                conv => whnf
                repeat (refine ⟨trivial, ?_⟩; conv => whnf)
                refine set_bd rfl nin (by omega) ?_
                exact ih (b ++ [(u, i)]) _ _ _ (bd_snoc bo nin (by omega) (by omega)) (by rw [List.length_append, List.length_singleton]; omega) (.inr rfl) s3
    unfold pkE at *
    conv => whnf
    repeat (refine ⟨trivial, ?_⟩; conv => whnf)
    refine ⟨rfl, ?_⟩
    conv => whnf
    repeat (refine ⟨trivial, ?_⟩; conv => whnf)
    refine ⟨rfl, ?_⟩
    conv => whnf
    repeat (refine ⟨trivial, ?_⟩; conv => whnf)
    refine brI (fun h => ?_) (fun h => ?_)
    · have ge : 0 ≤ u := by simpa using h
      conv => whnf
      repeat (refine ⟨trivial, ?_⟩; conv => whnf)
      refine brT rfl ?_
      conv => whnf
      repeat (refine ⟨trivial, ?_⟩; conv => whnf)
      refine ne_int ?_
      conv => whnf
      repeat (refine ⟨trivial, ?_⟩; conv => whnf)
      refine brI (fun h => ?_) (fun h => ?_)
      · have ne : ¬ u = i := by simpa using h
        exact bad ⟨.inl ge, ne⟩ _
      · have eq : u = i := by simpa using h
        exact rest fun z => z.2 eq
    · have lt : ¬ 0 ≤ u := by simpa using h
      conv => whnf
      repeat (refine ⟨trivial, ?_⟩; conv => whnf)
      refine brI (fun h => ?_) (fun h => ?_)
      · have ge : 0 ≤ i := by simpa using h
        conv => whnf
        repeat (refine ⟨trivial, ?_⟩; conv => whnf)
        refine ne_int ?_
        conv => whnf
        repeat (refine ⟨trivial, ?_⟩; conv => whnf)
        refine brI (fun h => ?_) (fun h => ?_)
        · have ne : ¬ u = i := by simpa using h
          exact bad ⟨.inr ge, ne⟩ _
        · have eq : u = i := by simpa using h
          exact rest fun z => z.2 eq
      · have lt2 : ¬ 0 ≤ i := by simpa using h
        conv => whnf
        repeat (refine ⟨trivial, ?_⟩; conv => whnf)
        refine brF rfl ?_
        exact rest fun z => z.1.elim lt lt2
end AL
namespace AL
open PySem L2
/-! P11: put_kinds, outline. -/
theorem zip_prs (xs ys : List Int) : zipD (xs.map D.int) (ys.map D.int) = (xs.zip ys).map prD := by
  unfold zipD
  rw [List.zip_map, List.map_map]
  rfl
theorem outs_dat : ∀ (ds : List D) (env : AEnv), outs (ds.map AV.dat) env = ds.map AV.dat
  | [], _ => rfl
  | d :: ds, [] => rfl
  | d :: ds, e :: env => by
    show AV.dat d :: outs (ds.map AV.dat) env = AV.dat d :: ds.map AV.dat
    rw [outs_dat ds env]
theorem p_put_kinds {C : Addr} : BodyOk 5 7 B_put_kinds (a_put_kinds C) (S_put_kinds C) := by
  rintro _ R ⟨t, b, ts, o, is, rfl, to, oo, bo, bl, tl, il, k⟩
  refine ⟨rfl, ownN (ds := [_, _, _, _, _]), ?_⟩
  conv => whnf
  repeat (refine ⟨trivial, ?_⟩; conv => whnf)
  rw [zip_prs]
  refine pk_loop (x2 := .dat (tmD ts)) (x4 := .dat (tmD is)) to oo (ts.zip is) b _ .un .un bo (by rw [List.length_zip]; omega) (.inl rfl) ?_
  unfold PkK
  cases e : putK t.spans o.spans b (ts.zip is) with
  | none =>
    rw [e] at k
    refine fun l => ⟨nat_ _, ?_⟩
    have eo : outs [.dat (objD C t), .dat (bD b), .dat (tmD ts), .dat (objD C o), .dat (tmD is)] (.dat (objD C t) :: l) = _ := outs_dat [objD C t, bD b, tmD ts, objD C o, tmD is] _
    rw [eo]
    exact k
  | some b' =>
    rw [e] at k
    rintro y1 y5 y6 (rfl | rfl)
    · exact ⟨nat_ _, k _ (.inl rfl)⟩
    · exact ⟨rfl, new_ _, k _ (.inr rfl)⟩
theorem use_putk {C : Addr} {env : AEnv} (t o : Tree) (b : Bd) (ts is : List Int) {R : RV → AEnv → Prop} (to : TreeOk t) (oo : TreeOk o) (bo : BdOk b) (bl : b.length ≤ 500) (tl : ts.length ≤ 100) (il : is.length ≤ 100)
    (k : match putK t.spans o.spans b (ts.zip is) with
      | some b' => ∀ r, r = .dat (bD b') ∨ r = .new (bD b') → R r env
      | none => R (.dat .non) env) : callR (S_put_kinds C) [.dat (objD C t), .dat (bD b), .dat (tmD ts), .dat (objD C o), .dat (tmD is)] env R :=
  call_dats [_, _, _, _, _] ⟨t, b, ts, o, is, rfl, to, oo, bo, bl, tl, il, k⟩
end AL
namespace AL
open PySem L2
/-! P12: match. -/
theorem putK_bd {s1 s2 : List Span} : ∀ {ps : List (Int × Int)} {b b' : Bd}, BdOk b → b.length + ps.length ≤ 900 → putK s1 s2 b ps = some b' → BdOk b' ∧ b'.length ≤ b.length + ps.length
  | [], b, b', bo, _, e => by
    have e : some b = some b' := e
    cases e
    exact ⟨bo, Nat.le_refl _⟩
  | (t, i) :: ps, b, b', bo, hl, e => by
    rw [List.length_cons] at hl ⊢
    rw [putK_cons] at e
    by_cases c : (0 ≤ t ∨ 0 ≤ i) ∧ t ≠ i
    · rw [if_pos c] at e; cases e
    · rw [if_neg c] at e
      by_cases g : 0 ≤ t
      · rw [if_pos g] at e
        have ih := putK_bd bo (by omega) e
        exact ⟨ih.1, by omega⟩
      · rw [if_neg g] at e
        cases w : lkB b t with
        | some v =>
          rw [w] at e
          have e : (if v = i then putK s1 s2 b ps else none) = some b' := e
          by_cases q : v = i
          · rw [if_pos q] at e
            have ih := putK_bd bo (by omega) e
            exact ⟨ih.1, by omega⟩
          · rw [if_neg q] at e; cases e
        | none =>
          rw [w] at e
          have e : (if i ∈ b.map (·.2) ∨ bnd s1 t ≠ bnd s2 i then none else putK s1 s2 (b ++ [(t, i)]) ps) = some b' := e
          by_cases q : i ∈ b.map (·.2) ∨ bnd s1 t ≠ bnd s2 i
          · rw [if_pos q] at e; cases e
          · rw [if_neg q] at e
            have ih := putK_bd (bd_snoc bo (lkB_none.mp w) (by omega) (by omega)) (by rw [List.length_append, List.length_singleton]; omega) e
            have l2 := ih.2
            rw [List.length_append, List.length_singleton] at l2
            exact ⟨ih.1, by omega⟩
theorem own4 {a b c e f : D} {B : Nat → Bool} (h : B 4 = true) : ∀ (i : Nat) (z : D), [AV.dat a, .dat b, .dat c, .dat e, .own f][i]? = some (.own z) → B i = true
  | 0, _, q => by cases q
  | 1, _, q => by cases q
  | 2, _, q => by cases q
  | 3, _, q => by cases q
  | 4, _, _ => h
  | i + 5, _, q => by cases q
def mtE (C : Addr) (t o : Tree) (place : Nat) (x2 : AV) (told : List Bd) (x5 x6 x7 x8 x9 : AV) : AEnv := [.dat (objD C t), .dat (.int (place : Nat)), x2, .dat (objD C o), .own (.lst (told.map bD)), x5, x6, x7, x8, x9]
theorem use_match {C : Addr} {n : Nat} {env : AEnv} (j : Nat) (t o : Tree) (place : Nat) (b : Bd) (told : List Bd) {R : RV → AEnv → Prop} (e : env[j]? = some (.own (.lst (told.map bD)))) (to : TreeOk t) (oo : TreeOk o) (bo : BdOk b) (tl : t.rows.length ≤ 16) (bl : b.length ≤ 20 + 5 * place) (tw : ∀ r ∈ t.rows, r.2.length ≤ 5) (ow : ∀ r ∈ o.rows, r.2.length ≤ 5) (l1 : told.length ≤ 1) (hp : place ≤ t.rows.length) (hn : t.rows.length ≤ place + n)
    (k : R (.dat .non) (env.set j (.own (.lst ((if told = [] then (matF t.spans o.spans o.rows (t.rows.drop place) b).toList else told).map bD))))) : callR (S_matchD C (n + 1)) [.dat (objD C t), .dat (.int (place : Nat)), .dat (bD b), .dat (objD C o), .at j] env R := by
  refine call_gen ⟨?_, fun m hm => ?_⟩ ?_
  · show [j].Nodup
    exact List.nodup_cons.mpr ⟨by simp, List.nodup_nil⟩
  · have hm : m ∈ [j] := hm
    rw [List.mem_singleton] at hm
    subst hm
    exact ⟨_, e⟩
  · simp only [argsE, e]
    exact ⟨t, place, b, o, told, rfl, to, oo, bo, tl, bl, tw, ow, l1, hp, hn, k⟩
set_option maxHeartbeats 0 in
theorem mt_loop {C : Addr} {A : AEnds} {t o : Tree} {n place : Nat} {b : Bd} {r : Row} (to : TreeOk t) (oo : TreeOk o) (bo : BdOk b) (tl : t.rows.length ≤ 16) (bl : b.length ≤ 20 + 5 * place) (tw : ∀ r ∈ t.rows, r.2.length ≤ 5) (ow : ∀ r ∈ o.rows, r.2.length ≤ 5) (hp : place < t.rows.length) (hn : t.rows.length ≤ place + n) (hr : r ∈ t.rows) :
    ∀ (left : List Row) (told : List Bd) (x2 x7 x8 x9 : AV), (∀ q ∈ left, q ∈ o.rows) → told.length ≤ 1 → x2 = .dat (bD b) →
      (∀ y7 y8 y9, A.nx (mtE C t o place (.dat (bD b)) (if told = [] then (left.findSome? fun q => (tryK t.spans o.spans b r q).bind (matF t.spans o.spans o.rows (t.rows.drop (place + 1)))).toList else told) (.dat (.str r.1)) (.dat (tmD r.2)) y7 y8 y9)) →
      forL (agTup 2 (agCons (agName 7) (agCons (agName 8) agNil))) (matchD_3_0 C (S_matchD C n)) A (left.map rowD) (mtE C t o place x2 told (.dat (.str r.1)) (.dat (tmD r.2)) x7 x8 x9)
  | [], told, x2, x7, x8, x9, _, _, h2, k => by
    subst h2
    have := k x7 x8 x9
    have e : (if told = [] then (([] : List Row).findSome? fun q => (tryK t.spans o.spans b r q).bind (matF t.spans o.spans o.rows (t.rows.drop (place + 1)))).toList else told) = told := by
      by_cases h : told = []
      · rw [if_pos h, h]; rfl
      · rw [if_neg h]
    rw [e] at this
    exact this
  | q :: left, told, x2, x7, x8, x9, lq, l1, h2, k => by
    subst h2
    have hq := lq q List.mem_cons_self
    have lq2 : ∀ z ∈ left, z ∈ o.rows := fun z hz => lq z (List.mem_cons_of_mem _ hz)
    have ih := fun told' y7 y8 y9 l1' k' => mt_loop (C := C) (A := A) to oo bo tl bl tw ow hp hn hr left told' (.dat (bD b)) y7 y8 y9 lq2 l1' rfl k'
    obtain ⟨m, rfl⟩ : ∃ m, n = m + 1 := ⟨n - 1, by omega⟩
    -- what is told behind this row
    have next : ∀ (z : Option Bd) (y7 y8 y9 : AV), (tryK t.spans o.spans b r q).bind (matF t.spans o.spans o.rows (t.rows.drop (place + 1))) = z →
        forL (agTup 2 (agCons (agName 7) (agCons (agName 8) agNil))) (matchD_3_0 C (S_matchD C (m + 1))) A (left.map rowD) (mtE C t o place (.dat (bD b)) (if told = [] then z.toList else told) (.dat (.str r.1)) (.dat (tmD r.2)) y7 y8 y9) := fun z y7 y8 y9 ez => by
      refine ih _ _ _ _ (by
        by_cases h : told = []
        · rw [if_pos h]; cases z <;> simp
        · rw [if_neg h]; exact l1) fun y7 y8 y9 => ?_
      have := k y7 y8 y9
      rw [List.findSome?_cons, ez] at this
      by_cases h : told = []
      · rw [if_pos h] at this
        rw [if_pos h]
        cases z with
        | none =>
          rw [if_pos (show (none : Option Bd).toList = [] from rfl)]
          exact this
        | some w =>
          rw [if_neg (show ¬ (some w : Option Bd).toList = [] by simp)]
          exact this
      · rw [if_neg h] at this
        rw [if_neg h, if_neg h]
        exact this
    have stay : ∀ y7 y8 y9, (tryK t.spans o.spans b r q).bind (matF t.spans o.spans o.rows (t.rows.drop (place + 1))) = none →
        forL (agTup 2 (agCons (agName 7) (agCons (agName 8) agNil))) (matchD_3_0 C (S_matchD C (m + 1))) A (left.map rowD) (mtE C t o place (.dat (bD b)) told (.dat (.str r.1)) (.dat (tmD r.2)) y7 y8 y9) := fun y7 y8 y9 ez => by
      have := next none y7 y8 y9 ez
      have e : (if told = [] then (none : Option Bd).toList else told) = told := by
        by_cases h : told = []
        · rw [if_pos h, h]; rfl
        · rw [if_neg h]
      rw [e] at this
      exact this
    unfold mtE at *
    conv => whnf
    repeat (refine ⟨trivial, ?_⟩; conv => whnf)
    refine ⟨rfl, ?_⟩
    conv => whnf
    repeat (refine ⟨trivial, ?_⟩; conv => whnf)
    refine ⟨rfl, ?_⟩
    conv => whnf
    repeat (refine ⟨trivial, ?_⟩; conv => whnf)
    refine eq_pl (n := 0) (m := 0) (.str 0 (oo.rows.2 q hq).1) (.str 0 (to.rows.2 r hr).1) ?_
    conv => whnf
    repeat (refine ⟨trivial, ?_⟩; conv => whnf)
    refine brI (fun h => ?_) (fun h => ?_)
    · have en : q.1 = r.1 := by
        have : D.str q.1 = D.str r.1 := by simpa using h
        injection this
      conv => whnf
      repeat (refine ⟨trivial, ?_⟩; conv => whnf)
      refine use_putk t o b r.2 q.2 to oo bo (by omega) (by have := tw r hr; omega) (by have := ow q hq; omega) ?_
      cases ep : putK t.spans o.spans b (r.2.zip q.2) with
      | none =>
        conv => whnf
        repeat (refine ⟨trivial, ?_⟩; conv => whnf)
        refine brF rfl ?_
        refine stay _ _ _ ?_
        unfold tryK
        rw [if_pos en, ep]
        rfl
      | some b' =>
        have lz : (r.2.zip q.2).length ≤ 5 := by
          rw [List.length_zip]
          have := tw r hr
          omega
        have pb := putK_bd bo (by omega) ep
        have fin := fun y7 y8 y9 => next (matF t.spans o.spans o.rows (t.rows.drop (place + 1)) b') y7 y8 y9 (by
          unfold tryK
          rw [if_pos en, ep]
          rfl)
        rintro rv (rfl | rfl) <;>
        · conv => whnf
          repeat (refine ⟨trivial, ?_⟩; conv => whnf)
          refine brT rfl ?_
          conv => whnf
          repeat (refine ⟨trivial, ?_⟩; conv => whnf)
          have key := fun R k' => use_match (C := C) (n := m) (env := [.dat (objD C t), .dat (.int (place : Nat)), .dat (bD b), .dat (objD C o), .own (.lst (told.map bD)), .dat (.str r.1), .dat (tmD r.2), .dat (.str q.1), .dat (tmD q.2), .dat (bD b')]) 4 t o (place + 1) b' told (R := R) rfl to oo pb.1 tl (by omega) tw ow l1 (by omega) (by omega) k'
          have ec : (((place + 1 : Nat) : Int)) = (place : Int) + 1 := by omega
          rw [ec] at key
          refine key _ ?_
          exact fin _ _ _
    · have ne : ¬ q.1 = r.1 := fun z => by
        rw [decide_eq_true (by rw [z])] at h
        cases h
      refine stay _ _ _ ?_
      unfold tryK
      rw [if_neg ne]
      rfl
end AL
namespace AL
open PySem L2
/-! P13: match. -/
set_option maxHeartbeats 0 in
theorem p_matchD {C : Addr} (n : Nat) : BodyOk 5 10 B_matchD (a_matchD C (S_matchD C n)) (S_matchD C (n + 1)) := by
  rintro _ R ⟨t, place, b, o, told, rfl, to, oo, bo, tl, bl, tw, ow, l1, hp, hn, k⟩
  refine ⟨rfl, own4 rfl, ?_⟩
  conv => whnf
  repeat (refine ⟨trivial, ?_⟩; conv => whnf)
  refine brI (fun h => ?_) (fun h => ?_)
  · have ne : ¬ told = [] := fun z => by
      rw [z] at h
      cases h
    rw [if_neg ne] at k
    conv => whnf
    repeat (refine ⟨trivial, ?_⟩; conv => whnf)
    exact ⟨nat_ _, k⟩
  · have e0 : told = [] := by
      cases told with
      | nil => rfl
      | cons a l => cases h
    subst e0
    rw [if_pos rfl] at k
    conv => whnf
    repeat (refine ⟨trivial, ?_⟩; conv => whnf)
    refine ⟨_, fld_rows, ?_⟩
    conv => whnf
    repeat (refine ⟨trivial, ?_⟩; conv => whnf)
    refine eq_int ?_
    rw [List.length_map]
    conv => whnf
    repeat (refine ⟨trivial, ?_⟩; conv => whnf)
    refine brI (fun h => ?_) (fun h => ?_)
    · have ep : place = t.rows.length := by
        have : ((place : Int) = (t.rows.length : Int)) := by simpa using h
        omega
      rw [ep, List.drop_length] at k
      rw [← ep] at k
      conv => whnf
      repeat (refine ⟨trivial, ?_⟩; conv => whnf)
      refine ⟨⟨_, rfl⟩, ?_⟩
      conv => whnf
      repeat (refine ⟨trivial, ?_⟩; conv => whnf)
      refine ⟨sz_lt (by simp), ?_⟩
      exact ⟨nat_ _, k⟩
    · have lt : place < t.rows.length := by
        have : ¬ ((place : Int) = (t.rows.length : Int)) := by simpa using h
        omega
      have ed : t.rows.drop place = t.rows[place] :: t.rows.drop (place + 1) := List.drop_eq_getElem_cons lt
      conv => whnf
      repeat (refine ⟨trivial, ?_⟩; conv => whnf)
      refine ⟨_, fld_rows, ?_⟩
      conv => whnf
      repeat (refine ⟨trivial, ?_⟩; conv => whnf)
      refine ix_tup (z := rowD t.rows[place]) (by omega) (by rw [Int.toNat_natCast, List.getElem?_map, List.getElem?_eq_getElem lt]; rfl) ?_
      conv => whnf
      repeat (refine ⟨trivial, ?_⟩; conv => whnf)
      refine ⟨rfl, ?_⟩
      conv => whnf
      repeat (refine ⟨trivial, ?_⟩; conv => whnf)
      refine ⟨rfl, ?_⟩
      conv => whnf
      repeat (refine ⟨trivial, ?_⟩; conv => whnf)
      refine ⟨_, fld_rows, ?_⟩
      conv => whnf
      repeat (refine ⟨trivial, ?_⟩; conv => whnf)
      intro _
      refine mt_loop (n := n) to oo bo tl bl tw ow lt hn (List.getElem_mem lt) o.rows [] _ _ _ _ (fun q hq => hq) (by simp) rfl fun y7 y8 y9 => ?_
      rw [ed] at k
      rw [if_pos rfl]
      exact k
end AL
namespace AL
open PySem L2
/-! P14: outline. -/
theorem sz2' {a b : D} : [a, b].length ≤ sizeLine := sz2
theorem alike_pr (p q : Int × Int) : PySem.W.alike (prD p).pd (prD q).pd = true := by
  show PySem.W.alike (.tuple [.int p.1, .int p.2]) (.tuple [.int q.1, .int q.2]) = true
  simp [PySem.W.alike, PySem.W.alikeAll]
theorem alike_prs : ∀ xs ys : List (Int × Int), PySem.W.alikeAll (pds (xs.map prD)) (pds (ys.map prD)) = true
  | [], _ => by simp [pds, PySem.W.alikeAll]
  | x :: xs, [] => by simp [pds, PySem.W.alikeAll]
  | x :: xs, y :: ys => by
    show PySem.W.alikeAll ((prD x).pd :: pds (xs.map prD)) ((prD y).pd :: pds (ys.map prD)) = true
    rw [PySem.W.alikeAll, alike_prs xs ys, alike_pr]
    rfl
theorem orow_eq (sp : List Span) (r : Row) : orowD sp r = .tup [.str r.1, .tup ((r.2.map (bnd sp)).map prD)] := by
  unfold orowD
  rw [List.map_map]
  rfl
theorem alike_orow (s1 s2 : List Span) (r q : Row) : PySem.W.alike (orowD s1 r).pd (orowD s2 q).pd = true := by
  rw [orow_eq, orow_eq]
  show PySem.W.alike (.tuple [.str r.1, .tuple (pds ((r.2.map (bnd s1)).map prD))]) (.tuple [.str q.1, .tuple (pds ((q.2.map (bnd s2)).map prD))]) = true
  simp only [PySem.W.alike, PySem.W.alikeAll, alike_prs]
  simp
theorem orow_pl {sp : List Span} {r : Row} (ok : RowOk r) : Pl 3 (orowD sp r) := by
  rw [orow_eq]
  refine .tup fun d h => ?_
  simp only [List.mem_cons, List.not_mem_nil, or_false] at h
  rcases h with rfl | rfl
  · exact .str 2 ok.1
  · refine .tup fun d h => ?_
    obtain ⟨p, _, rfl⟩ := List.mem_map.mp h
    exact prD_pl p
theorem sort_orows {sp : List Span} {rs : List Row} (ok : ∀ r ∈ rs, RowOk r) : SortOk (rs.map (orowD sp)) := by
  refine ⟨fun d hd d' hd' => ?_, .inl fun d hd => ?_, fun d hd => ?_⟩
  · obtain ⟨e, he, rfl⟩ := List.mem_map.mp hd
    obtain ⟨r, _, rfl⟩ := List.mem_map.mp he
    obtain ⟨e', he', rfl⟩ := List.mem_map.mp hd'
    obtain ⟨q, _, rfl⟩ := List.mem_map.mp he'
    exact alike_orow _ _ r q
  · obtain ⟨e, he, rfl⟩ := List.mem_map.mp hd
    obtain ⟨r, _, rfl⟩ := List.mem_map.mp he
    exact ⟨_, _, rfl⟩
  · obtain ⟨r, hr, rfl⟩ := List.mem_map.mp hd
    have p := orow_pl (sp := sp) (ok r hr)
    exact ⟨p.sh (by omega), by have := p.dep; omega⟩
end AL
namespace AL
open PySem L2
/-! P15: outline. -/
theorem span_lc {C : Addr} {t : Tree} {e0 : AEnv → Prop} {x1 x2 x3 : AV} (to : TreeOk t) (xs : List Int) {R : List D → AEnv → Prop} (k : R (xs.map fun x => prD (bnd t.spans x)) [.dat (objD C t), x1, x2, x3, .un]) :
    lcL (agName 4) atYes (aMeth C "span" (S_Body_span C) (aFrz (aVar 0)) (aConsD (aVar 4) aNil)) [4] (xs.map D.int) R [.dat (objD C t), x1, x2, x3, .un] := by
  refine lc_ind (Ev := fun env => env = [.dat (objD C t), x1, x2, x3, .un]) (Stp := fun y oz => ∃ x : Int, y = .int x ∧ oz = some (prD (bnd t.spans x))) _ ?_ _ _ rfl ?_
  · rintro y hy _ K rfl hK
    obtain ⟨x, hx, rfl⟩ := List.mem_map.mp hy
    conv => whnf
    repeat (refine ⟨trivial, ?_⟩; conv => whnf)
    rw [brP_true]
    conv => whnf
    repeat (refine ⟨trivial, ?_⟩; conv => whnf)
    refine ⟨⟨_, _, rfl, rfl⟩, ?_⟩
    conv => whnf
    repeat (refine ⟨trivial, ?_⟩; conv => whnf)
    refine use_span t x to ?_
    conv => whnf
    repeat (refine ⟨trivial, ?_⟩; conv => whnf)
    exact hK _ _ rfl ⟨x, rfl, rfl⟩
  · rintro zs _ o rfl
    have ez := o.map (f := fun x => prD (bnd t.spans x)) fun x oz ⟨u, e1, e2⟩ => by
      cases e1
      exact e2
    rw [ez]
    exact k
set_option maxHeartbeats 0 in
theorem p_outline {C : Addr} : BodyOk 1 5 B_outline (a_outline C) (S_outline C) := by
  rintro _ R ⟨t, rfl, to, k⟩
  refine ⟨rfl, ownN (ds := [_]), ?_⟩
  have rl := to.rows.1
  have wl := to.wlen
  conv => whnf
  repeat (refine ⟨trivial, ?_⟩; conv => whnf)
  refine ⟨_, fld_rows, ?_⟩
  conv => whnf
  repeat (refine ⟨trivial, ?_⟩; conv => whnf)
  intro _
  refine ⟨noOwn_two (x := .un) (y := .un) rfl (fun e z => by cases z) rfl (fun e z => by cases z), sz_le (by rw [List.length_map]; omega), ?_⟩
  refine lc_ind (Ev := fun env => env = [.dat (objD C t), .un, .un, .un, .un]) (Stp := fun y oz => ∃ r : Row, y = rowD r ∧ oz = some (orowD t.spans r)) _ ?_ _ _ rfl ?_
  · rintro y hy _ K rfl hK
    obtain ⟨r, hr, rfl⟩ := List.mem_map.mp hy
    have r100 := (to.rows.2 r hr).2
    conv => whnf
    repeat (refine ⟨trivial, ?_⟩; conv => whnf)
    refine ⟨rfl, ?_⟩
    conv => whnf
    repeat (refine ⟨trivial, ?_⟩; conv => whnf)
    refine ⟨rfl, ?_⟩
    conv => whnf
    repeat (refine ⟨trivial, ?_⟩; conv => whnf)
    rw [brP_true]
    conv => whnf
    repeat (refine ⟨trivial, ?_⟩; conv => whnf)
    intro _
    refine ⟨noOwn_one (x := .un) rfl (fun e z => by cases z), sz_le (by rw [List.length_map]; omega), ?_⟩
    refine span_lc (e0 := fun _ => True) to r.2 ?_
    conv => whnf
    repeat (refine ⟨trivial, ?_⟩; conv => whnf)
    refine ⟨sz2, ?_⟩
    conv => whnf
    repeat (refine ⟨trivial, ?_⟩; conv => whnf)
    exact hK _ _ rfl ⟨r, rfl, rfl⟩
  · rintro zs _ o rfl
    have ez := o.map (f := orowD t.spans) fun r oz ⟨q, e1, e2⟩ => by
      rw [rowD_inj.mp e1]
      exact e2
    rw [ez]
    conv => whnf
    repeat (refine ⟨trivial, ?_⟩; conv => whnf)
    refine ⟨sort_orows to.rows.2, ?_⟩
    conv => whnf
    repeat (refine ⟨trivial, ?_⟩; conv => whnf)
    refine ⟨_, fld_wide, ?_⟩
    conv => whnf
    repeat (refine ⟨trivial, ?_⟩; conv => whnf)
    intro _
    refine ⟨noOwn_one (x := .un) rfl (fun e z => by cases z), sz_le (by rw [List.length_map]; omega), ?_⟩
    refine span_lc (e0 := fun _ => True) to t.wide ?_
    conv => whnf
    repeat (refine ⟨trivial, ?_⟩; conv => whnf)
    refine ⟨sz2, ?_⟩
    conv => whnf
    repeat (refine ⟨trivial, ?_⟩; conv => whnf)
    exact ⟨nat_ _, k⟩
theorem use_outline {C : Addr} {env : AEnv} (t : Tree) {R : RV → AEnv → Prop} (to : TreeOk t) (k : R (.dat (outD t)) env) : callR (S_outline C) [.dat (objD C t)] env R :=
  call_dats [_] ⟨t, rfl, to, k⟩
end AL
namespace AL
open PySem L2
/-! P16: the plain law: what put_kinds keeps. -/
theorem lkB_app {b c : Bd} {t v : Int} : lkB b t = some v → lkB (b ++ c) t = some v := by
  induction b with
  | nil => intro h; cases h
  | cons p r ih =>
    obtain ⟨k, w⟩ := p
    intro h
    show (if k = t then some w else lkB (r ++ c) t) = some v
    have h : (if k = t then some w else lkB r t) = some v := h
    by_cases e : k = t
    · rw [if_pos e] at h ⊢; exact h
    · rw [if_neg e] at h ⊢; exact ih h
theorem lkB_new {b : Bd} {t v : Int} (h : t ∉ b.map (·.1)) : lkB (b ++ [(t, v)]) t = some v := by
  induction b with
  | nil => simp [lkB]
  | cons p r ih =>
    obtain ⟨k, w⟩ := p
    rw [List.map_cons, List.mem_cons] at h
    show (if k = t then some w else lkB (r ++ [(t, v)]) t) = some v
    rw [if_neg fun z => h (.inl z.symm)]
    exact ih fun z => h (.inr z)
/-- names that may be -/
structure NmK (s1 s2 : List Span) (b : Bd) : Prop where
  ok : BdOk b
  inj : (b.map (·.2)).Nodup
  neg : ∀ p ∈ b, p.2 < 0
  bnd : ∀ p ∈ b, bnd s1 p.1 = bnd s2 p.2
/-- what is added by a row of pairs -/
structure PutOk (s1 s2 : List Span) (b : Bd) (ps : List (Int × Int)) (b' : Bd) : Prop where
  nm : NmK s1 s2 b'
  old : ∀ t v, lkB b t = some v → lkB b' t = some v
  pos : ∀ p ∈ ps, 0 ≤ p.1 → p.1 = p.2
  new : ∀ p ∈ ps, p.1 < 0 → lkB b' p.1 = some p.2
theorem putK_ok {s1 s2 : List Span} : ∀ {ps : List (Int × Int)} {b b' : Bd}, NmK s1 s2 b → b.length + ps.length ≤ 900 → putK s1 s2 b ps = some b' → PutOk s1 s2 b ps b'
  | [], b, b', bo, _, e => by
    have e : some b = some b' := e
    cases e
    exact ⟨bo, fun _ _ h => h, (fun p h => nomatch h), fun p h => nomatch h⟩
  | (t, i) :: ps, b, b', bo, hl, e => by
    rw [List.length_cons] at hl
    rw [putK_cons] at e
    by_cases c : (0 ≤ t ∨ 0 ≤ i) ∧ t ≠ i
    · rw [if_pos c] at e; cases e
    · rw [if_neg c] at e
      by_cases g : 0 ≤ t
      · rw [if_pos g] at e
        have ih := putK_ok bo (by omega) e
        have ti : t = i := Decidable.byContradiction fun z => c ⟨.inl g, z⟩
        refine ⟨ih.nm, ih.old, fun p hp h => ?_, fun p hp h => ?_⟩
        · rcases List.mem_cons.mp hp with z | z
          · rw [z]; exact ti
          · exact ih.pos p z h
        · rcases List.mem_cons.mp hp with z | z
          · rw [z] at h
            have h : t < 0 := h
            omega
          · exact ih.new p z h
      · rw [if_neg g] at e
        have ilt : ¬ 0 ≤ i := fun z => c ⟨.inr z, fun q => g (by rw [q]; exact z)⟩
        cases w : lkB b t with
        | some v =>
          rw [w] at e
          have e : (if v = i then putK s1 s2 b ps else none) = some b' := e
          by_cases q : v = i
          · rw [if_pos q] at e
            have ih := putK_ok bo (by omega) e
            refine ⟨ih.nm, ih.old, fun p hp h => ?_, fun p hp h => ?_⟩
            · rcases List.mem_cons.mp hp with z | z
              · rw [z] at h
                exact absurd h g
              · exact ih.pos p z h
            · rcases List.mem_cons.mp hp with z | z
              · rw [z]
                exact ih.old t i (by rw [w, q])
              · exact ih.new p z h
          · rw [if_neg q] at e; cases e
        | none =>
          rw [w] at e
          have e : (if i ∈ b.map (·.2) ∨ bnd s1 t ≠ bnd s2 i then none else putK s1 s2 (b ++ [(t, i)]) ps) = some b' := e
          by_cases q : i ∈ b.map (·.2) ∨ bnd s1 t ≠ bnd s2 i
          · rw [if_pos q] at e; cases e
          · rw [if_neg q] at e
            have nin := lkB_none.mp w
            have q1 : i ∉ b.map (·.2) := fun z => q (.inl z)
            have q2 : bnd s1 t = bnd s2 i := Decidable.byContradiction fun z => q (.inr z)
            have nm : NmK s1 s2 (b ++ [(t, i)]) := by
              refine ⟨bd_snoc bo.ok nin (by omega) (by omega), ?_, fun p hp => ?_, fun p hp => ?_⟩
              · rw [List.map_append, List.nodup_append]
                refine ⟨bo.inj, List.nodup_cons.mpr ⟨by simp, List.nodup_nil⟩, fun a ha d hd z => ?_⟩
                simp only [List.map_cons, List.map_nil, List.mem_singleton] at hd
                rw [hd] at z
                rw [z] at ha
                exact q1 ha
              · rcases List.mem_append.mp hp with z | z
                · exact bo.neg p z
                · rw [List.mem_singleton] at z
                  rw [z]; show i < 0; omega
              · rcases List.mem_append.mp hp with z | z
                · exact bo.bnd p z
                · rw [List.mem_singleton] at z
                  rw [z]; exact q2
            have ih := putK_ok nm (by rw [List.length_append, List.length_singleton]; omega) e
            refine ⟨ih.nm, fun s v h => ih.old s v (lkB_app h), fun p hp h => ?_, fun p hp h => ?_⟩
            · rcases List.mem_cons.mp hp with z | z
              · rw [z] at h
                exact absurd h g
              · exact ih.pos p z h
            · rcases List.mem_cons.mp hp with z | z
              · rw [z]
                exact ih.old t i (lkB_new nin)
              · exact ih.new p z h
theorem nmk_nil (s1 s2 : List Span) : NmK s1 s2 [] := ⟨⟨List.nodup_nil, Nat.zero_le _, fun p h => nomatch h⟩, List.nodup_nil, (fun p h => nomatch h), fun p h => nomatch h⟩
/-- names that agree with a map -/
def Sub (m : Int → Int) (b : Bd) : Prop := ∀ p ∈ b, p.2 = m p.1
/-- a map that keeps what is asked lets put_kinds go on -/
theorem putK_go {s1 s2 : List Span} {m : Int → Int} {vs : List Int} (inj : ∀ x ∈ vs, ∀ y ∈ vs, m x = m y → x = y) (neg : ∀ x ∈ vs, m x < 0) (hb : ∀ x ∈ vs, bnd s1 x = bnd s2 (m x)) :
    ∀ {ps : List (Int × Int)} {b : Bd}, Sub m b → (∀ p ∈ b, p.1 ∈ vs) → (∀ p ∈ ps, (0 ≤ p.1 → p.2 = p.1) ∧ (p.1 < 0 → p.1 ∈ vs ∧ p.2 = m p.1)) → ∃ b', putK s1 s2 b ps = some b' ∧ Sub m b' ∧ ∀ p ∈ b', p.1 ∈ vs
  | [], b, sb, bv, _ => ⟨b, rfl, sb, bv⟩
  | (t, i) :: ps, b, sb, bv, h => by
    obtain ⟨h1, h2⟩ := h (t, i) List.mem_cons_self
    have h1 : 0 ≤ t → i = t := h1
    have h2 : t < 0 → t ∈ vs ∧ i = m t := h2
    have hr : ∀ p ∈ ps, (0 ≤ p.1 → p.2 = p.1) ∧ (p.1 < 0 → p.1 ∈ vs ∧ p.2 = m p.1) := fun p hp => h p (List.mem_cons_of_mem _ hp)
    rw [putK_cons]
    by_cases g : 0 ≤ t
    · rw [if_neg fun z => z.2 (h1 g).symm, if_pos g]
      exact putK_go inj neg hb sb bv hr
    · obtain ⟨tv, im⟩ := h2 (by omega)
      have ilt := neg t tv
      rw [if_neg fun z => z.1.elim g fun z => by rw [im] at z; omega, if_neg g]
      cases w : lkB b t with
      | some v =>
        have hv : (t, v) ∈ b := by
          clear sb bv
          induction b with
          | nil => cases w
          | cons p r ih =>
            obtain ⟨k, u⟩ := p
            have w : (if k = t then some u else lkB r t) = some v := w
            by_cases e : k = t
            · rw [if_pos e] at w
              cases w
              rw [e]; exact List.mem_cons_self
            · rw [if_neg e] at w
              exact List.mem_cons_of_mem _ (ih w)
        have ev : v = i := by rw [im]; exact sb _ hv
        show ∃ b', (if v = i then putK s1 s2 b ps else none) = some b' ∧ _
        rw [if_pos ev]
        exact putK_go inj neg hb sb bv hr
      | none =>
        have nin := lkB_none.mp w
        show ∃ b', (if i ∈ b.map (·.2) ∨ bnd s1 t ≠ bnd s2 i then none else putK s1 s2 (b ++ [(t, i)]) ps) = some b' ∧ _
        have no : ¬ (i ∈ b.map (·.2) ∨ bnd s1 t ≠ bnd s2 i) := by
          rintro (z | z)
          · obtain ⟨p, hp, e⟩ := List.mem_map.mp z
            have : p.1 = t := inj _ (bv p hp) _ tv (by rw [← sb p hp, e, im])
            exact nin (List.mem_map.mpr ⟨p, hp, this⟩)
          · exact z (by rw [im]; exact hb t tv)
        rw [if_neg no]
        refine putK_go inj neg hb (fun p hp => ?_) (fun p hp => ?_) hr
        · rcases List.mem_append.mp hp with z | z
          · exact sb p z
          · rw [List.mem_singleton] at z
            rw [z]; exact im
        · rcases List.mem_append.mp hp with z | z
          · exact bv p z
          · rw [List.mem_singleton] at z
            rw [z]; exact tv
end AL
namespace AL
open PySem L2
/-! P17: the plain law: the first way. -/
structure MatOk (s1 s2 : List Span) (os rs : List Row) (b b' : Bd) : Prop where
  nm : NmK s1 s2 b'
  old : ∀ t v, lkB b t = some v → lkB b' t = some v
  row : ∀ r ∈ rs, ∃ q ∈ os, q.1 = r.1 ∧ (∀ p ∈ r.2.zip q.2, 0 ≤ p.1 → p.1 = p.2) ∧ ∀ p ∈ r.2.zip q.2, p.1 < 0 → lkB b' p.1 = some p.2
theorem matF_ok {s1 s2 : List Span} {os : List Row} : ∀ {rs : List Row} {b b' : Bd}, NmK s1 s2 b → b.length + 5 * rs.length ≤ 800 → (∀ r ∈ rs, r.2.length ≤ 5) → matF s1 s2 os rs b = some b' → MatOk s1 s2 os rs b b'
  | [], b, b', nm, _, _, e => by
    have e : some b = some b' := e
    cases e
    exact ⟨nm, fun _ _ h => h, fun r h => nomatch h⟩
  | r :: rs, b, b', nm, hl, hw, e => by
    rw [List.length_cons] at hl
    have e : (os.findSome? fun q => (tryK s1 s2 b r q).bind (matF s1 s2 os rs)) = some b' := e
    obtain ⟨q, hq, e⟩ := List.exists_of_findSome?_eq_some e
    cases w : tryK s1 s2 b r q with
    | none => rw [w] at e; cases e
    | some c =>
      rw [w] at e
      have e : matF s1 s2 os rs c = some b' := e
      unfold tryK at w
      by_cases en : q.1 = r.1
      · rw [if_pos en] at w
        have lz : (r.2.zip q.2).length ≤ 5 := by
          rw [List.length_zip]
          have := hw r List.mem_cons_self
          omega
        have pk := putK_ok nm (by omega) w
        have pl := (putK_bd nm.ok (by omega) w).2
        have ih := matF_ok pk.nm (by omega) (fun z hz => hw z (List.mem_cons_of_mem _ hz)) e
        refine ⟨ih.nm, fun t v h => ih.old t v (pk.old t v h), fun z hz => ?_⟩
        rcases List.mem_cons.mp hz with h | h
        · rw [h]
          exact ⟨q, hq, en, pk.pos, fun p hp lt => ih.old _ _ (pk.new p hp lt)⟩
        · exact ih.row z h
      · rw [if_neg en] at w; cases w
theorem matF_go {s1 s2 : List Span} {os : List Row} {m : Int → Int} {vs : List Int} (inj : ∀ x ∈ vs, ∀ y ∈ vs, m x = m y → x = y) (neg : ∀ x ∈ vs, m x < 0) (hb : ∀ x ∈ vs, bnd s1 x = bnd s2 (m x)) :
    ∀ {rs : List Row} {b : Bd}, Sub m b → (∀ p ∈ b, p.1 ∈ vs) → (∀ r ∈ rs, (∀ x ∈ r.2, x < 0 → x ∈ vs) ∧ (r.1, r.2.map fun x => if 0 ≤ x then x else m x) ∈ os) → ∃ b', matF s1 s2 os rs b = some b'
  | [], b, _, _, _ => ⟨b, rfl⟩
  | r :: rs, b, sb, bv, h => by
    obtain ⟨h1, h2⟩ := h r List.mem_cons_self
    obtain ⟨c, ec, sc, cv⟩ := putK_go (s1 := s1) (s2 := s2) inj neg hb (ps := r.2.zip (r.2.map fun x => if 0 ≤ x then x else m x)) sb bv (fun p hp => by
      rw [List.zip_map_right] at hp
      obtain ⟨⟨x, y⟩, hxy, rfl⟩ := List.mem_map.mp hp
      have exy : x = y ∧ x ∈ r.2 := by
        have : ∀ (l : List Int), (x, y) ∈ l.zip l → x = y ∧ x ∈ l := by
          intro l
          induction l with
          | nil => intro z; cases z
          | cons a l ih =>
            intro z
            rcases List.mem_cons.mp z with z | z
            · injection z with z1 z2
              exact ⟨by rw [z1, z2], by rw [z1]; exact List.mem_cons_self⟩
            · exact ⟨(ih z).1, List.mem_cons_of_mem _ (ih z).2⟩
        exact this r.2 hxy
      obtain ⟨rfl, hx⟩ := exy
      refine ⟨fun g => ?_, fun g => ⟨h1 x hx g, ?_⟩⟩
      · have g : 0 ≤ x := g
        show (if 0 ≤ x then x else m x) = x
        rw [if_pos g]
      · show (if 0 ≤ x then x else m x) = m x
        have g : x < 0 := g
        rw [if_neg (by omega)])
    obtain ⟨b', eb⟩ := matF_go (os := os) inj neg hb (rs := rs) sc cv fun z hz => h z (List.mem_cons_of_mem _ hz)
    show ∃ b', (os.findSome? fun q => (tryK s1 s2 b r q).bind (matF s1 s2 os rs)) = some b'
    cases w : os.findSome? fun q => (tryK s1 s2 b r q).bind (matF s1 s2 os rs) with
    | some z => exact ⟨z, rfl⟩
    | none =>
      have := List.findSome?_eq_none_iff.mp w _ h2
      unfold tryK at this
      rw [if_pos rfl, ec] at this
      have this : matF s1 s2 os rs c = none := this
      rw [eb] at this
      cases this
end AL
namespace AL
open PySem L2
/-! P18: same_kind. -/
theorem case_spans {t : Tree} (o : CaseOk t) : t.spans.length = (vars t.rows).length := by
  have p := (List.perm_ext_iff_of_nodup o.snd (vars_nodup t.rows)).mpr o.skey
  have := p.length_eq
  rw [List.length_map] at this
  exact this
theorem CaseOk.tree {t : Tree} (o : CaseOk t) : TreeOk t :=
  ⟨⟨by have := o.rl; omega, fun r hr => (o.rok r hr).1⟩, o.nots, by have := case_spans o; have := o.vl; omega, by have := o.wl; omega, o.snd⟩
theorem outD_pl {t : Tree} (ok : TreeOk t) : Pl 5 (outD t) := .tup fun d h => by
  simp only [List.mem_cons, List.not_mem_nil, or_false] at h
  rcases h with rfl | rfl
  · refine .tup fun d h => ?_
    obtain ⟨r, hr, rfl⟩ := List.mem_map.mp (List.mem_mergeSort.mp h)
    exact orow_pl (ok.rows.2 r hr)
  · refine .tup (n := 3) fun d h => ?_
    obtain ⟨x, _, rfl⟩ := List.mem_map.mp h
    exact (prD_pl _).up (by omega)
theorem zip_left {ts : List Int} {is : List Int} (h : ts.length = is.length) : ∀ t ∈ ts, ∃ i, (t, i) ∈ ts.zip is := by
  induction ts generalizing is with
  | nil => intro t h; cases h
  | cons a ts ih =>
    cases is with
    | nil => cases h
    | cons v is =>
      intro t ht
      rcases List.mem_cons.mp ht with z | z
      · exact ⟨v, by rw [z]; exact List.mem_cons_self⟩
      · obtain ⟨w, hw⟩ := ih (by simpa using h) t z
        exact ⟨w, List.mem_cons_of_mem _ hw⟩
theorem vars_mem' : ∀ (rs : List Row) (told : List Int) (x : Int), x ∈ varsFrom told rs → x ∈ told ∨ (x < 0 ∧ ∃ r ∈ rs, x ∈ r.2)
  | [], told, x, h => .inl h
  | r :: rs, told, x, h => by
    have am : ∀ (ts told : List Int) (x : Int), x ∈ addVars told ts → x ∈ told ∨ (x < 0 ∧ x ∈ ts) := by
      intro ts
      induction ts with
      | nil => exact fun told x h => .inl h
      | cons t ts ih =>
        intro told x h
        rw [addVars_cons] at h
        rcases ih _ x h with z | z
        · by_cases c : t < 0 ∧ t ∉ told
          · rw [if_pos c] at z
            rcases List.mem_append.mp z with z | z
            · exact .inl z
            · rw [List.mem_singleton] at z
              rw [z]; exact .inr ⟨c.1, List.mem_cons_self⟩
          · rw [if_neg c] at z; exact .inl z
        · exact .inr ⟨z.1, List.mem_cons_of_mem _ z.2⟩
    rcases vars_mem' rs (addVars told r.2) x h with z | ⟨z1, q, hq, z2⟩
    · rcases am r.2 told x z with z | z
      · exact .inl z
      · exact .inr ⟨z.1, r, List.mem_cons_self, z.2⟩
    · exact .inr ⟨z1, q, List.mem_cons_of_mem _ hq, z2⟩
/-- the first way binds all variables -/
theorem mat_keys {t o : Tree} {ar : Str → Nat} {b b' : Bd} (at_ : Ar ar t) (ao : Ar ar o) (m : MatOk t.spans o.spans o.rows t.rows b b') : ∀ x ∈ vars t.rows, x ∈ b'.map (·.1) := fun x hx => by
  rcases vars_mem' t.rows [] x hx with z | ⟨lt, r, hr, hx⟩
  · cases z
  · obtain ⟨q, hq, en, _, hn⟩ := m.row r hr
    have hl : r.2.length = q.2.length := by rw [at_ r hr, ao q hq, en]
    obtain ⟨i, hi⟩ := zip_left hl x hx
    by_cases c : x ∈ b'.map (·.1)
    · exact c
    · have := hn _ hi lt
      rw [lkB_none.mpr c] at this
      cases this
set_option maxHeartbeats 0 in
theorem p_same_kind {C : Addr} : BodyOk 2 5 B_same_kind (a_same_kind C) (S_same_kind C) := by
  rintro _ R ⟨t, o, ar, rfl, ct, co, at_, ao, k⟩
  refine ⟨rfl, ownN (ds := [_, _]), ?_⟩
  have to := ct.tree
  have oo := co.tree
  have trl := ct.rl
  have twl := ct.wl
  have owl := co.wl
  conv => whnf
  repeat (refine ⟨trivial, ?_⟩; conv => whnf)
  refine ⟨_, fld_rows, ?_⟩
  conv => whnf
  repeat (refine ⟨trivial, ?_⟩; conv => whnf)
  refine ⟨_, fld_rows, ?_⟩
  conv => whnf
  repeat (refine ⟨trivial, ?_⟩; conv => whnf)
  refine ne_int ?_
  rw [List.length_map, List.length_map]
  conv => whnf
  repeat (refine ⟨trivial, ?_⟩; conv => whnf)
  refine brI (fun h => ?_) (fun h => ?_)
  · have ne : t.rows.length ≠ o.rows.length := fun z => by
      rw [z] at h
      simp at h
    have e : sameF t o = none := if_pos (.inl ne)
    rw [e] at k
    conv => whnf
    repeat (refine ⟨trivial, ?_⟩; conv => whnf)
    refine brT rfl ?_
    conv => whnf
    repeat (refine ⟨trivial, ?_⟩; conv => whnf)
    exact ⟨nat_ _, k⟩
  · have el : t.rows.length = o.rows.length := by
      have : ((t.rows.length : Int) = (o.rows.length : Int)) := by simpa using h
      omega
    conv => whnf
    repeat (refine ⟨trivial, ?_⟩; conv => whnf)
    refine use_outline t to ?_
    conv => whnf
    repeat (refine ⟨trivial, ?_⟩; conv => whnf)
    refine use_outline o oo ?_
    conv => whnf
    repeat (refine ⟨trivial, ?_⟩; conv => whnf)
    refine ne_pl (outD_pl to) (outD_pl oo) ?_
    conv => whnf
    repeat (refine ⟨trivial, ?_⟩; conv => whnf)
    refine brI (fun h => ?_) (fun h => ?_)
    · have ne : outD t ≠ outD o := fun z => by
        rw [z] at h
        simp at h
      have e : sameF t o = none := if_pos (.inr ne)
      rw [e] at k
      conv => whnf
      repeat (refine ⟨trivial, ?_⟩; conv => whnf)
      exact ⟨nat_ _, k⟩
    · have eo : outD t = outD o := by simpa using h
      have e : sameF t o = (putK t.spans o.spans [] (t.wide.zip o.wide)).bind fun b => (matF t.spans o.spans o.rows t.rows b).map fun b => (vars t.rows).map fun x => (lkB b x).getD 0 := if_neg fun z => z.elim (fun z => z el) fun z => z eo
      rw [e] at k
      conv => whnf
      repeat (refine ⟨trivial, ?_⟩; conv => whnf)
      refine ⟨_, fld_wide, ?_⟩
      conv => whnf
      repeat (refine ⟨trivial, ?_⟩; conv => whnf)
      refine ⟨_, fld_wide, ?_⟩
      conv => whnf
      repeat (refine ⟨trivial, ?_⟩; conv => whnf)
      refine use_putk t o [] t.wide o.wide to oo (nmk_nil [] []).ok (by simp) (by omega) (by omega) ?_
      cases ep : putK t.spans o.spans [] (t.wide.zip o.wide) with
      | none =>
        rw [ep] at k
        conv => whnf
        repeat (refine ⟨trivial, ?_⟩; conv => whnf)
        refine brT rfl ?_
        conv => whnf
        repeat (refine ⟨trivial, ?_⟩; conv => whnf)
        exact ⟨nat_ _, k⟩
      | some b =>
        rw [ep] at k
        have k : R (.dat (match (matF t.spans o.spans o.rows t.rows b).map fun b => (vars t.rows).map fun x => (lkB b x).getD 0 with
          | some l => tmD l
          | none => .non)) [.dat (objD C t), .dat (objD C o)] := k
        have lz : (t.wide.zip o.wide).length ≤ 10 := by rw [List.length_zip]; omega
        have nb := (putK_ok (nmk_nil t.spans o.spans) (by simp; omega) ep).nm
        have bl := (putK_bd (nmk_nil t.spans o.spans).ok (by simp; omega) ep).2
        rw [List.length_nil] at bl
        have t4 : ∀ r ∈ t.rows, r.2.length ≤ 5 := fun r hr => by have := (ct.rok r hr).2; omega
        have o4 : ∀ r ∈ o.rows, r.2.length ≤ 5 := fun r hr => by have := (co.rok r hr).2; omega
        have tail : ∀ x2 : AV, same_kind_0_5 C { nx := fun env => R (.dat .non) (outs [.dat (objD C t), .dat (objD C o)] env), rt := fun r env => (∀ i, r ≠ .at i) ∧ R r (outs [.dat (objD C t), .dat (objD C o)] env) } [.dat (objD C t), .dat (objD C o), x2, .own (.lst ((matF t.spans o.spans o.rows t.rows b).toList.map bD)), .un] := fun x2 => by
          cases em : matF t.spans o.spans o.rows t.rows b with
          | none =>
            rw [em] at k
            conv => whnf
            repeat (refine ⟨trivial, ?_⟩; conv => whnf)
            refine brT rfl ?_
            conv => whnf
            repeat (refine ⟨trivial, ?_⟩; conv => whnf)
            exact ⟨nat_ _, k⟩
          | some b' =>
            rw [em] at k
            have mo := matF_ok nb (by omega) t4 em
            have keys := mat_keys at_ ao mo
            conv => whnf
            repeat (refine ⟨trivial, ?_⟩; conv => whnf)
            refine brF rfl ?_
            conv => whnf
            repeat (refine ⟨trivial, ?_⟩; conv => whnf)
            refine ⟨⟨_, _, rfl, rfl⟩, ?_⟩
            conv => whnf
            repeat (refine ⟨trivial, ?_⟩; conv => whnf)
            refine use_bvars t to ?_
            conv => whnf
            repeat (refine ⟨trivial, ?_⟩; conv => whnf)
            intro _
            refine ⟨noOwn_one (x := .un) rfl (fun e z => by cases z), sz_le (by rw [List.length_map]; have := ct.vl; omega), ?_⟩
            refine lc_ind (Ev := fun env => env = [.dat (objD C t), .dat (objD C o), x2, .own (.lst ([b'].map bD)), .un]) (Stp := fun y oz => ∃ x : Int, y = .int x ∧ oz = some (.int ((lkB b' x).getD 0))) _ ?_ _ _ rfl ?_
            · rintro y hy _ K rfl hK
              obtain ⟨x, hx, rfl⟩ := List.mem_map.mp hy
              conv => whnf
              repeat (refine ⟨trivial, ?_⟩; conv => whnf)
              rw [brP_true]
              conv => whnf
              repeat (refine ⟨trivial, ?_⟩; conv => whnf)
              refine ix_lst (by omega) rfl ?_
              conv => whnf
              repeat (refine ⟨trivial, ?_⟩; conv => whnf)
              refine ix_bd (keys x hx) ?_
              conv => whnf
              repeat (refine ⟨trivial, ?_⟩; conv => whnf)
              exact hK _ _ rfl ⟨x, rfl, rfl⟩
            · rintro zs _ ot rfl
              have ez := ot.map (f := fun x => D.int ((lkB b' x).getD 0)) fun x oz ⟨u, e1, e2⟩ => by
                cases e1
                exact e2
              have e : D.tup zs = tmD ((vars t.rows).map fun x => (lkB b' x).getD 0) := by
                rw [ez]
                unfold tmD
                rw [List.map_map]
                rfl
              conv => whnf
              repeat (refine ⟨trivial, ?_⟩; conv => whnf)
              rw [e]
              exact ⟨nat_ _, k⟩
        rintro rv (rfl | rfl) <;>
        · conv => whnf
          repeat (refine ⟨trivial, ?_⟩; conv => whnf)
          refine brF rfl ?_
          conv => whnf
          repeat (refine ⟨trivial, ?_⟩; conv => whnf)
          refine ⟨Nat.zero_le _, ?_⟩
          conv => whnf
          repeat (refine ⟨trivial, ?_⟩; conv => whnf)
          have key := fun R x2 k' => use_match (C := C) (n := 16) (env := [.dat (objD C t), .dat (objD C o), x2, .own (.lst (([] : List Bd).map bD)), .un]) 3 t o 0 b [] (R := R) rfl to oo nb.ok trl (by omega) t4 o4 (by simp) (Nat.zero_le _) (by omega) k'
          refine key _ _ ?_
          rw [if_pos rfl]
          exact tail _
end AL
namespace AL
open PySem L2
/-! P19: shows_kind. -/
theorem zip_fst2 {as bs : List Int} (h : as.length = bs.length) : (as.zip bs).map (·.1) = as ∧ (as.zip bs).map (·.2) = bs := by
  induction as generalizing bs with
  | nil =>
    cases bs with
    | nil => exact ⟨rfl, rfl⟩
    | cons b bs => cases h
  | cons a as ih =>
    cases bs with
    | nil => cases h
    | cons b bs =>
      obtain ⟨h1, h2⟩ := ih (bs := bs) (by simpa using h)
      exact ⟨by rw [List.zip_cons_cons, List.map_cons, h1], by rw [List.zip_cons_cons, List.map_cons, h2]⟩
theorem toInts_map : ∀ {l : List Img} {is : List Int}, toInts l = some is → l.map imD = is.map D.int
  | [], is, e => by
    have e : some [] = some is := e
    cases e
    rfl
  | .int i :: r, is, e => by
    have e : (toInts r).map (i :: ·) = some is := e
    cases w : toInts r with
    | none => rw [w] at e; cases e
    | some js =>
      rw [w] at e
      have e : some (i :: js) = some is := e
      cases e
      rw [List.map_cons, toInts_map w]
      rfl
  | .bl _ :: _, _, e => by cases e
  | .non :: _, _, e => by cases e
  | .str _ :: _, _, e => by cases e
theorem offI_some {n : Nat} {o : Off} {is : List Int} (h : offI n o = some is) : ofD o = tmD is ∧ is.length = n := by
  cases o with
  | tup l =>
    have h : (if l.length = n then toInts l else none) = some is := h
    by_cases e : l.length = n
    · rw [if_pos e] at h
      have m := toInts_map h
      refine ⟨by show D.tup (l.map imD) = _; rw [m]; rfl, ?_⟩
      have := congrArg List.length m
      rw [List.length_map, List.length_map] at this
      omega
    · rw [if_neg e] at h; cases h
  | lst l => cases h
  | one i => cases h
theorem bd_zip {rs : List Row} {is : List Int} (hl : (vars rs).length = is.length) (h5 : (vars rs).length ≤ 500) : BdOk ((vars rs).zip is) := by
  refine ⟨by rw [(zip_fst2 hl).1]; exact vars_nodup rs, by rw [List.length_zip]; omega, fun p hp => ?_⟩
  have : p.1 ∈ vars rs := by
    rw [← (zip_fst2 hl).1]
    exact List.mem_map.mpr ⟨p, hp, rfl⟩
  exact vars_neg rs _ this
end AL
namespace AL
open PySem L2
/-! P20: shows_kind. -/
theorem unl_len_nd {α : Type} [DecidableEq α] : ∀ (xs told : List α), told.Nodup → (unl told xs).length = told.length + xs.length → (told ++ xs).Nodup
  | [], told, nd, _ => by rw [List.append_nil]; exact nd
  | x :: xs, told, nd, h => by
    have h : (unl (if x ∈ told then told else told ++ [x]) xs).length = told.length + (xs.length + 1) := h
    by_cases m : x ∈ told
    · rw [if_pos m] at h
      have := unl_len xs told
      omega
    · rw [if_neg m] at h
      have nd2 : (told ++ [x]).Nodup := by
        rw [List.nodup_append]
        refine ⟨nd, List.nodup_cons.mpr ⟨by simp, List.nodup_nil⟩, fun a ha b hb e => ?_⟩
        rw [List.mem_singleton] at hb
        rw [hb] at e
        rw [e] at ha
        exact m ha
      have := unl_len_nd xs (told ++ [x]) nd2 (by rw [h, List.length_append, List.length_singleton]; omega)
      rw [List.append_assoc] at this
      exact this
theorem card_nd {ms is : List Int} (nd : ms.Nodup) (h : ∀ k, k ∈ ms ↔ k ∈ is) : ms.length = is.length ↔ is.Nodup := by
  have p : ms.Perm (unl [] is) := (List.perm_ext_iff_of_nodup nd (unl_nodup is [] List.nodup_nil)).mpr fun k => by
    rw [h, unl_in]
    simp
  rw [p.length_eq]
  constructor
  · intro e
    have := unl_len_nd is [] List.nodup_nil (by rw [e]; simp)
    exact this
  · intro e
    have : unl [] is = is := unl_self is [] e
    rw [this]
theorem all_bls {α : Type} {S : D → Option D → Prop} {g : α → D} {p : α → Bool} {xs : List α} {zs : List D} (inj : ∀ a b, g a = g b → a = b) (h : ∀ y oz, S y oz → ∃ a, y = g a ∧ oz = some (.bl (p a))) (o : Outs S (xs.map g) zs) : ∃ bs : List Bool, zs = bs.map D.bl ∧ bs.all id = xs.all p := by
  have ez := o.map (f := fun a => D.bl (p a)) fun a oz s => by
    obtain ⟨b, e1, e2⟩ := h _ _ s
    rw [inj a b e1]
    exact e2
  exact ⟨xs.map p, by rw [ez, List.map_map]; rfl, by rw [List.all_map]; rfl⟩
theorem int_inj (a b : Int) (h : D.int a = D.int b) : a = b := by injection h
section
variable {C : Addr} {t o : Tree} {is : List Int} {R : RV → AEnv → Prop}
def skA (R : RV → AEnv → Prop) (C : Addr) (t o : Tree) (is : List Int) : AEnds := { nx := fun env => R (.dat .non) (outs [.dat (objD C t), .dat (objD C o), .dat (tmD is)] env), rt := fun r env => (∀ i, r ≠ .at i) ∧ R r (outs [.dat (objD C t), .dat (objD C o), .dat (tmD is)] env) }
theorem sk_ret {b : Bool} (k : R (.dat (.bl b)) [.dat (objD C t), .dat (objD C o), .dat (tmD is)]) (env : AEnv) : (skA R C t o is).rt (.dat (.bl b)) env := by
  refine ⟨nat_ _, ?_⟩
  have e : outs [.dat (objD C t), .dat (objD C o), .dat (tmD is)] env = _ := outs_dat [objD C t, objD C o, tmD is] env
  rw [e]
  exact k
set_option maxHeartbeats 0 in
theorem sk5 {x3 x4 x7 : AV} (to : TreeOk t) (oo : TreeOk o) (bo : BdOk ((vars t.rows).zip is)) (hk : Has ((((vars t.rows).zip is)).map (·.1)) (vars t.rows)) (h3 : x3 = .own (bD ((vars t.rows).zip is)) ∨ x3 = .dat (bD ((vars t.rows).zip is)))
    (k : R (.dat (.bl (t.rows.all fun r => decide ((r.1, vl r.2 ((vars t.rows).zip is)) ∈ o.rows)))) [.dat (objD C t), .dat (objD C o), .dat (tmD is)]) :
    shows_kind_0_5 C (skA R C t o is) [.dat (objD C t), .dat (objD C o), .dat (tmD is), x3, x4, .un, .un, x7] := by
  generalize hb : (vars t.rows).zip is = b at *
  have rl := to.rows.1
  have main : ∀ (x3 : AV) (Kc : List D → AEnv → Prop), (x3 = .own (bD b) ∨ x3 = .dat (bD b)) → (∀ (bs : List Bool) (env : AEnv), bs.all id = (t.rows.all fun r => decide ((r.1, vl r.2 b) ∈ o.rows)) → Kc (bs.map D.bl) env) → lcL (agTup 2 (agCons (agName 5) (agCons (agName 6) agNil))) atYes (aOp (fIn false) (aTup (aConsD (aVar 5) (aConsD (aFn S_laid (aConsD (aVar 6) (aConsD (aVar 3) aNil))) aNil))) (aFld C "rows" (aVar 1))) [5, 6] (t.rows.map rowD) Kc [.dat (objD C t), .dat (objD C o), .dat (tmD is), x3, x4, .un, .un, x7] := fun x3 Kc h3 hKc => by
    refine lc_ind (Ev := fun env => ∃ y3, (y3 = .own (bD b) ∨ y3 = .dat (bD b)) ∧ env = [.dat (objD C t), .dat (objD C o), .dat (tmD is), y3, x4, .un, .un, x7]) (Stp := fun y oz => ∃ r : Row, y = rowD r ∧ oz = some (.bl (decide ((r.1, vl r.2 b) ∈ o.rows)))) _ ?_ _ _ ⟨x3, h3, rfl⟩ ?_
    · rintro y hy _ K ⟨y3, hy3, rfl⟩ hK
      obtain ⟨r, hr, rfl⟩ := List.mem_map.mp hy
      have rok := to.rows.2 r hr
      have has : Has (b.map (·.1)) r.2 := fun x hx lt => hk x (vars_has t.rows r hr x hx lt) lt
      rcases hy3 with rfl | rfl <;>
      · conv => whnf
        repeat (refine ⟨trivial, ?_⟩; conv => whnf)
        refine ⟨rfl, ?_⟩
        conv => whnf
        repeat (refine ⟨trivial, ?_⟩; conv => whnf)
        refine ⟨rfl, ?_⟩
        conv => whnf
        repeat (refine ⟨trivial, ?_⟩; conv => whnf)
        rw [brP_true]
        conv => whnf
        repeat (refine ⟨trivial, ?_⟩; conv => whnf)
        refine use_laid r.2 b (by have := rok.2; omega) bo has ?_
        conv => whnf
        repeat (refine ⟨trivial, ?_⟩; conv => whnf)
        refine ⟨sz2, ?_⟩
        conv => whnf
        repeat (refine ⟨trivial, ?_⟩; conv => whnf)
        refine ⟨_, fld_rows, ?_⟩
        conv => whnf
        repeat (refine ⟨trivial, ?_⟩; conv => whnf)
        have pl : ∀ q : Row, RowOk q → Pl 2 (rowD q) := fun q ok => rowD_pl ok
        refine in_tup (d := rowD (r.1, vl r.2 b)) (pl _ ⟨rok.1, by unfold vl; rw [List.length_map]; exact rok.2⟩) (fun x hx => by
          obtain ⟨q, hq, rfl⟩ := List.mem_map.mp hx
          exact pl q (oo.rows.2 q hq)) ?_
        have em : decide (rowD (r.1, vl r.2 b) ∈ o.rows.map rowD) = decide ((r.1, vl r.2 b) ∈ o.rows) := by
          rw [Bool.eq_iff_iff, decide_eq_true_iff, decide_eq_true_iff]
          constructor
          · intro h
            obtain ⟨q, hq, e⟩ := List.mem_map.mp h
            rw [← rowD_inj.mp e]; exact hq
          · exact fun h => List.mem_map.mpr ⟨_, h, rfl⟩
        rw [em]
        exact hK _ _ ⟨_, .inr rfl, rfl⟩ ⟨r, rfl, rfl⟩
    · rintro zs env ot _
      obtain ⟨bs, e, ea⟩ := all_bls (fun a b h => rowD_inj.mp h) (fun y oz h => h) ot
      rw [e]
      exact hKc bs env ea
  rcases h3 with rfl | rfl <;>
  · conv => whnf
    repeat (refine ⟨trivial, ?_⟩; conv => whnf)
    refine ⟨_, fld_rows, ?_⟩
    conv => whnf
    repeat (refine ⟨trivial, ?_⟩; conv => whnf)
    intro _
    refine ⟨noOwn_two (x := .un) (y := .un) rfl (fun e z => by cases z) rfl (fun e z => by cases z), sz_le (by rw [List.length_map]; omega), ?_⟩
    refine main _ _ (by first | exact .inl rfl | exact .inr rfl) fun bs env ea => ?_
    conv => whnf
    repeat (refine ⟨trivial, ?_⟩; conv => whnf)
    refine ⟨bs, rfl, ?_⟩
    rw [ea]
    exact sk_ret k _
end
end AL
namespace AL
open PySem L2
/-! P21: shows_kind, the stages ahead. -/
section
variable {C : Addr} {t o : Tree} {is : List Int} {R : RV → AEnv → Prop}
abbrev skK (R : RV → AEnv → Prop) (C : Addr) (t o : Tree) (is : List Int) (b : Bool) : Prop := R (.dat (.bl b)) [.dat (objD C t), .dat (objD C o), .dat (tmD is)]
set_option maxHeartbeats 0 in
theorem sk4 {x3 x4 x7 : AV} (ct : CaseOk t) (co : CaseOk o) (bo : BdOk ((vars t.rows).zip is)) (hk : (((vars t.rows).zip is)).map (·.1) = vars t.rows) (h3 : x3 = .own (bD ((vars t.rows).zip is)) ∨ x3 = .dat (bD ((vars t.rows).zip is)))
    (k : skK R C t o is (decide (vl t.wide ((vars t.rows).zip is) = o.wide) && decide ((vars o.rows).length = is.length) && t.rows.all fun r => decide ((r.1, vl r.2 ((vars t.rows).zip is)) ∈ o.rows))) :
    shows_kind_0_4 C (skA R C t o is) [.dat (objD C t), .dat (objD C o), .dat (tmD is), x3, x4, .un, .un, x7] := by
  have to := ct.tree
  have oo := co.tree
  have wl := ct.wl
  have has : Has ((((vars t.rows).zip is)).map (·.1)) t.wide := by rw [hk]; exact ct.wh
  have hv : Has ((((vars t.rows).zip is)).map (·.1)) (vars t.rows) := by rw [hk]; exact fun x hx _ => hx
  rcases h3 with rfl | rfl <;>
  · conv => whnf
    repeat (refine ⟨trivial, ?_⟩; conv => whnf)
    refine ⟨_, fld_wide, ?_⟩
    conv => whnf
    repeat (refine ⟨trivial, ?_⟩; conv => whnf)
    refine use_laid t.wide ((vars t.rows).zip is) (by omega) bo has ?_
    conv => whnf
    repeat (refine ⟨trivial, ?_⟩; conv => whnf)
    refine ⟨_, fld_wide, ?_⟩
    conv => whnf
    repeat (refine ⟨trivial, ?_⟩; conv => whnf)
    refine ne_pl (tmD_pl _) (tmD_pl _) ?_
    conv => whnf
    repeat (refine ⟨trivial, ?_⟩; conv => whnf)
    refine brI (fun h => ?_) (fun h => ?_)
    · have ne : ¬ vl t.wide ((vars t.rows).zip is) = o.wide := fun z => by
        rw [z] at h
        simp at h
      rw [decide_eq_false ne] at k
      conv => whnf
      repeat (refine ⟨trivial, ?_⟩; conv => whnf)
      refine brT rfl ?_
      conv => whnf
      repeat (refine ⟨trivial, ?_⟩; conv => whnf)
      exact sk_ret k _
    · have eq : vl t.wide ((vars t.rows).zip is) = o.wide := by
        have : tmD (vl t.wide ((vars t.rows).zip is)) = tmD o.wide := by simpa using h
        exact tmD_inj.mp this
      rw [decide_eq_true eq] at k
      conv => whnf
      repeat (refine ⟨trivial, ?_⟩; conv => whnf)
      refine ⟨⟨_, _, rfl, rfl⟩, ?_⟩
      conv => whnf
      repeat (refine ⟨trivial, ?_⟩; conv => whnf)
      refine use_bvars o oo ?_
      conv => whnf
      repeat (refine ⟨trivial, ?_⟩; conv => whnf)
      refine ne_int ?_
      rw [List.length_map, List.length_map]
      conv => whnf
      repeat (refine ⟨trivial, ?_⟩; conv => whnf)
      refine brI (fun h => ?_) (fun h => ?_)
      · have ne : ¬ (vars o.rows).length = is.length := fun z => by
          rw [z] at h
          simp at h
        rw [decide_eq_false ne] at k
        exact sk_ret k _
      · have eq2 : (vars o.rows).length = is.length := by
          have : (((vars o.rows).length : Int) = (is.length : Int)) := by simpa using h
          omega
        rw [decide_eq_true eq2] at k
        exact sk5 to oo bo hv (by first | exact .inl rfl | exact .inr rfl) k
end
end AL
namespace AL
open PySem L2
/-! P22: shows_kind, spans. -/
section
variable {C : Addr} {t o : Tree} {is : List Int} {R : RV → AEnv → Prop}
set_option maxHeartbeats 0 in
theorem sk3 {x7 : AV} (ct : CaseOk t) (co : CaseOk o) (bo : BdOk ((vars t.rows).zip is)) (hk : (((vars t.rows).zip is)).map (·.1) = vars t.rows)
    (k : skK R C t o is (((vars t.rows).zip is).all (fun p => decide (bnd t.spans p.1 = bnd o.spans p.2)) && decide (vl t.wide ((vars t.rows).zip is) = o.wide) && decide ((vars o.rows).length = is.length) && t.rows.all fun r => decide ((r.1, vl r.2 ((vars t.rows).zip is)) ∈ o.rows))) :
    shows_kind_0_3 C (skA R C t o is) [.dat (objD C t), .dat (objD C o), .dat (tmD is), .own (bD ((vars t.rows).zip is)), .un, .un, .un, x7] := by
  have to := ct.tree
  have oo := co.tree
  generalize hb : (vars t.rows).zip is = b at *
  have bl := bo.len
  conv => whnf
  repeat (refine ⟨trivial, ?_⟩; conv => whnf)
  refine ⟨sz_le (by rw [List.length_map]; omega), ?_⟩
  conv => whnf
  repeat (refine ⟨trivial, ?_⟩; conv => whnf)
  refine ⟨noOwn_one (x := .un) rfl (fun e z => by cases z), sz_le (by rw [List.length_map]; omega), ?_⟩
  have gb : ∀ p ∈ b, lkB b p.1 = some p.2 := by
    have nd := bo.nd
    clear k hk hb bo bl
    induction b with
    | nil => intro p h; cases h
    | cons q r ih =>
      obtain ⟨x, y⟩ := q
      rw [List.map_cons, List.nodup_cons] at nd
      intro p hp
      show (if x = p.1 then some y else lkB r p.1) = some p.2
      rcases List.mem_cons.mp hp with z | z
      · rw [z, if_pos rfl]
      · rw [if_neg fun e => nd.1 (by rw [e]; exact List.mem_map.mpr ⟨p, z, rfl⟩)]
        exact ih nd.2 p z
  refine lc_ind (Ev := fun env => env = [.dat (objD C t), .dat (objD C o), .dat (tmD is), .dat (bD b), .un, .un, .un, x7]) (Stp := fun y oz => ∃ p : Int × Int, p ∈ b ∧ y = .int p.1 ∧ oz = some (.bl (decide (bnd t.spans p.1 = bnd o.spans p.2)))) _ ?_ _ _ rfl ?_
  · rintro y hy _ K rfl hK
    obtain ⟨p, hp, rfl⟩ := List.mem_map.mp hy
    have hin : p.1 ∈ b.map (·.1) := List.mem_map.mpr ⟨p, hp, rfl⟩
    conv => whnf
    repeat (refine ⟨trivial, ?_⟩; conv => whnf)
    rw [brP_true]
    conv => whnf
    repeat (refine ⟨trivial, ?_⟩; conv => whnf)
    refine ⟨⟨_, _, rfl, rfl⟩, ?_⟩
    conv => whnf
    repeat (refine ⟨trivial, ?_⟩; conv => whnf)
    refine use_span t p.1 to ?_
    conv => whnf
    repeat (refine ⟨trivial, ?_⟩; conv => whnf)
    refine ⟨⟨_, _, rfl, rfl⟩, ?_⟩
    conv => whnf
    repeat (refine ⟨trivial, ?_⟩; conv => whnf)
    refine ix_bd hin ?_
    rw [gb p hp]
    conv => whnf
    repeat (refine ⟨trivial, ?_⟩; conv => whnf)
    refine use_span o p.2 oo ?_
    conv => whnf
    repeat (refine ⟨trivial, ?_⟩; conv => whnf)
    refine eq_pl (prD_pl _) (prD_pl _) ?_
    conv => whnf
    repeat (refine ⟨trivial, ?_⟩; conv => whnf)
    have e : decide (prD (bnd t.spans p.1) = prD (bnd o.spans p.2)) = decide (bnd t.spans p.1 = bnd o.spans p.2) := by
      rw [Bool.eq_iff_iff, decide_eq_true_iff, decide_eq_true_iff]
      exact prD_inj
    rw [e]
    exact hK _ _ rfl ⟨p, hp, rfl, rfl⟩
  · rintro zs _ ot rfl
    have ez := ot.map (g := fun p : Int × Int => D.int p.1) (f := fun p => D.bl (decide (bnd t.spans p.1 = bnd o.spans ((lkB b p.1).getD 0)))) fun a oz ⟨p, hp, e1, e2⟩ => by
      injection e1 with e1
      rw [e2, e1, gb p hp]
      rfl
    have ea : (b.map fun p => decide (bnd t.spans p.1 = bnd o.spans ((lkB b p.1).getD 0))).all id = b.all fun p => decide (bnd t.spans p.1 = bnd o.spans p.2) := by
      rw [List.all_map, Bool.eq_iff_iff, List.all_eq_true, List.all_eq_true]
      constructor
      · intro h p hp
        have := h p hp
        show decide (bnd t.spans p.1 = bnd o.spans p.2) = true
        have this : decide (bnd t.spans p.1 = bnd o.spans ((lkB b p.1).getD 0)) = true := this
        rw [gb p hp] at this
        exact this
      · intro h p hp
        show decide (bnd t.spans p.1 = bnd o.spans ((lkB b p.1).getD 0)) = true
        rw [gb p hp]
        exact h p hp
    conv => whnf
    repeat (refine ⟨trivial, ?_⟩; conv => whnf)
    refine ⟨b.map fun p => decide (bnd t.spans p.1 = bnd o.spans ((lkB b p.1).getD 0)), by rw [ez, List.map_map]; rfl, ?_⟩
    rw [ea]
    conv => whnf
    repeat (refine ⟨trivial, ?_⟩; conv => whnf)
    subst hb
    refine brI (fun h => ?_) (fun h => ?_)
    · have e : (((vars t.rows).zip is).all fun p => decide (bnd t.spans p.1 = bnd o.spans p.2)) = false := by simpa using h
      rw [e] at k
      exact sk_ret k _
    · have e : (((vars t.rows).zip is).all fun p => decide (bnd t.spans p.1 = bnd o.spans p.2)) = true := by simpa using h
      rw [e] at k
      exact sk4 ct co bo hk (.inr rfl) k
end
end AL
namespace AL
open PySem L2
/-! P23: shows_kind. -/
section
variable {C : Addr} {t o : Tree} {is : List Int} {R : RV → AEnv → Prop}
set_option maxHeartbeats 0 in
theorem sk2 (ct : CaseOk t) (co : CaseOk o) (il : is.length ≤ 100) (bo : BdOk ((vars t.rows).zip is)) (hk : (((vars t.rows).zip is)).map (·.1) = vars t.rows)
    (k : skK R C t o is (decide is.Nodup && is.all (fun i => decide (i < 0)) && (((vars t.rows).zip is).all (fun p => decide (bnd t.spans p.1 = bnd o.spans p.2)) && decide (vl t.wide ((vars t.rows).zip is) = o.wide) && decide ((vars o.rows).length = is.length) && t.rows.all fun r => decide ((r.1, vl r.2 ((vars t.rows).zip is)) ∈ o.rows)))) :
    shows_kind_0_2 C (skA R C t o is) [.dat (objD C t), .dat (objD C o), .dat (tmD is), .own (bD ((vars t.rows).zip is)), .un, .un, .un, .un] := by
  conv => whnf
  repeat (refine ⟨trivial, ?_⟩; conv => whnf)
  refine ⟨is, rfl, by omega, fun ms nd hm => ?_⟩
  have cn := card_nd nd hm
  conv => whnf
  repeat (refine ⟨trivial, ?_⟩; conv => whnf)
  refine ne_int ?_
  rw [List.length_map]
  conv => whnf
  repeat (refine ⟨trivial, ?_⟩; conv => whnf)
  refine brI (fun h => ?_) (fun h => ?_)
  · have ne : ¬ is.Nodup := fun z => by
      rw [cn.mpr z] at h
      simp at h
    rw [decide_eq_false ne] at k
    conv => whnf
    repeat (refine ⟨trivial, ?_⟩; conv => whnf)
    refine brT rfl ?_
    conv => whnf
    repeat (refine ⟨trivial, ?_⟩; conv => whnf)
    exact sk_ret k _
  · have eq : is.Nodup := cn.mp (by
      have : ((ms.length : Int) = (is.length : Int)) := by simpa using h
      omega)
    rw [decide_eq_true eq] at k
    conv => whnf
    repeat (refine ⟨trivial, ?_⟩; conv => whnf)
    intro _
    refine ⟨noOwn_one (x := .un) rfl (fun e z => by cases z), sz_le (by rw [List.length_map]; omega), ?_⟩
    refine lc_ind (Ev := fun env => env = [.dat (objD C t), .dat (objD C o), .dat (tmD is), .own (bD ((vars t.rows).zip is)), .un, .un, .un, .un]) (Stp := fun y oz => ∃ a : Int, y = .int a ∧ oz = some (.bl (decide (a < 0)))) _ ?_ _ _ rfl ?_
    · rintro y hy _ K rfl hK
      obtain ⟨a, ha, rfl⟩ := List.mem_map.mp hy
      conv => whnf
      repeat (refine ⟨trivial, ?_⟩; conv => whnf)
      rw [brP_true]
      conv => whnf
      repeat (refine ⟨trivial, ?_⟩; conv => whnf)
      exact hK _ _ rfl ⟨a, rfl, rfl⟩
    · rintro zs _ ot rfl
      obtain ⟨bs, rfl, ea⟩ := all_bls int_inj (fun y oz h => h) ot
      conv => whnf
      repeat (refine ⟨trivial, ?_⟩; conv => whnf)
      refine ⟨bs, rfl, ?_⟩
      rw [ea]
      conv => whnf
      repeat (refine ⟨trivial, ?_⟩; conv => whnf)
      refine brI (fun h => ?_) (fun h => ?_)
      · have e : (is.all fun i => decide (i < 0)) = false := by simpa using h
        rw [e] at k
        exact sk_ret k _
      · have e : (is.all fun i => decide (i < 0)) = true := by simpa using h
        rw [e] at k
        exact sk3 ct co bo hk k
end
end AL
namespace AL
open PySem L2
/-! P24: shows_kind, whole. -/
theorem showB_eq (t o : Tree) (is : List Int) : showB t o is = (decide (t.rows.length = o.rows.length) && (decide (t.wide.length = o.wide.length) && (decide is.Nodup && is.all (fun i => decide (i < 0)) && (((vars t.rows).zip is).all (fun p => decide (bnd t.spans p.1 = bnd o.spans p.2)) && decide (vl t.wide ((vars t.rows).zip is) = o.wide) && decide ((vars o.rows).length = is.length) && t.rows.all fun r => decide ((r.1, vl r.2 ((vars t.rows).zip is)) ∈ o.rows))))) := by
  unfold showB
  simp only [Bool.and_assoc]
set_option maxHeartbeats 0 in
theorem p_shows_kind {C : Addr} : BodyOk 3 8 B_shows_kind (a_shows_kind C) (S_shows_kind C) := by
  rintro _ R ⟨t, o, im, rfl, ct, co, ol, k⟩
  refine ⟨rfl, ownN (ds := [_, _, _]), ?_⟩
  have to := ct.tree
  unfold showF at k
  cases e : offI (vars t.rows).length im with
  | none =>
    rw [e] at k
    conv => whnf
    repeat (refine ⟨trivial, ?_⟩; conv => whnf)
    refine use_namesfrom t im to (by omega) ?_
    rw [e]
    conv => whnf
    repeat (refine ⟨trivial, ?_⟩; conv => whnf)
    refine brT rfl ?_
    conv => whnf
    repeat (refine ⟨trivial, ?_⟩; conv => whnf)
    refine brT rfl ?_
    conv => whnf
    repeat (refine ⟨trivial, ?_⟩; conv => whnf)
    exact ⟨nat_ _, k⟩
  | some is =>
    rw [e] at k
    obtain ⟨eo, el⟩ := offI_some e
    have k : R (.dat (.bl (showB t o is))) [.dat (objD C t), .dat (objD C o), .dat (ofD im)] := k
    rw [showB_eq] at k
    have v5 := ct.vl
    have bo := bd_zip (rs := t.rows) (is := is) el.symm (by omega)
    have hk := (zip_fst2 (as := vars t.rows) (bs := is) el.symm).1
    conv => whnf
    repeat (refine ⟨trivial, ?_⟩; conv => whnf)
    refine use_namesfrom t im to (by omega) ?_
    rw [e]
    rw [eo] at k ⊢
    conv => whnf
    repeat (refine ⟨trivial, ?_⟩; conv => whnf)
    refine brF rfl ?_
    conv => whnf
    repeat (refine ⟨trivial, ?_⟩; conv => whnf)
    refine ⟨_, fld_rows, ?_⟩
    conv => whnf
    repeat (refine ⟨trivial, ?_⟩; conv => whnf)
    refine ⟨_, fld_rows, ?_⟩
    conv => whnf
    repeat (refine ⟨trivial, ?_⟩; conv => whnf)
    refine ne_int ?_
    rw [List.length_map, List.length_map]
    conv => whnf
    repeat (refine ⟨trivial, ?_⟩; conv => whnf)
    refine brI (fun h => ?_) (fun h => ?_)
    · have ne : ¬ t.rows.length = o.rows.length := fun z => by
        rw [z] at h
        simp at h
      rw [decide_eq_false ne] at k
      conv => whnf
      repeat (refine ⟨trivial, ?_⟩; conv => whnf)
      refine brT rfl ?_
      conv => whnf
      repeat (refine ⟨trivial, ?_⟩; conv => whnf)
      exact ⟨nat_ _, k⟩
    · have eq : t.rows.length = o.rows.length := by
        have : ((t.rows.length : Int) = (o.rows.length : Int)) := by simpa using h
        omega
      rw [decide_eq_true eq] at k
      conv => whnf
      repeat (refine ⟨trivial, ?_⟩; conv => whnf)
      refine ⟨_, fld_wide, ?_⟩
      conv => whnf
      repeat (refine ⟨trivial, ?_⟩; conv => whnf)
      refine ⟨_, fld_wide, ?_⟩
      conv => whnf
      repeat (refine ⟨trivial, ?_⟩; conv => whnf)
      refine ne_int ?_
      rw [List.length_map, List.length_map]
      conv => whnf
      repeat (refine ⟨trivial, ?_⟩; conv => whnf)
      refine brI (fun h => ?_) (fun h => ?_)
      · have ne : ¬ t.wide.length = o.wide.length := fun z => by
          rw [z] at h
          simp at h
        rw [decide_eq_false ne] at k
        exact ⟨nat_ _, k⟩
      · have eq : t.wide.length = o.wide.length := by
          have : ((t.wide.length : Int) = (o.wide.length : Int)) := by simpa using h
          omega
        rw [decide_eq_true eq] at k
        exact sk2 (R := R) ct co (by omega) bo hk k
theorem use_shows {C : Addr} {env : AEnv} (t o : Tree) (im : Off) {R : RV → AEnv → Prop} (ct : CaseOk t) (co : CaseOk o) (ol : offLen im ≤ 100) (k : R (.dat (.bl (showF t o im))) env) : callR (S_shows_kind C) [.dat (objD C t), .dat (objD C o), .dat (ofD im)] env R :=
  call_dats [_, _, _] ⟨t, o, im, rfl, ct, co, ol, k⟩
end AL
namespace AL
open PySem L2
/-! P25: is_map. -/
theorem ix_cel {sp : List Span} {x : Int} {F : RV → Prop} (h : x ∈ sp.map (·.1)) (f : F (.dat (prD ((lkC sp x).getD (0, 0))))) : fIx (celD sp) (.int x) F := by
  refine ix_dic rfl (z := prD ((lkC sp x).getD (0, 0))) ?_ f
  rw [get_spans]
  unfold lkC
  cases e : sp.find? (fun s => s.1 == x) with
  | none =>
    obtain ⟨s, hs, es⟩ := List.mem_map.mp h
    have := List.find?_eq_none.mp e s hs
    simp [es] at this
  | some s => rfl
theorem lkC_some {sp : List Span} {x : Int} (h : x ∈ sp.map (·.1)) : ∃ p, lkC sp x = some p := by
  unfold lkC
  cases e : sp.find? (fun s => s.1 == x) with
  | none =>
    obtain ⟨s, hs, es⟩ := List.mem_map.mp h
    have := List.find?_eq_none.mp e s hs
    simp [es] at this
  | some s => exact ⟨_, rfl⟩
theorem cel_mem {x : Int} {sp : List Span} : D.int x ∈ (sp.map fun s => D.int s.1) ↔ x ∈ sp.map (·.1) := by
  constructor
  · intro h
    obtain ⟨p, hp, e⟩ := List.mem_map.mp h
    injection e with e
    exact List.mem_map.mpr ⟨p, hp, e⟩
  · intro h
    obtain ⟨p, hp, e⟩ := List.mem_map.mp h
    exact List.mem_map.mpr ⟨p, hp, by rw [e]⟩
theorem alike_ints : ∀ xs ys : List Int, PySem.W.alikeAll (pds (xs.map D.int)) (pds (ys.map D.int)) = true
  | [], _ => by simp [pds, PySem.W.alikeAll]
  | x :: xs, [] => by simp [pds, PySem.W.alikeAll]
  | x :: xs, y :: ys => by
    show PySem.W.alikeAll (.int x :: pds (xs.map D.int)) (.int y :: pds (ys.map D.int)) = true
    rw [PySem.W.alikeAll, alike_ints xs ys]
    rfl
theorem alike_row (r q : Row) : PySem.W.alike (rowD r).pd (rowD q).pd = true := by
  show PySem.W.alike (.tuple [.str r.1, .tuple (pds (r.2.map D.int))]) (.tuple [.str q.1, .tuple (pds (q.2.map D.int))]) = true
  simp [PySem.W.alike, PySem.W.alikeAll, alike_ints]
theorem sort_rows {rs : List Row} (ok : ∀ r ∈ rs, RowOk r) : SortOk (rs.map rowD) := by
  refine ⟨fun d hd d' hd' => ?_, .inl fun d hd => ?_, fun d hd => ?_⟩
  · obtain ⟨e, he, rfl⟩ := List.mem_map.mp hd
    obtain ⟨r, _, rfl⟩ := List.mem_map.mp he
    obtain ⟨e', he', rfl⟩ := List.mem_map.mp hd'
    obtain ⟨q, _, rfl⟩ := List.mem_map.mp he'
    exact alike_row r q
  · obtain ⟨e, he, rfl⟩ := List.mem_map.mp hd
    obtain ⟨r, _, rfl⟩ := List.mem_map.mp he
    exact ⟨_, _, rfl⟩
  · obtain ⟨r, hr, rfl⟩ := List.mem_map.mp hd
    have p := rowD_pl (ok r hr)
    exact ⟨p.sh (by omega), by have := p.dep; omega⟩
theorem sort_pl {rs : List Row} (ok : ∀ r ∈ rs, RowOk r) : ∀ x ∈ sortD (rs.map rowD), Pl 2 x := fun x h => by
  obtain ⟨r, hr, rfl⟩ := List.mem_map.mp (List.mem_mergeSort.mp h)
  exact rowD_pl (ok r hr)
theorem p_law_body_of {C : Addr} : BodyOk 2 2 B_law_body_of (a_law_body_of C) (S_law_body_of C) := by
  rintro _ R ⟨t, ns, rfl, ct, k⟩
  refine ⟨rfl, ownN (ds := [_, _]), ?_⟩
  conv => whnf
  repeat (refine ⟨trivial, ?_⟩; conv => whnf)
  refine ix_tup (by omega) rfl ?_
  conv => whnf
  repeat (refine ⟨trivial, ?_⟩; conv => whnf)
  refine ix_tup (by omega) rfl ?_
  conv => whnf
  repeat (refine ⟨trivial, ?_⟩; conv => whnf)
  refine ix_tup (by omega) rfl ?_
  conv => whnf
  repeat (refine ⟨trivial, ?_⟩; conv => whnf)
  refine call_lent 2 [.tup (t.rows.map rowD), .tup (ns.map rowD), celD t.spans, tmD t.wide] (S := S_Body_init C) (env := [.dat (csD t), .dat (.tup (ns.map rowD)), .own (.obj C [] [])]) rfl ⟨_, _, _, _, rfl, ?_⟩
  conv => whnf
  repeat (refine ⟨trivial, ?_⟩; conv => whnf)
  exact ⟨rfl, _, rfl, new_ _, k⟩
end AL
namespace AL
open PySem L2
/-! P26: the plain law: sorted lists of one content. -/
theorem const_perm {l m : List D} (p : l.Perm m) (h : ∀ a ∈ l, ∀ b ∈ l, a = b) : l = m := by
  cases l with
  | nil => exact (List.nil_perm.mp p).symm
  | cons x r =>
    have e1 : (x :: r) = List.replicate (x :: r).length x := List.eq_replicate_of_mem fun b hb => h b hb x List.mem_cons_self
    have e2 : m = List.replicate m.length x := List.eq_replicate_of_mem fun b hb => h b (p.mem_iff.mpr hb) x List.mem_cons_self
    exact e1.trans ((congrArg (fun n => List.replicate n x) p.length_eq).trans e2.symm)
theorem toks_inj {d e : PyData} (al : PySem.W.alike d e = true) (h : PySem.W.keyToks d = PySem.W.keyToks e) : PyData.eqv d e = true := by
  cases q : PyData.eqv d e with
  | true => rfl
  | false =>
    have := (PySem.W.toks_eqv d e al).2 q [] [.inl 0]
    rw [h, PySem.W.lex_pre, PyProof.Rows.lex_irrefl] at this
    cases this
theorem le_anti {n : Nat} {d e : D} (al : PySem.W.alike d.pd e.pd = true) (p1 : Pl n d) (p2 : Pl n e) (h1 : PySem.W.dataLe false D.pd d e = true) (h2 : PySem.W.dataLe false D.pd e d = true) : d = e := by
  rw [PySem.W.dataLe_eq] at h1 h2
  have a1 : PySem.W.dataLt e.pd d.pd = false := by simpa using h1
  have a2 : PySem.W.dataLt d.pd e.pd = false := by simpa using h2
  exact (p1.eqv p2).mp (toks_inj al (PyProof.Rows.lex_total _ _ a2 a1))
theorem sort_perm {n : Nat} {l m : List D} (p : l.Perm m) (al : ∀ a ∈ l, ∀ b ∈ l, PySem.W.alike a.pd b.pd = true) (pl : ∀ x ∈ l, Pl n x) : sortD l = sortD m := by
  have T : PySem.W.TotalLe (PySem.W.dataLe false D.pd) := PySem.W.sortLe_total _ _ _
  refine PySem.W.sort_one T _ _ (PySem.W.sort_pairwise T l) (PySem.W.sort_pairwise T m) fun c => ?_
  have pp := ((List.mergeSort_perm l (PySem.W.dataLe false D.pd)).trans p).trans (List.mergeSort_perm m (PySem.W.dataLe false D.pd)).symm
  refine const_perm (pp.filter _) fun a ha b hb => ?_
  obtain ⟨ha, ca⟩ := List.mem_filter.mp ha
  obtain ⟨hb, cb⟩ := List.mem_filter.mp hb
  unfold PySem.W.sameRank at ca cb
  rw [Bool.and_eq_true] at ca cb
  have ha := List.mem_mergeSort.mp ha
  have hb := List.mem_mergeSort.mp hb
  exact le_anti (al a ha b hb) (pl a ha) (pl b hb) (T.trans _ _ _ ca.2 cb.1) (T.trans _ _ _ cb.2 ca.1)
theorem sort_rows_perm {l m : List Row} (p : l.Perm m) (ok : ∀ r ∈ l, RowOk r) : sortD (l.map rowD) = sortD (m.map rowD) := by
  refine sort_perm (n := 2) (p.map _) (fun a ha b hb => ?_) fun x hx => ?_
  · obtain ⟨r, _, rfl⟩ := List.mem_map.mp ha
    obtain ⟨q, _, rfl⟩ := List.mem_map.mp hb
    exact alike_row r q
  · obtain ⟨r, hr, rfl⟩ := List.mem_map.mp hx
    exact rowD_pl (ok r hr)
/-! lists -/
theorem nd_inj {α β : Type} {f : α → β} : ∀ {l : List α}, (l.map f).Nodup → ∀ p ∈ l, ∀ q ∈ l, f p = f q → p = q
  | [], _, p, hp, _, _, _ => nomatch hp
  | a :: l, nd, p, hp, q, hq, e => by
    rw [List.map_cons, List.nodup_cons] at nd
    rcases List.mem_cons.mp hp with h1 | h1 <;> rcases List.mem_cons.mp hq with h2 | h2
    · rw [h1, h2]
    · rw [h1] at e
      exact absurd (List.mem_map.mpr ⟨q, h2, e.symm⟩) nd.1
    · rw [h2] at e
      exact absurd (List.mem_map.mpr ⟨p, h1, e⟩) nd.1
    · exact nd_inj nd.2 p h1 q h2 e
theorem nd_map {α β : Type} {f : α → β} : ∀ {l : List α}, l.Nodup → (∀ x ∈ l, ∀ y ∈ l, f x = f y → x = y) → (l.map f).Nodup
  | [], _, _ => List.nodup_nil
  | a :: l, nd, h => by
    rw [List.nodup_cons] at nd
    rw [List.map_cons, List.nodup_cons]
    refine ⟨fun z => ?_, nd_map nd.2 fun x hx y hy => h x (List.mem_cons_of_mem _ hx) y (List.mem_cons_of_mem _ hy)⟩
    obtain ⟨y, hy, e⟩ := List.mem_map.mp z
    have := h y (List.mem_cons_of_mem _ hy) a List.mem_cons_self e
    rw [this] at hy
    exact nd.1 hy
theorem map_inj_on {α β : Type} {f : α → β} : ∀ {xs ys : List α}, (∀ x ∈ xs, ∀ y ∈ ys, f x = f y → x = y) → xs.map f = ys.map f → xs = ys
  | [], [], _, _ => rfl
  | [], y :: ys, _, e => by cases e
  | x :: xs, [], _, e => by cases e
  | x :: xs, y :: ys, h, e => by
    rw [List.map_cons, List.map_cons] at e
    injection e with e1 e2
    rw [h x List.mem_cons_self y List.mem_cons_self e1, map_inj_on (fun a ha b hb => h a (List.mem_cons_of_mem _ ha) b (List.mem_cons_of_mem _ hb)) e2]
theorem sub_perm {α : Type} [DecidableEq α] : ∀ {l m : List α}, l.Nodup → (∀ x ∈ l, x ∈ m) → ∃ r, m.Perm (l ++ r)
  | [], m, _, _ => ⟨m, .refl _⟩
  | a :: l, m, nd, h => by
    rw [List.nodup_cons] at nd
    obtain ⟨r, p⟩ := sub_perm nd.2 fun x hx => h x (List.mem_cons_of_mem _ hx)
    have ha : a ∈ r := by
      rcases List.mem_append.mp (p.mem_iff.mp (h a List.mem_cons_self)) with z | z
      · exact absurd z nd.1
      · exact z
    exact ⟨r.erase a, p.trans (((List.perm_cons_erase ha).append_left l).trans List.perm_middle)⟩
theorem sub_len {α : Type} [DecidableEq α] {l m : List α} (nd : l.Nodup) (h : ∀ x ∈ l, x ∈ m) (hl : m.length ≤ l.length) : l.Perm m := by
  obtain ⟨r, p⟩ := sub_perm nd h
  have e := p.length_eq
  rw [List.length_append] at e
  have z : r = [] := List.length_eq_zero_iff.mp (by omega)
  rw [z, List.append_nil] at p
  exact p.symm
theorem lk_mem {x v : Int} : ∀ {b : Bd}, lkB b x = some v → (x, v) ∈ b
  | [], h => by cases h
  | (k, u) :: r, h => by
    have h : (if k = x then some u else lkB r x) = some v := h
    by_cases e : k = x
    · rw [if_pos e] at h
      cases h
      rw [e]; exact List.mem_cons_self
    · rw [if_neg e] at h
      exact List.mem_cons_of_mem _ (lk_mem h)
theorem lk_of : ∀ {b : Bd}, (b.map (·.1)).Nodup → ∀ p ∈ b, lkB b p.1 = some p.2
  | [], _, p, h => nomatch h
  | (x, y) :: r, nd, p, hp => by
    rw [List.map_cons, List.nodup_cons] at nd
    show (if x = p.1 then some y else lkB r p.1) = some p.2
    rcases List.mem_cons.mp hp with z | z
    · rw [z, if_pos rfl]
    · rw [if_neg fun e => nd.1 (by rw [e]; exact List.mem_map.mpr ⟨p, z, rfl⟩)]
      exact lk_of nd.2 p z
theorem bd_keys {rs : List Row} {b : Bd} (hk : b.map (·.1) = vars rs) (h5 : (vars rs).length ≤ 500) : BdOk b := by
  refine ⟨by rw [hk]; exact vars_nodup rs, ?_, fun p hp => ?_⟩
  · have := congrArg List.length hk
    rw [List.length_map] at this
    omega
  · exact vars_neg rs _ (by rw [← hk]; exact List.mem_map.mpr ⟨p, hp, rfl⟩)
theorem bnd_lk {sp : List Span} {x : Int} (lt : x < 0) (h : x ∈ sp.map (·.1)) : lkC sp x = some (bnd sp x) := by
  rw [bnd_lt (by omega)]
  unfold lkC
  cases e : sp.find? (fun s => s.1 == x) with
  | none =>
    obtain ⟨s, hs, es⟩ := List.mem_map.mp h
    have := List.find?_eq_none.mp e s hs
    simp [es] at this
  | some s => rfl
end AL
namespace AL
open PySem L2
/-! P27: the plain law: maps that lay a case on another one. -/
def mpF (b : Bd) (x : Int) : Int := if 0 ≤ x then x else (lkB b x).getD 0
theorem vl_eq (ts : List Int) (b : Bd) : vl ts b = ts.map (mpF b) := rfl
def mrow (b : Bd) (r : Row) : Row := (r.1, vl r.2 b)
structure Mp (t o : Tree) (b : Bd) : Prop where
  keys : b.map (·.1) = vars t.rows
  inj : (b.map (·.2)).Nodup
  neg : ∀ p ∈ b, p.2 < 0
  bd : ∀ p ∈ b, bnd t.spans p.1 = bnd o.spans p.2
  wd : vl t.wide b = o.wide
  rl : t.rows.length = o.rows.length
  rows : ∀ r ∈ t.rows, mrow b r ∈ o.rows
theorem lk_keys {b : Bd} {rs : List Row} (hk : b.map (·.1) = vars rs) : ∀ p ∈ b, lkB b p.1 = some p.2 := lk_of (by rw [hk]; exact vars_nodup rs)
theorem mpF_at {b : Bd} {rs : List Row} (hk : b.map (·.1) = vars rs) {p : Int × Int} (hp : p ∈ b) : mpF b p.1 = p.2 := by
  have : p.1 < 0 := vars_neg rs _ (by rw [← hk]; exact List.mem_map.mpr ⟨p, hp, rfl⟩)
  unfold mpF
  rw [if_neg (by omega), lk_keys hk p hp]
  rfl
theorem key_pair {b : Bd} {ks : List Int} (hk : b.map (·.1) = ks) {x : Int} (h : x ∈ ks) : ∃ v, (x, v) ∈ b := by
  rw [← hk] at h
  obtain ⟨p, hp, e⟩ := List.mem_map.mp h
  exact ⟨p.2, by rw [← e]; exact hp⟩
section
variable {t o : Tree} {b : Bd}
theorem Mp.one (m : Mp t o b) {x : Int} (h : x ∈ vars t.rows) : ∃ v, (x, v) ∈ b ∧ mpF b x = v ∧ v < 0 := by
  obtain ⟨v, hv⟩ := key_pair m.keys h
  exact ⟨v, hv, mpF_at m.keys hv, m.neg _ hv⟩
theorem Mp.injF (m : Mp t o b) {x y : Int} (hx : x < 0 → x ∈ vars t.rows) (hy : y < 0 → y ∈ vars t.rows) (e : mpF b x = mpF b y) : x = y := by
  by_cases gx : 0 ≤ x
  · have ex : mpF b x = x := if_pos gx
    by_cases gy : 0 ≤ y
    · have ey : mpF b y = y := if_pos gy
      rw [ex, ey] at e; exact e
    · obtain ⟨v, _, ev, lt⟩ := m.one (hy (by omega))
      omega
  · obtain ⟨v, hv, ev, lt⟩ := m.one (hx (by omega))
    by_cases gy : 0 ≤ y
    · have ey : mpF b y = y := if_pos gy
      omega
    · obtain ⟨w, hw, ew, _⟩ := m.one (hy (by omega))
      have := nd_inj m.inj _ hv _ hw (show v = w by omega)
      injection this
theorem Mp.perm (ct : CaseOk t) (m : Mp t o b) : (t.rows.map (mrow b)).Perm o.rows := by
  refine sub_len (nd_map ct.rnd fun r hr q hq e => ?_) (fun x hx => ?_) (by rw [List.length_map, m.rl]; exact Nat.le_refl _)
  · have e1 : r.1 = q.1 := by
      have z : (mrow b r).1 = (mrow b q).1 := congrArg Prod.fst e
      exact z
    have e2 : r.2.map (mpF b) = q.2.map (mpF b) := by
      have z : (mrow b r).2 = (mrow b q).2 := congrArg Prod.snd e
      exact z
    refine Prod.ext e1 (map_inj_on (fun x hx y hy z => ?_) e2)
    exact m.injF (fun lt => vars_has t.rows r hr x hx lt) (fun lt => vars_has t.rows q hq y hy lt) z
  · obtain ⟨r, hr, rfl⟩ := List.mem_map.mp hx
    exact m.rows r hr
theorem var_row {rs : List Row} {x : Int} (h : x ∈ vars rs) : x < 0 ∧ ∃ r ∈ rs, x ∈ r.2 := by
  rcases vars_mem' rs [] x h with z | z
  · cases z
  · exact z
theorem Mp.into (m : Mp t o b) : ∀ p ∈ b, p.2 ∈ vars o.rows := fun p hp => by
  have hv : p.1 ∈ vars t.rows := by rw [← m.keys]; exact List.mem_map.mpr ⟨p, hp, rfl⟩
  obtain ⟨_, r, hr, hx⟩ := var_row hv
  refine vars_has o.rows _ (m.rows r hr) p.2 ?_ (m.neg p hp)
  show p.2 ∈ r.2.map (mpF b)
  exact List.mem_map.mpr ⟨p.1, hx, mpF_at m.keys hp⟩
theorem Mp.vlen (ct : CaseOk t) (m : Mp t o b) : (vars o.rows).length = (vars t.rows).length := by
  have p : (b.map (·.2)).Perm (vars o.rows) := (List.perm_ext_iff_of_nodup m.inj (vars_nodup o.rows)).mpr fun y => by
    constructor
    · intro h
      obtain ⟨p, hp, rfl⟩ := List.mem_map.mp h
      exact m.into p hp
    · intro h
      obtain ⟨lt, q, hq, hy⟩ := var_row h
      obtain ⟨r, hr, rfl⟩ := List.mem_map.mp ((m.perm ct).mem_iff.mpr hq)
      have hy : y ∈ r.2.map (mpF b) := hy
      obtain ⟨x, hx, e⟩ := List.mem_map.mp hy
      by_cases g : 0 ≤ x
      · have ex : mpF b x = x := if_pos g
        omega
      · obtain ⟨v, hv, ev, _⟩ := m.one (vars_has t.rows r hr x hx (by omega))
        exact List.mem_map.mpr ⟨_, hv, by show v = y; omega⟩
  have e := p.length_eq
  rw [← m.keys, ← e, List.length_map, List.length_map]
theorem Mp.wl (m : Mp t o b) : t.wide.length = o.wide.length := by
  rw [← m.wd]
  unfold vl
  rw [List.length_map]
theorem mrow_sort (b : Bd) (rs : List Row) : (rs.map fun r => rowD (r.1, vl r.2 b)) = (rs.map (mrow b)).map rowD := by
  rw [List.map_map]
  rfl
theorem mrow_ok {rs : List Row} (ok : ∀ r ∈ rs, RowOk r) : ∀ r ∈ rs.map (mrow b), RowOk r := fun r hr => by
  obtain ⟨q, hq, rfl⟩ := List.mem_map.mp hr
  have := ok q hq
  refine ⟨this.1, ?_⟩
  show (vl q.2 b).length ≤ 100
  unfold vl
  rw [List.length_map]
  exact this.2
theorem sort_mem {l m : List D} (h : sortD l = sortD m) : l.Perm m := ((List.mergeSort_perm l (PySem.W.dataLe false D.pd)).symm.trans (by show (sortD l).Perm _; rw [h]; exact List.Perm.refl _)).trans (List.mergeSort_perm m (PySem.W.dataLe false D.pd))
theorem read_mp (ct : CaseOk t) (co : CaseOk o) (hk : b.map (·.1) = vars t.rows) : ((vars o.rows).length = (vars t.rows).length ∧ isMapF t o b = true) ↔ Mp t o b := by
  unfold isMapF
  simp only [Bool.and_eq_true, decide_eq_true_iff, List.all_eq_true]
  constructor
  · rintro ⟨hv, ⟨⟨h1, h2⟩, h3⟩, h4⟩
    rw [mrow_sort] at h4
    have p := sort_mem h4
    have neg : ∀ p ∈ b, p.2 < 0 := fun p hp => vars_neg o.rows _ ((co.skey _).mp (h2 p hp).1)
    refine ⟨hk, h1, neg, fun p hp => ?_, h3, ?_, fun r hr => ?_⟩
    · have kt : p.1 ∈ vars t.rows := by rw [← hk]; exact List.mem_map.mpr ⟨p, hp, rfl⟩
      have e1 := bnd_lk (neg p hp) (h2 p hp).1
      have e2 := bnd_lk (vars_neg t.rows _ kt) ((ct.skey _).mpr kt)
      have e := (h2 p hp).2
      rw [e1, e2] at e
      injection e with e
      exact e.symm
    · have := p.length_eq
      simpa using this
    · exact row_mem.mp (p.mem_iff.mp (List.mem_map.mpr ⟨_, List.mem_map.mpr ⟨r, hr, rfl⟩, rfl⟩))
  · intro m
    refine ⟨m.vlen ct, ⟨⟨m.inj, fun p hp => ?_⟩, m.wd⟩, ?_⟩
    · have kt : p.1 ∈ vars t.rows := by rw [← hk]; exact List.mem_map.mpr ⟨p, hp, rfl⟩
      have ko := (co.skey _).mpr (m.into p hp)
      refine ⟨ko, ?_⟩
      rw [bnd_lk (m.neg p hp) ko, bnd_lk (vars_neg t.rows _ kt) ((ct.skey _).mpr kt), m.bd p hp]
    · rw [mrow_sort]
      exact sort_rows_perm (m.perm ct) (mrow_ok fun r hr => (ct.rok r hr).1)
theorem show_mp (ct : CaseOk t) {is : List Int} (hl : is.length = (vars t.rows).length) : showB t o is = true ↔ Mp t o ((vars t.rows).zip is) := by
  obtain ⟨z1, z2⟩ := zip_fst2 (as := vars t.rows) (bs := is) hl.symm
  unfold showB
  simp only [Bool.and_eq_true, decide_eq_true_iff, List.all_eq_true]
  constructor
  · rintro ⟨⟨⟨⟨⟨⟨⟨h1, h2⟩, h3⟩, h4⟩, h5⟩, h6⟩, h7⟩, h8⟩
    exact ⟨z1, by rw [z2]; exact h3, fun p hp => h4 _ (by rw [← z2]; exact List.mem_map.mpr ⟨p, hp, rfl⟩), h5, h6, h1, h8⟩
  · intro m
    refine ⟨⟨⟨⟨⟨⟨⟨m.rl, m.wl⟩, by have := m.inj; rw [z2] at this; exact this⟩, fun i hi => ?_⟩, m.bd⟩, m.wd⟩, by rw [m.vlen ct, hl]⟩, m.rows⟩
    rw [← z2] at hi
    obtain ⟨p, hp, rfl⟩ := List.mem_map.mp hi
    exact m.neg p hp
/-- both readings of an offer -/
theorem show_read (ct : CaseOk t) (co : CaseOk o) (im : Off) : showF t o im = readF t o im := by
  unfold showF readF
  cases e : offI (vars t.rows).length im with
  | none => rfl
  | some is =>
    obtain ⟨_, hl⟩ := offI_some e
    have z1 := (zip_fst2 (as := vars t.rows) (bs := is) hl.symm).1
    show showB t o is = (decide ((vars o.rows).length = (vars t.rows).length) && isMapF t o ((vars t.rows).zip is))
    rw [Bool.eq_iff_iff, show_mp ct hl, Bool.and_eq_true, decide_eq_true_iff, read_mp ct co z1]
end
end AL
namespace AL
open PySem L2
/-! P28: the plain law: same_kind and the law's own maps. -/
section
variable {t o : Tree}
theorem asg_in {m : Int → Int} : ∀ {xs : List Int} {c : Bd} {f : List Bd}, c ∈ f → (xs.map m).Nodup → (∀ x ∈ xs, m x ∉ c.map (·.2)) → (∀ x ∈ xs, m x ∈ vars o.rows ∧ lkC o.spans (m x) = lkC t.spans x) → c ++ xs.map (fun x => (x, m x)) ∈ asgF t o xs f
  | [], c, f, hc, _, _, _ => by
    rw [List.map_nil, List.append_nil]
    exact hc
  | x :: xs, c, f, hc, nd, hn, hv => by
    rw [List.map_cons, List.nodup_cons] at nd
    show _ ∈ asgF t o xs (f.flatMap fun b => ((vars o.rows).filter fun i => decide (i ∉ b.map (·.2)) && decide (lkC o.spans i = lkC t.spans x)).map fun i => b ++ [(x, i)])
    have e : c ++ (x :: xs).map (fun x => (x, m x)) = (c ++ [(x, m x)]) ++ xs.map (fun x => (x, m x)) := by
      rw [List.map_cons, List.append_assoc]
      rfl
    rw [e]
    obtain ⟨v1, v2⟩ := hv x List.mem_cons_self
    refine asg_in (List.mem_flatMap.mpr ⟨c, hc, List.mem_map.mpr ⟨m x, List.mem_filter.mpr ⟨v1, ?_⟩, rfl⟩⟩) nd.2 (fun y hy z => ?_) fun y hy => hv y (List.mem_cons_of_mem _ hy)
    · rw [Bool.and_eq_true, decide_eq_true_iff, decide_eq_true_iff]
      exact ⟨hn x List.mem_cons_self, v2⟩
    · rw [List.map_append] at z
      rcases List.mem_append.mp z with z | z
      · exact hn y (List.mem_cons_of_mem _ hy) z
      · have z : m y = m x := by simpa using z
        exact nd.1 (List.mem_map.mpr ⟨y, hy, z⟩)
theorem asg_keys : ∀ {xs ks : List Int} {f : List Bd}, (∀ c ∈ f, c.map (·.1) = ks) → ∀ b ∈ asgF t o xs f, b.map (·.1) = ks ++ xs
  | [], ks, f, h, b, hb => by
    rw [List.append_nil]
    exact h b hb
  | x :: xs, ks, f, h, b, hb => by
    have e : ks ++ x :: xs = (ks ++ [x]) ++ xs := by rw [List.append_assoc]; rfl
    rw [e]
    refine asg_keys (xs := xs) (fun c hc => ?_) b hb
    obtain ⟨d, hd, hc⟩ := List.mem_flatMap.mp hc
    obtain ⟨i, _, rfl⟩ := List.mem_map.mp hc
    rw [List.map_append, h d hd]
    rfl
theorem Mp.asg {b : Bd} (co : CaseOk o) (ct : CaseOk t) (m : Mp t o b) : b ∈ asgF t o (vars t.rows) [[]] := by
  have e : b = [] ++ (vars t.rows).map (fun x => (x, mpF b x)) := by
    rw [List.nil_append, ← m.keys, List.map_map]
    have : b.map id = b.map ((fun x => (x, mpF b x)) ∘ fun p => p.1) := List.map_congr_left fun p hp => by
      show p = (p.1, mpF b p.1)
      rw [mpF_at m.keys hp]
    rw [List.map_id] at this
    exact this
  have em : (vars t.rows).map (mpF b) = b.map (·.2) := by
    rw [← m.keys, List.map_map]
    exact List.map_congr_left fun p hp => mpF_at m.keys hp
  have key := asg_in (t := t) (o := o) (m := mpF b) (xs := vars t.rows) (c := []) (f := [[]]) List.mem_cons_self (by rw [em]; exact m.inj) (fun x _ z => by cases z) (fun x hx => by
    obtain ⟨v, hv, ev, lt⟩ := m.one hx
    have hi := m.into _ hv
    rw [ev]
    refine ⟨hi, ?_⟩
    rw [bnd_lk lt ((co.skey _).mpr hi), bnd_lk (vars_neg t.rows _ hx) ((ct.skey _).mpr hx)]
    exact congrArg some (m.bd _ hv).symm)
  rw [← e] at key
  exact key
theorem Mp.vl {b : Bd} (m : Mp t o b) : vl (vars t.rows) b = b.map (·.2) := by
  rw [vl_eq, ← m.keys, List.map_map]
  exact List.map_congr_left fun p hp => mpF_at m.keys hp
theorem Mp.maps {b : Bd} (ct : CaseOk t) (co : CaseOk o) (m : Mp t o b) : b.map (·.2) ∈ mapsF t o := by
  obtain ⟨h1, h2⟩ := (read_mp ct co m.keys).mpr m
  unfold mapsF
  rw [if_pos h1.symm]
  exact List.mem_map.mpr ⟨b, List.mem_filter.mpr ⟨m.asg co ct, h2⟩, m.vl⟩
theorem maps_mp (ct : CaseOk t) (co : CaseOk o) {l : List Int} (h : l ∈ mapsF t o) : ∃ b, Mp t o b ∧ b.map (·.2) = l := by
  unfold mapsF at h
  by_cases e : (vars t.rows).length = (vars o.rows).length
  · rw [if_pos e] at h
    obtain ⟨b, hb, rfl⟩ := List.mem_map.mp h
    obtain ⟨h1, h2⟩ := List.mem_filter.mp hb
    have hk : b.map (·.1) = vars t.rows := asg_keys (ks := []) (fun c hc => by
      rw [List.mem_singleton] at hc
      rw [hc]
      rfl) b h1
    have m := (read_mp ct co hk).mp ⟨e.symm, h2⟩
    exact ⟨b, m, m.vl.symm⟩
  · rw [if_neg e] at h
    cases h
theorem zip_vl {m : Int → Int} : ∀ {ts is : List Int}, ts.length = is.length → (∀ p ∈ ts.zip is, m p.1 = p.2) → ts.map m = is
  | [], [], _, _ => rfl
  | [], _ :: _, h, _ => by cases h
  | _ :: _, [], h, _ => by cases h
  | a :: ts, i :: is, h, k => by
    rw [List.map_cons, zip_vl (m := m) (by simpa using h) fun p hp => k p (List.mem_cons_of_mem _ hp)]
    rw [show m a = i from k (a, i) List.mem_cons_self]
theorem same_mp {ar : Str → Nat} (ct : CaseOk t) (co : CaseOk o) (at_ : Ar ar t) (ao : Ar ar o) {l : List Int} (h : sameF t o = some l) : Mp t o ((vars t.rows).zip l) ∧ l.length = (vars t.rows).length := by
  unfold sameF at h
  by_cases c : t.rows.length ≠ o.rows.length ∨ outD t ≠ outD o
  · rw [if_pos c] at h; cases h
  · rw [if_neg c] at h
    have rl : t.rows.length = o.rows.length := Decidable.byContradiction fun z => c (.inl z)
    have eo : outD t = outD o := Decidable.byContradiction fun z => c (.inr z)
    cases w : putK t.spans o.spans [] (t.wide.zip o.wide) with
    | none => rw [w] at h; cases h
    | some b0 =>
      rw [w] at h
      have h : ((matF t.spans o.spans o.rows t.rows b0).map fun b => (vars t.rows).map fun x => (lkB b x).getD 0) = some l := h
      cases w2 : matF t.spans o.spans o.rows t.rows b0 with
      | none => rw [w2] at h; cases h
      | some b =>
        rw [w2] at h
        have h : some ((vars t.rows).map fun x => (lkB b x).getD 0) = some l := h
        cases h
        have twl := ct.wl
        have owl := co.wl
        have trl := ct.rl
        have lz : (t.wide.zip o.wide).length ≤ 10 := by rw [List.length_zip]; omega
        have pk := putK_ok (nmk_nil t.spans o.spans) (by simp; omega) w
        have bl := (putK_bd (nmk_nil t.spans o.spans).ok (by simp; omega) w).2
        rw [List.length_nil] at bl
        have t4 : ∀ r ∈ t.rows, r.2.length ≤ 5 := fun r hr => by have := (ct.rok r hr).2; omega
        have mo := matF_ok pk.nm (by omega) t4 w2
        have keys := mat_keys at_ ao mo
        have nm := mo.nm
        have wlen : t.wide.length = o.wide.length := by
          unfold outD at eo
          injection eo with eo
          injection eo with _ eo
          injection eo with eo _
          injection eo with eo
          have := congrArg List.length eo
          rw [List.length_map, List.length_map] at this
          exact this
        -- what the names say of a variable
        have look : ∀ x ∈ vars t.rows, ∃ v, lkB b x = some v ∧ (x, v) ∈ b := fun x hx => by
          obtain ⟨v, hv⟩ := lkB_some (keys x hx)
          exact ⟨v, hv, lk_mem hv⟩
        have ll : ((vars t.rows).map fun x => (lkB b x).getD 0).length = (vars t.rows).length := List.length_map ..
        obtain ⟨z1, z2⟩ := zip_fst2 (as := vars t.rows) (bs := (vars t.rows).map fun x => (lkB b x).getD 0) ll.symm
        have zp : ∀ p ∈ (vars t.rows).zip ((vars t.rows).map fun x => (lkB b x).getD 0), p ∈ b := fun p hp => by
          rw [List.zip_map_right] at hp
          obtain ⟨⟨x, y⟩, hxy, rfl⟩ := List.mem_map.mp hp
          have exy : x = y ∧ x ∈ vars t.rows := by
            have : ∀ (l : List Int), (x, y) ∈ l.zip l → x = y ∧ x ∈ l := by
              intro l
              induction l with
              | nil => intro z; cases z
              | cons a l ih =>
                intro z
                rcases List.mem_cons.mp z with z | z
                · injection z with z1 z2
                  exact ⟨by rw [z1, z2], by rw [z1]; exact List.mem_cons_self⟩
                · exact ⟨(ih z).1, List.mem_cons_of_mem _ (ih z).2⟩
            exact this _ hxy
          obtain ⟨rfl, hx⟩ := exy
          obtain ⟨v, e1, e2⟩ := look x hx
          show (x, (lkB b x).getD 0) ∈ b
          rw [e1]
          exact e2
        have fst : ∀ p ∈ (vars t.rows).zip ((vars t.rows).map fun x => (lkB b x).getD 0), p.1 ∈ vars t.rows := fun p hp => by
          rw [← z1]
          exact List.mem_map.mpr ⟨p, hp, rfl⟩
        have lkz : ∀ x ∈ vars t.rows, ∀ v, lkB b x = some v → mpF ((vars t.rows).zip ((vars t.rows).map fun x => (lkB b x).getD 0)) x = v := fun x hx v hv => by
          obtain ⟨u, hu⟩ := key_pair z1 hx
          rw [mpF_at z1 hu]
          have hb := zp _ hu
          have := lk_of nm.ok.nd _ hb
          rw [hv] at this
          injection this with this
          exact this.symm
        refine ⟨⟨z1, ?_, fun p hp => nm.neg p (zp p hp), fun p hp => nm.bnd p (zp p hp), ?_, rl, fun r hr => ?_⟩, ll⟩
        · rw [z2]
          refine nd_map (vars_nodup t.rows) fun x hx y hy e => ?_
          obtain ⟨v, ev, hv⟩ := look x hx
          obtain ⟨u, eu, hu⟩ := look y hy
          have e : (lkB b x).getD 0 = (lkB b y).getD 0 := e
          rw [ev, eu] at e
          have e : v = u := e
          have := nd_inj nm.inj _ hv _ hu e
          injection this
        · rw [vl_eq]
          refine zip_vl wlen fun p hp => ?_
          by_cases g : 0 ≤ p.1
          · have e : mpF ((vars t.rows).zip ((vars t.rows).map fun x => (lkB b x).getD 0)) p.1 = p.1 := if_pos g
            rw [e]
            exact pk.pos p hp g
          · have hx := ct.wh p.1 (List.of_mem_zip hp).1 (by omega)
            exact lkz _ hx _ (mo.old _ _ (pk.new p hp (by omega)))
        · obtain ⟨q, hq, en, h1, h2⟩ := mo.row r hr
          have el : r.2.length = q.2.length := by rw [at_ r hr, ao q hq, en]
          have ev : vl r.2 ((vars t.rows).zip ((vars t.rows).map fun x => (lkB b x).getD 0)) = q.2 := by
            rw [vl_eq]
            refine zip_vl el fun p hp => ?_
            by_cases g : 0 ≤ p.1
            · have e : mpF ((vars t.rows).zip ((vars t.rows).map fun x => (lkB b x).getD 0)) p.1 = p.1 := if_pos g
              rw [e]
              exact h1 p hp g
            · have hx := vars_has t.rows r hr p.1 (List.of_mem_zip hp).1 (by omega)
              exact lkz _ hx _ (h2 p hp (by omega))
          unfold mrow
          rw [ev, ← en]
          exact hq
theorem mp_same {b : Bd} (ct : CaseOk t) (co : CaseOk o) (m : Mp t o b) : ∃ l, sameF t o = some l := by
  have vb : ∀ x, (x < 0 → x ∈ vars t.rows) → bnd o.spans (mpF b x) = bnd t.spans x := fun x hx => by
    by_cases g : 0 ≤ x
    · have e : mpF b x = x := if_pos g
      rw [e, bnd_ge g, bnd_ge g]
    · obtain ⟨v, hv, ev, lt⟩ := m.one (hx (by omega))
      rw [ev]
      exact (m.bd _ hv).symm
  have eo : outD t = outD o := by
    unfold outD
    have e1 : sortD (t.rows.map (orowD t.spans)) = sortD (o.rows.map (orowD o.spans)) := by
      have p := ((m.perm ct).map (orowD o.spans))
      rw [List.map_map] at p
      have e : t.rows.map (orowD t.spans) = t.rows.map (orowD o.spans ∘ mrow b) := List.map_congr_left fun r hr => by
        show orowD t.spans r = orowD o.spans (mrow b r)
        unfold orowD mrow
        have : (vl r.2 b).map (fun x => prD (bnd o.spans x)) = r.2.map fun x => prD (bnd t.spans x) := by
          rw [vl_eq, List.map_map]
          refine List.map_congr_left fun x hx => ?_
          show prD (bnd o.spans (mpF b x)) = _
          rw [vb x fun lt => vars_has t.rows r hr x hx lt]
        show _ = D.tup [.str r.1, .tup ((vl r.2 b).map fun x => prD (bnd o.spans x))]
        rw [this]
      rw [e]
      refine sort_perm (n := 3) p (fun a ha c hc => ?_) fun x hx => ?_
      · obtain ⟨r, _, rfl⟩ := List.mem_map.mp ha
        obtain ⟨q, _, rfl⟩ := List.mem_map.mp hc
        exact alike_orow _ _ _ _
      · obtain ⟨r, hr, rfl⟩ := List.mem_map.mp hx
        exact orow_pl (mrow_ok (b := b) (fun r hr => (ct.rok r hr).1) _ (List.mem_map.mpr ⟨r, hr, rfl⟩))
    have e2 : (t.wide.map fun x => prD (bnd t.spans x)) = o.wide.map fun x => prD (bnd o.spans x) := by
      rw [← m.wd, vl_eq, List.map_map]
      refine List.map_congr_left fun x hx => ?_
      show _ = prD (bnd o.spans (mpF b x))
      rw [vb x fun lt => ct.wh x hx lt]
    rw [e1, e2]
  have inj : ∀ x ∈ vars t.rows, ∀ y ∈ vars t.rows, mpF b x = mpF b y → x = y := fun x hx y hy e => m.injF (fun _ => hx) (fun _ => hy) e
  have neg : ∀ x ∈ vars t.rows, mpF b x < 0 := fun x hx => by
    obtain ⟨v, _, ev, lt⟩ := m.one hx
    omega
  have hb : ∀ x ∈ vars t.rows, bnd t.spans x = bnd o.spans (mpF b x) := fun x hx => (vb x fun _ => hx).symm
  obtain ⟨b0, e0, s0, v0⟩ := putK_go (s1 := t.spans) (s2 := o.spans) inj neg hb (ps := t.wide.zip o.wide) (b := []) (fun p hp => nomatch hp) (fun p hp => nomatch hp) (fun p hp => by
    rw [← m.wd, vl_eq, List.zip_map_right] at hp
    obtain ⟨⟨x, y⟩, hxy, rfl⟩ := List.mem_map.mp hp
    have exy : x = y ∧ x ∈ t.wide := by
      have : ∀ (l : List Int), (x, y) ∈ l.zip l → x = y ∧ x ∈ l := by
        intro l
        induction l with
        | nil => intro z; cases z
        | cons a l ih =>
          intro z
          rcases List.mem_cons.mp z with z | z
          · injection z with z1 z2
            exact ⟨by rw [z1, z2], by rw [z1]; exact List.mem_cons_self⟩
          · exact ⟨(ih z).1, List.mem_cons_of_mem _ (ih z).2⟩
      exact this _ hxy
    obtain ⟨rfl, hx⟩ := exy
    refine ⟨fun g => ?_, fun g => ⟨ct.wh x hx g, rfl⟩⟩
    have g : 0 ≤ x := g
    exact if_pos g)
  obtain ⟨b', e1⟩ := matF_go (s1 := t.spans) (s2 := o.spans) (os := o.rows) (m := mpF b) (vs := vars t.rows) inj neg hb (rs := t.rows) s0 v0 fun r hr => ⟨fun x hx lt => vars_has t.rows r hr x hx lt, by
    have e : (r.2.map fun x => if 0 ≤ x then x else mpF b x) = vl r.2 b := by
      rw [vl_eq]
      refine List.map_congr_left fun x _ => ?_
      by_cases g : 0 ≤ x
      · rw [if_pos g]
        exact (if_pos g).symm
      · rw [if_neg g]
    rw [e]
    exact m.rows r hr⟩
  have e : sameF t o = (putK t.spans o.spans [] (t.wide.zip o.wide)).bind fun b => (matF t.spans o.spans o.rows t.rows b).map fun b => (vars t.rows).map fun x => (lkB b x).getD 0 := if_neg fun z => z.elim (fun z => z m.rl) fun z => z eo
  rw [e, e0]
  show ∃ l, ((matF t.spans o.spans o.rows t.rows b0).map fun b => (vars t.rows).map fun x => (lkB b x).getD 0) = some l
  rw [e1]
  exact ⟨_, rfl⟩
/-- same_kind tells a map exactly if there is one, and one of the law's own -/
theorem same_none (ct : CaseOk t) (co : CaseOk o) (h : sameF t o = none) : mapsF t o = [] := by
  cases e : mapsF t o with
  | nil => rfl
  | cons l r =>
    obtain ⟨b, m, _⟩ := maps_mp ct co (l := l) (by rw [e]; exact List.mem_cons_self)
    obtain ⟨l', e'⟩ := mp_same ct co m
    rw [h] at e'; cases e'
theorem same_some {ar : Str → Nat} (ct : CaseOk t) (co : CaseOk o) (at_ : Ar ar t) (ao : Ar ar o) {l : List Int} (h : sameF t o = some l) : l ∈ mapsF t o ∧ l.length = (vars t.rows).length := by
  obtain ⟨m, hl⟩ := same_mp ct co at_ ao h
  have := m.maps ct co
  rw [(zip_fst2 (as := vars t.rows) (bs := l) hl.symm).2] at this
  exact ⟨this, hl⟩
theorem maps_len (ct : CaseOk t) (co : CaseOk o) {l : List Int} (h : l ∈ mapsF t o) : l.length = (vars t.rows).length := by
  obtain ⟨b, m, rfl⟩ := maps_mp ct co h
  rw [← m.keys, List.length_map, List.length_map]
end
end AL
namespace AL
open PySem L2
/-! P29: is_map. -/
theorem ix_bdv {b : Bd} {t v : Int} {F : RV → Prop} (h : lkB b t = some v) (f : F (.dat (.int v))) : fIx (bD b) (.int t) F := by
  have hk : t ∈ b.map (·.1) := Decidable.byContradiction fun z => by
    rw [lkB_none.mpr z] at h
    cases h
  refine ix_bd hk ?_
  rw [h]
  exact f
section
variable {t o : Tree} {b : Bd} {R : RV → AEnv → Prop}
abbrev imV (t o : Tree) (b : Bd) : AEnv := [.dat (csD t), .dat (csD o), .dat (bD b)]
def imA (R : RV → AEnv → Prop) (t o : Tree) (b : Bd) : AEnds := { nx := fun env => R (.dat .non) (outs (imV t o b) env), rt := fun r env => (∀ i, r ≠ .at i) ∧ R r (outs (imV t o b) env) }
theorem im_ret {c : Bool} (k : R (.dat (.bl c)) (imV t o b)) (env : AEnv) : (imA R t o b).rt (.dat (.bl c)) env := by
  refine ⟨nat_ _, ?_⟩
  have e : outs (imV t o b) env = _ := outs_dat [csD t, csD o, bD b] env
  rw [e]
  exact k
theorem CaseOk.rowsOk {t : Tree} (ct : CaseOk t) : RowsOk t.rows := ct.tree.rows
theorem sortL_inj {l m : List D} : decide (D.lst l = D.lst m) = decide (l = m) := by
  rw [Bool.eq_iff_iff, decide_eq_true_iff, decide_eq_true_iff]
  constructor
  · intro h; injection h
  · intro h; rw [h]
set_option maxHeartbeats 0 in
theorem im5 {x3 x4 x6 x7 : AV} (ct : CaseOk t) (co : CaseOk o) (hk : b.map (·.1) = vars t.rows)
    (k : R (.dat (.bl (decide (sortD (t.rows.map fun r => rowD (r.1, vl r.2 b)) = sortD (o.rows.map rowD))))) (imV t o b)) :
    law_is_map_0_5 (imA R t o b) [.dat (csD t), .dat (csD o), .dat (bD b), x3, x4, .dat (.tup (t.rows.map rowD)), x6, x7, .un] := by
  have tr := ct.rowsOk
  have rl := tr.1
  have v5 := ct.vl
  have bo := bd_keys hk (by omega)
  conv => whnf
  repeat (refine ⟨trivial, ?_⟩; conv => whnf)
  intro _
  refine ⟨noOwn_one (x := .un) rfl (fun e z => by cases z), sz_le (by rw [List.length_map]; omega), ?_⟩
  refine lc_ind (Ev := fun env => env = [.dat (csD t), .dat (csD o), .dat (bD b), x3, x4, .dat (.tup (t.rows.map rowD)), x6, x7, .un]) (Stp := fun y oz => ∃ r : Row, y = rowD r ∧ oz = some (rowD (r.1, vl r.2 b))) _ ?_ _ _ rfl ?_
  · rintro y hy _ K rfl hK
    obtain ⟨r, hr, rfl⟩ := List.mem_map.mp hy
    have r100 := (tr.2 r hr).2
    conv => whnf
    repeat (refine ⟨trivial, ?_⟩; conv => whnf)
    rw [brP_true]
    conv => whnf
    repeat (refine ⟨trivial, ?_⟩; conv => whnf)
    refine ix_tup (by omega) rfl ?_
    conv => whnf
    repeat (refine ⟨trivial, ?_⟩; conv => whnf)
    refine ix_tup (by omega) rfl ?_
    conv => whnf
    repeat (refine ⟨trivial, ?_⟩; conv => whnf)
    refine use_llaid r.2 b rfl (by omega) bo (by rw [hk]; exact vars_has t.rows r hr) ?_
    conv => whnf
    repeat (refine ⟨trivial, ?_⟩; conv => whnf)
    refine ⟨sz2, ?_⟩
    conv => whnf
    repeat (refine ⟨trivial, ?_⟩; conv => whnf)
    exact hK _ _ rfl ⟨r, rfl, rfl⟩
  · rintro zs _ ot rfl
    have ez := ot.map (f := fun r => rowD (r.1, vl r.2 b)) fun r oz ⟨q, e1, e2⟩ => by
      rw [rowD_inj.mp e1]
      exact e2
    rw [ez, mrow_sort]
    rw [mrow_sort] at k
    have mok := mrow_ok (b := b) tr.2
    conv => whnf
    repeat (refine ⟨trivial, ?_⟩; conv => whnf)
    refine ⟨sort_rows mok, ?_⟩
    conv => whnf
    repeat (refine ⟨trivial, ?_⟩; conv => whnf)
    refine ix_tup (by omega) rfl ?_
    conv => whnf
    repeat (refine ⟨trivial, ?_⟩; conv => whnf)
    refine ⟨sort_rows co.rowsOk.2, ?_⟩
    conv => whnf
    repeat (refine ⟨trivial, ?_⟩; conv => whnf)
    refine eq_pl (.lst (sort_pl mok)) (.lst (sort_pl co.rowsOk.2)) ?_
    rw [sortL_inj]
    exact im_ret k _
set_option maxHeartbeats 0 in
theorem im4 {x3 x4 x6 : AV} (ct : CaseOk t) (co : CaseOk o) (hk : b.map (·.1) = vars t.rows)
    (k : R (.dat (.bl (decide (vl t.wide b = o.wide) && decide (sortD (t.rows.map fun r => rowD (r.1, vl r.2 b)) = sortD (o.rows.map rowD))))) (imV t o b)) :
    law_is_map_0_4 (imA R t o b) [.dat (csD t), .dat (csD o), .dat (bD b), x3, x4, .dat (.tup (t.rows.map rowD)), x6, .dat (tmD t.wide), .un] := by
  have v5 := ct.vl
  have wl := ct.wl
  have bo := bd_keys hk (by omega)
  conv => whnf
  repeat (refine ⟨trivial, ?_⟩; conv => whnf)
  refine use_llaid t.wide b rfl (by omega) bo (by rw [hk]; exact ct.wh) ?_
  conv => whnf
  repeat (refine ⟨trivial, ?_⟩; conv => whnf)
  refine ix_tup (by omega) rfl ?_
  conv => whnf
  repeat (refine ⟨trivial, ?_⟩; conv => whnf)
  refine ne_pl (tmD_pl _) (tmD_pl _) ?_
  conv => whnf
  repeat (refine ⟨trivial, ?_⟩; conv => whnf)
  refine brI (fun h => ?_) (fun h => ?_)
  · have ne : ¬ vl t.wide b = o.wide := fun z => by
      rw [z] at h
      simp at h
    rw [decide_eq_false ne] at k
    exact im_ret k _
  · have eq : vl t.wide b = o.wide := by
      have : tmD (vl t.wide b) = tmD o.wide := by simpa using h
      exact tmD_inj.mp this
    rw [decide_eq_true eq] at k
    exact im5 ct co hk k
theorem lkC_get {sp : List Span} {x : Int} (h : x ∈ sp.map (·.1)) : ∃ p, lkC sp x = some p ∧ ∀ F : RV → Prop, F (.dat (prD p)) → fIx (celD sp) (.int x) F := by
  obtain ⟨p, e⟩ := lkC_some h
  refine ⟨p, e, fun F f => ix_cel h ?_⟩
  rw [e]
  exact f
set_option maxHeartbeats 0 in
theorem im3 {x3 : AV} (ct : CaseOk t) (co : CaseOk o) (hk : b.map (·.1) = vars t.rows) (rest : Bool)
    (fin : ∀ x4, R (.dat (.bl rest)) (imV t o b) → law_is_map_0_4 (imA R t o b) [.dat (csD t), .dat (csD o), .dat (bD b), x3, x4, .dat (.tup (t.rows.map rowD)), .dat (celD t.spans), .dat (tmD t.wide), .un]) :
    ∀ (bs : Bd) (x4 : AV), (∀ p ∈ bs, p ∈ b) → R (.dat (.bl (bs.all (fun p => decide (p.2 ∈ o.spans.map (·.1)) && decide (lkC o.spans p.2 = lkC t.spans p.1)) && rest))) (imV t o b) →
    forL (agName 4) law_is_map_2_0 { imA R t o b with nx := law_is_map_0_4 (imA R t o b) } (bs.map fun p => D.int p.1) [.dat (csD t), .dat (csD o), .dat (bD b), x3, x4, .dat (.tup (t.rows.map rowD)), .dat (celD t.spans), .dat (tmD t.wide), .un]
  | [], x4, _, k => fin x4 k
  | p :: bs, x4, hb, k => by
    have hp := hb p List.mem_cons_self
    have bl := ct.vl
    have ih := im3 ct co hk rest fin bs
    have hp1 : p.1 ∈ b.map (·.1) := List.mem_map.mpr ⟨p, hp, rfl⟩
    have kt : p.1 ∈ vars t.rows := by rw [← hk]; exact hp1
    have lp := lk_keys hk p hp
    rw [List.map_cons]
    conv => whnf
    repeat (refine ⟨trivial, ?_⟩; conv => whnf)
    refine ix_bdv lp ?_
    conv => whnf
    repeat (refine ⟨trivial, ?_⟩; conv => whnf)
    refine ix_tup (by omega) rfl ?_
    conv => whnf
    repeat (refine ⟨trivial, ?_⟩; conv => whnf)
    refine notin_dic rfl ?_
    rw [show decide (D.int p.2 ∈ o.spans.map fun s => D.int s.1) = decide (p.2 ∈ o.spans.map (·.1)) by
      rw [Bool.eq_iff_iff, decide_eq_true_iff, decide_eq_true_iff]; exact cel_mem]
    conv => whnf
    repeat (refine ⟨trivial, ?_⟩; conv => whnf)
    refine brI (fun h => ?_) (fun h => ?_)
    · have ni : ¬ p.2 ∈ o.spans.map (·.1) := by simpa using h
      rw [List.all_cons, decide_eq_false ni] at k
      conv => whnf
      repeat (refine ⟨trivial, ?_⟩; conv => whnf)
      refine brT rfl ?_
      exact im_ret k _
    · have hi : p.2 ∈ o.spans.map (·.1) := by simpa using h
      obtain ⟨u, eu, gu⟩ := lkC_get hi
      obtain ⟨v, ev, gv⟩ := lkC_get ((ct.skey _).mpr kt)
      conv => whnf
      repeat (refine ⟨trivial, ?_⟩; conv => whnf)
      refine ix_tup (by omega) rfl ?_
      conv => whnf
      repeat (refine ⟨trivial, ?_⟩; conv => whnf)
      refine ix_bdv lp ?_
      conv => whnf
      repeat (refine ⟨trivial, ?_⟩; conv => whnf)
      refine gu _ ?_
      conv => whnf
      repeat (refine ⟨trivial, ?_⟩; conv => whnf)
      refine gv _ ?_
      conv => whnf
      repeat (refine ⟨trivial, ?_⟩; conv => whnf)
      refine ne_pl (prD_pl _) (prD_pl _) ?_
      conv => whnf
      repeat (refine ⟨trivial, ?_⟩; conv => whnf)
      rw [List.all_cons, decide_eq_true hi, eu, ev] at k
      refine brI (fun h => ?_) (fun h => ?_)
      · have ne : ¬ some u = some v := fun z => by
          cases z
          simp at h
        rw [decide_eq_false ne] at k
        exact im_ret k _
      · have eq : prD u = prD v := by simpa using h
        rw [prD_inj.mp eq] at k
        rw [decide_eq_true rfl] at k
        exact ih _ (fun q hq => hb q (List.mem_cons_of_mem _ hq)) k
end
theorem isMapF_eq (t o : Tree) (b : Bd) : isMapF t o b = (decide (b.map (·.2)).Nodup && (b.all (fun p => decide (p.2 ∈ o.spans.map (·.1)) && decide (lkC o.spans p.2 = lkC t.spans p.1)) && (decide (vl t.wide b = o.wide) && decide (sortD (t.rows.map fun r => rowD (r.1, vl r.2 b)) = sortD (o.rows.map rowD))))) := by
  unfold isMapF
  simp only [Bool.and_assoc]
set_option maxHeartbeats 0 in
theorem p_law_is_map : BodyOk 3 9 B_law_is_map a_law_is_map S_law_is_map := by
  rintro _ R ⟨t, o, b, rfl, ct, co, hk, k⟩
  refine ⟨rfl, ownN (ds := [_, _, _]), ?_⟩
  have v5 := ct.vl
  have bl : b.length ≤ 5 := by
    have := congrArg List.length hk
    rw [List.length_map] at this
    omega
  rw [isMapF_eq] at k
  conv => whnf
  repeat (refine ⟨trivial, ?_⟩; conv => whnf)
  refine ⟨rfl, ?_⟩
  conv => whnf
  repeat (refine ⟨trivial, ?_⟩; conv => whnf)
  refine ⟨rfl, ?_⟩
  conv => whnf
  repeat (refine ⟨trivial, ?_⟩; conv => whnf)
  refine ⟨sz_le (by rw [List.length_map]; omega), ?_⟩
  conv => whnf
  repeat (refine ⟨trivial, ?_⟩; conv => whnf)
  refine ⟨noOwn_one (x := .un) rfl (fun e z => by cases z), sz_le (by rw [List.length_map]; omega), ?_⟩
  refine lc_ind (Ev := fun env => env = [.dat (csD t), .dat (csD o), .dat (bD b), .un, .un, .dat (.tup (t.rows.map rowD)), .dat (celD t.spans), .dat (tmD t.wide), .un]) (Stp := fun y oz => ∃ p : Int × Int, p ∈ b ∧ y = .int p.1 ∧ oz = some (.int p.2)) _ ?_ _ _ rfl ?_
  · rintro y hy _ K rfl hK
    obtain ⟨p, hp, rfl⟩ := List.mem_map.mp hy
    conv => whnf
    repeat (refine ⟨trivial, ?_⟩; conv => whnf)
    rw [brP_true]
    conv => whnf
    repeat (refine ⟨trivial, ?_⟩; conv => whnf)
    refine ix_bdv (lk_keys hk p hp) ?_
    conv => whnf
    repeat (refine ⟨trivial, ?_⟩; conv => whnf)
    exact hK _ _ rfl ⟨p, hp, rfl, rfl⟩
  · rintro zs _ ot rfl
    have ez := ot.map (g := fun p : Int × Int => D.int p.1) (f := fun p => D.int ((lkB b p.1).getD 0)) fun a oz ⟨p, hp, e1, e2⟩ => by
      injection e1 with e1
      rw [e2, e1, lk_keys hk p hp]
      rfl
    have ez2 : zs = (b.map (·.2)).map D.int := by
      rw [ez, List.map_map]
      refine List.map_congr_left fun p hp => ?_
      show D.int ((lkB b p.1).getD 0) = D.int p.2
      rw [lk_keys hk p hp]
      rfl
    rw [ez2]
    conv => whnf
    repeat (refine ⟨trivial, ?_⟩; conv => whnf)
    refine use_unlike ((b.map (·.2)).map D.int) 0 rfl (by rw [List.length_map, List.length_map]; omega) (by omega) (fun x hx => by
      obtain ⟨i, _, rfl⟩ := List.mem_map.mp hx
      exact .int 0 i) ?_
    have eu : unl [] ((b.map (·.2)).map D.int) = (unl [] (b.map (·.2))).map D.int := by
      have z := unl_map (f := D.int) int_inj (b.map fun p : Int × Int => p.2) []
      exact z
    rw [eu]
    conv => whnf
    repeat (refine ⟨trivial, ?_⟩; conv => whnf)
    refine ne_int ?_
    rw [List.length_map, List.length_map, List.length_map]
    conv => whnf
    repeat (refine ⟨trivial, ?_⟩; conv => whnf)
    refine brI (fun h => ?_) (fun h => ?_)
    · have ne : ¬ (b.map (·.2)).Nodup := fun z => by
        have : unl [] (b.map (·.2)) = b.map (·.2) := unl_self _ [] z
        rw [this, List.length_map] at h
        simp at h
      rw [decide_eq_false ne] at k
      exact im_ret k _
    · have eq : (b.map (·.2)).Nodup := by
        have e : (unl [] (b.map (·.2))).length = b.length := by
          have : (((unl [] (b.map (·.2))).length : Int) = (b.length : Int)) := by simpa using h
          omega
        exact unl_len_nd _ [] List.nodup_nil (by rw [e, List.length_map]; simp)
      rw [decide_eq_true eq] at k
      conv => whnf
      repeat (refine ⟨trivial, ?_⟩; conv => whnf)
      refine ⟨sz_le (by rw [List.length_map]; omega), ?_⟩
      exact im3 ct co hk _ (fun x4 k => im4 ct co hk k) b _ (fun p hp => hp) k
theorem use_ismap {env : AEnv} (t o : Tree) (b : Bd) {R : RV → AEnv → Prop} (ct : CaseOk t) (co : CaseOk o) (hk : b.map (·.1) = vars t.rows) (k : R (.dat (.bl (isMapF t o b))) env) : callR S_law_is_map [.dat (csD t), .dat (csD o), .dat (bD b)] env R :=
  call_dats [_, _, _] ⟨t, o, b, rfl, ct, co, hk, k⟩
end AL
namespace AL
open PySem L2
/-! P30: the law's own maps, one variable more. -/
def asgI (t o : Tree) (x : Int) (b : Bd) (is : List Int) : List Bd := (is.filter fun i => decide (i ∉ b.map (·.2)) && decide (lkC o.spans i = lkC t.spans x)).map fun i => b ++ [(x, i)]
theorem asgI_cons (t o : Tree) (x : Int) (b : Bd) (i : Int) (is : List Int) : asgI t o x b (i :: is) = if (decide (i ∉ b.map (·.2)) && decide (lkC o.spans i = lkC t.spans x)) = true then (b ++ [(x, i)]) :: asgI t o x b is else asgI t o x b is := by
  unfold asgI
  rw [List.filter_cons]
  by_cases c : (decide (i ∉ b.map (·.2)) && decide (lkC o.spans i = lkC t.spans x)) = true
  · rw [if_pos c, if_pos c]; rfl
  · rw [if_neg c, if_neg c]
theorem asgI_len (t o : Tree) (x : Int) (b : Bd) (is : List Int) : (asgI t o x b is).length ≤ is.length := by
  unfold asgI
  rw [List.length_map]
  exact List.length_filter_le _ _
section
variable {t o : Tree}
set_option maxHeartbeats 0 in
theorem mp4 {A : AEnds} {x : Int} {b : Bd} {x2 x4 x5 x10 : AV} (ct : CaseOk t) (co : CaseOk o) (hx : x ∈ vars t.rows) (nin : x ∉ b.map (·.1)) (bl : b.length ≤ 5) :
    ∀ (is : List Int) (acc : List Bd) (x9 x11 : AV), (∀ i ∈ is, i ∈ vars o.rows) → acc.length + is.length ≤ 100000 →
    (∀ y9 y11, A.nx [.dat (csD t), .dat (csD o), x2, .dat (.int x), x4, x5, .own (.lst ((acc ++ asgI t o x b is).map bD)), .dat (bD b), .own (.lst ((b.map (·.2)).map D.int)), y9, x10, y11]) →
    forL (agName 9) law_maps_4_0 A (is.map D.int) [.dat (csD t), .dat (csD o), x2, .dat (.int x), x4, x5, .own (.lst (acc.map bD)), .dat (bD b), .own (.lst ((b.map (·.2)).map D.int)), x9, x10, x11]
  | [], acc, x9, x11, _, _, k => by
    have := k x9 x11
    rw [show acc ++ asgI t o x b [] = acc by unfold asgI; simp] at this
    exact this
  | i :: is, acc, x9, x11, hi, hl, k => by
    rw [List.length_cons] at hl
    have io := hi i List.mem_cons_self
    obtain ⟨u, eu, gu⟩ := lkC_get ((co.skey _).mpr io)
    obtain ⟨v, ev, gv⟩ := lkC_get ((ct.skey _).mpr hx)
    have ih := fun acc x9 x11 => mp4 (A := A) (x2 := x2) (x4 := x4) (x5 := x5) (x10 := x10) ct co hx nin bl is acc x9 x11 fun j hj => hi j (List.mem_cons_of_mem _ hj)
    rw [asgI_cons, eu, ev] at k
    rw [List.map_cons]
    conv => whnf
    repeat (refine ⟨trivial, ?_⟩; conv => whnf)
    refine notin_lst (n := 0) (m := 0) (.int 0 i) (fun y hy => by
      obtain ⟨j, _, rfl⟩ := List.mem_map.mp hy
      exact .int 0 j) ?_
    have em : decide (D.int i ∈ (b.map (·.2)).map D.int) = decide (i ∈ b.map (·.2)) := by
      rw [Bool.eq_iff_iff, decide_eq_true_iff, decide_eq_true_iff]
      constructor
      · intro h
        obtain ⟨j, hj, e⟩ := List.mem_map.mp h
        injection e with e
        rw [← e]; exact hj
      · exact fun h => List.mem_map.mpr ⟨i, h, rfl⟩
    rw [em]
    conv => whnf
    repeat (refine ⟨trivial, ?_⟩; conv => whnf)
    refine brI (fun h => ?_) (fun h => ?_)
    · have ni : i ∉ b.map (·.2) := by simpa using h
      rw [decide_eq_true ni] at k
      conv => whnf
      repeat (refine ⟨trivial, ?_⟩; conv => whnf)
      refine ix_tup (by omega) rfl ?_
      conv => whnf
      repeat (refine ⟨trivial, ?_⟩; conv => whnf)
      refine gu _ ?_
      conv => whnf
      repeat (refine ⟨trivial, ?_⟩; conv => whnf)
      refine ix_tup (by omega) rfl ?_
      conv => whnf
      repeat (refine ⟨trivial, ?_⟩; conv => whnf)
      refine gv _ ?_
      conv => whnf
      repeat (refine ⟨trivial, ?_⟩; conv => whnf)
      refine eq_pl (prD_pl _) (prD_pl _) ?_
      conv => whnf
      repeat (refine ⟨trivial, ?_⟩; conv => whnf)
      refine brI (fun h => ?_) (fun h => ?_)
      · have eq : u = v := prD_inj.mp (by simpa using h)
        rw [eq, decide_eq_true rfl, Bool.and_self, if_pos rfl] at k
        conv => whnf
        repeat (refine ⟨trivial, ?_⟩; conv => whnf)
        refine set_dic rfl rfl (fun z => nin (bd_mem.mp z)) (by rw [List.length_map]; omega) ?_
        conv => whnf
        repeat (refine ⟨trivial, ?_⟩; conv => whnf)
        refine ⟨⟨_, rfl⟩, ?_⟩
        conv => whnf
        repeat (refine ⟨trivial, ?_⟩; conv => whnf)
        refine ⟨sz_lt (by rw [List.length_map]; omega), ?_⟩
        have e1 : D.dic ((b.map fun p => D.int p.1) ++ [.int x]) ((b.map fun p => D.int p.2) ++ [.int i]) = bD (b ++ [(x, i)]) := by
          unfold bD
          rw [List.map_append, List.map_append]
          rfl
        have e2 : (acc.map bD) ++ [bD (b ++ [(x, i)])] = (acc ++ [b ++ [(x, i)]]).map bD := by
          rw [List.map_append]
          rfl
        rw [e1]
        rw [e2]
        conv => whnf
        repeat (refine ⟨trivial, ?_⟩; conv => whnf)
        refine ih _ _ _ (by rw [List.length_append, List.length_singleton]; omega) fun y9 y11 => ?_
        have := k y9 y11
        rw [List.append_assoc]
        exact this
      · have ne : ¬ some u = some v := fun z => by
          cases z
          simp at h
        rw [decide_eq_false ne] at k
        conv => whnf
        repeat (refine ⟨trivial, ?_⟩; conv => whnf)
        exact ih _ _ _ (by omega) k
    · have yi : ¬ i ∉ b.map (·.2) := by simpa using h
      rw [decide_eq_false yi] at k
      conv => whnf
      repeat (refine ⟨trivial, ?_⟩; conv => whnf)
      refine brF rfl ?_
      exact ih _ _ _ (by omega) k
end
end AL
namespace AL
open PySem L2
/-! P31: the law's own maps. -/
section
variable {t o : Tree}
/-- every map is told over the same variables -/
def Over (ks : List Int) (f : List Bd) : Prop := ∀ b ∈ f, b.map (·.1) = ks
theorem asgI_over {ks : List Int} {x : Int} {b : Bd} (h : b.map (·.1) = ks) (is : List Int) : Over (ks ++ [x]) (asgI t o x b is) := fun c hc => by
  unfold asgI at hc
  obtain ⟨i, _, rfl⟩ := List.mem_map.mp hc
  rw [List.map_append, h]
  rfl
set_option maxHeartbeats 0 in
theorem mp3 {A : AEnds} {x : Int} {ks : List Int} {x2 x4 : AV} (ct : CaseOk t) (co : CaseOk o) (hx : x ∈ vars t.rows) (nin : x ∉ ks) (kl : ks.length ≤ 5) (nd : ks.Nodup) :
    ∀ (fs acc : List Bd) (x5 x7 x8 x9 x11 : AV), (x5 = .own (.lst ((vars o.rows).map D.int)) ∨ x5 = .dat (.lst ((vars o.rows).map D.int))) → Over ks fs → acc.length + 5 * fs.length ≤ 90000 →
    (∀ y5 y7 y8 y9 y11, (y5 = .own (.lst ((vars o.rows).map D.int)) ∨ y5 = .dat (.lst ((vars o.rows).map D.int))) → (∀ e, x7 ≠ .own e → y7 ≠ .own e) → A.nx [.dat (csD t), .dat (csD o), x2, .dat (.int x), x4, y5, .own (.lst ((acc ++ fs.flatMap fun b => asgI t o x b (vars o.rows)).map bD)), y7, y8, y9, .un, y11]) →
    forL (agName 7) law_maps_3_0 A (fs.map bD) [.dat (csD t), .dat (csD o), x2, .dat (.int x), x4, x5, .own (.lst (acc.map bD)), x7, x8, x9, .un, x11]
  | [], acc, x5, x7, x8, x9, x11, h5, _, _, k => by
    have := k x5 x7 x8 x9 x11 h5 fun _ h => h
    rw [List.flatMap_nil, List.append_nil] at this
    exact this
  | b :: fs, acc, x5, x7, x8, x9, x11, h5, ho, hl, k => by
    rw [List.length_cons] at hl
    have hb := ho b List.mem_cons_self
    have bl : b.length ≤ 5 := by
      have := congrArg List.length hb
      rw [List.length_map] at this
      omega
    have ol := co.vl
    have lkb := lk_of (b := b) (by rw [hb]; exact nd)
    have al := asgI_len t o x b (vars o.rows)
    have ih := fun acc x5 x7 x8 x9 x11 h5 => mp3 (A := A) (x2 := x2) (x4 := x4) ct co hx nin kl nd fs acc x5 x7 x8 x9 x11 h5 fun c hc => ho c (List.mem_cons_of_mem _ hc)
    rw [List.map_cons]
    conv => whnf
    repeat (refine ⟨trivial, ?_⟩; conv => whnf)
    refine ⟨sz_le (by rw [List.length_map]; omega), ?_⟩
    conv => whnf
    repeat (refine ⟨trivial, ?_⟩; conv => whnf)
    refine ⟨noOwn_one (x := .un) rfl (fun e z => by cases z), sz_le (by rw [List.length_map]; omega), ?_⟩
    refine lc_ind (Ev := fun env => env = [.dat (csD t), .dat (csD o), x2, .dat (.int x), x4, x5, .own (.lst (acc.map bD)), .dat (bD b), x8, x9, .un, x11]) (Stp := fun y oz => ∃ p : Int × Int, p ∈ b ∧ y = .int p.1 ∧ oz = some (.int p.2)) _ ?_ _ _ rfl ?_
    · rintro y hy _ K rfl hK
      obtain ⟨p, hp, rfl⟩ := List.mem_map.mp hy
      conv => whnf
      repeat (refine ⟨trivial, ?_⟩; conv => whnf)
      rw [brP_true]
      conv => whnf
      repeat (refine ⟨trivial, ?_⟩; conv => whnf)
      refine ix_bdv (lkb p hp) ?_
      conv => whnf
      repeat (refine ⟨trivial, ?_⟩; conv => whnf)
      exact hK _ _ rfl ⟨p, hp, rfl, rfl⟩
    · rintro zs _ ot rfl
      have ez2 : zs = (b.map (·.2)).map D.int := by
        have ez := ot.map (g := fun p : Int × Int => D.int p.1) (f := fun p => D.int ((lkB b p.1).getD 0)) fun a oz ⟨p, hp, e1, e2⟩ => by
          injection e1 with e1
          rw [e2, e1, lkb p hp]
          rfl
        rw [ez, List.map_map]
        refine List.map_congr_left fun p hp => ?_
        show D.int ((lkB b p.1).getD 0) = D.int p.2
        rw [lkb p hp]
        rfl
      rw [ez2]
      rcases h5 with rfl | rfl <;>
      · conv => whnf
        repeat (refine ⟨trivial, ?_⟩; conv => whnf)
        intro _
        refine mp4 ct co hx (by rw [hb]; exact nin) bl (vars o.rows) acc _ _ (fun i h => h) (by omega) fun y9 y11 => ?_
        refine ih _ _ _ _ _ _ (.inr rfl) (by rw [List.length_append]; omega) fun y5 y7 y8 z9 z11 h5 h7 => ?_
        have := k y5 y7 y8 z9 z11 h5 fun e _ => h7 e fun z => by cases z
        rw [List.flatMap_cons, ← List.append_assoc] at this
        exact this
end
end AL
namespace AL
open PySem L2
/-! P32: the law's own maps, whole. -/
theorem bD_inj : ∀ {b c : Bd}, bD b = bD c → b = c
  | [], [], _ => rfl
  | [], p :: c, h => by injection h with h; cases h
  | p :: b, [], h => by injection h with h; cases h
  | (x, y) :: b, (u, v) :: c, h => by
    injection h with h1 h2
    rw [List.map_cons, List.map_cons] at h1 h2
    injection h1 with a1 h1
    injection h2 with a2 h2
    injection a1 with a1
    injection a2 with a2
    have : bD b = bD c := by
      unfold bD
      rw [h1, h2]
    have a1 : x = u := a1
    have a2 : y = v := a2
    rw [bD_inj this, a1, a2]
theorem Outs.fmap {α : Type} {S : D → Option D → Prop} {g f : α → D} {p : α → Bool} : ∀ {xs : List α} {zs : List D}, (∀ a ∈ xs, ∀ oz, S (g a) oz → oz = if p a = true then some (f a) else none) → Outs S (xs.map g) zs → zs = (xs.filter p).map f
  | [], _, _, .nil => rfl
  | a :: xs, _, h, .yes s o => by
    have e := h a List.mem_cons_self _ s
    cases w : p a with
    | true =>
      rw [w] at e
      cases e
      rw [Outs.fmap (fun b hb => h b (List.mem_cons_of_mem _ hb)) o, List.filter_cons, w]
      rfl
    | false => rw [w] at e; cases e
  | a :: xs, _, h, .no s o => by
    have e := h a List.mem_cons_self _ s
    cases w : p a with
    | true => rw [w] at e; cases e
    | false =>
      rw [Outs.fmap (fun b hb => h b (List.mem_cons_of_mem _ hb)) o, List.filter_cons, w]
      rfl
theorem flat_len {α β : Type} {f : α → List β} {n : Nat} : ∀ {l : List α}, (∀ a ∈ l, (f a).length ≤ n) → (l.flatMap f).length ≤ n * l.length
  | [], _ => by simp
  | a :: l, h => by
    rw [List.flatMap_cons, List.length_append, List.length_cons]
    have h1 := h a List.mem_cons_self
    have h2 := flat_len (f := f) fun b hb => h b (List.mem_cons_of_mem _ hb)
    rw [Nat.mul_add]
    omega
section
variable {t o : Tree}
theorem over_step {ks : List Int} {x : Int} {f : List Bd} (h : Over ks f) : Over (ks ++ [x]) (f.flatMap fun b => asgI t o x b (vars o.rows)) := fun c hc => by
  obtain ⟨b, hb, hc⟩ := List.mem_flatMap.mp hc
  exact asgI_over (h b hb) _ c hc
set_option maxHeartbeats 0 in
theorem mp2 {A : AEnds} {x4 : AV} (ct : CaseOk t) (co : CaseOk o) :
    ∀ (xs ks : List Int) (f : List Bd) (x2 x3 x5 x6 x7 x8 x9 x11 : AV), ks ++ xs = vars t.rows → Over ks f → f.length * 5 ^ xs.length ≤ 10000 → (x2 = .own (.lst (f.map bD)) ∨ x2 = .dat (.lst (f.map bD))) → (x5 = .own (.lst ((vars o.rows).map D.int)) ∨ x5 = .dat (.lst ((vars o.rows).map D.int))) → (∀ e, x7 ≠ .own e) →
    (∀ y2 y3 y5 y6 y7 y8 y9 y11, (y2 = .own (.lst ((asgF t o xs f).map bD)) ∨ y2 = .dat (.lst ((asgF t o xs f).map bD))) → (∀ e, y7 ≠ .own e) → A.nx [.dat (csD t), .dat (csD o), y2, y3, x4, y5, y6, y7, y8, y9, .un, y11]) →
    forL (agName 3) law_maps_2_0 A (xs.map D.int) [.dat (csD t), .dat (csD o), x2, x3, x4, x5, x6, x7, x8, x9, .un, x11]
  | [], ks, f, x2, x3, x5, x6, x7, x8, x9, x11, _, _, _, h2, _, h7, k => k _ _ _ _ _ _ _ _ h2 h7
  | x :: xs, ks, f, x2, x3, x5, x6, x7, x8, x9, x11, hk, ho, hl, h2, h5, h7, k => by
    have ol := co.vl
    have v5 := ct.vl
    have ih := mp2 (A := A) (x4 := x4) ct co xs (ks ++ [x]) (f.flatMap fun b => asgI t o x b (vars o.rows))
    have hx : x ∈ vars t.rows := by rw [← hk]; exact List.mem_append.mpr (.inr List.mem_cons_self)
    have nd := vars_nodup t.rows
    rw [← hk, List.nodup_append] at nd
    have nin : x ∉ ks := fun z => nd.2.2 x z x List.mem_cons_self rfl
    have kl : ks.length ≤ 5 := by
      have := congrArg List.length hk
      rw [List.length_append] at this
      omega
    have pp : 1 ≤ 5 ^ xs.length := Nat.one_le_pow _ _ (by omega)
    have hl2 : f.length * 5 * 5 ^ xs.length ≤ 10000 := by
      rw [List.length_cons, Nat.pow_succ, Nat.mul_comm (5 ^ xs.length) 5, ← Nat.mul_assoc] at hl
      exact hl
    have f5 : f.length * 5 ≤ 10000 := Nat.le_trans (Nat.le_mul_of_pos_right _ pp) hl2
    have fl := flat_len (f := fun b => asgI t o x b (vars o.rows)) (n := 5) (l := f) fun b _ => Nat.le_trans (asgI_len t o x b _) ol
    rw [List.map_cons]
    rcases h2 with rfl | rfl <;>
    · conv => whnf
      repeat (refine ⟨trivial, ?_⟩; conv => whnf)
      refine ⟨Nat.zero_le _, ?_⟩
      conv => whnf
      repeat (refine ⟨trivial, ?_⟩; conv => whnf)
      intro _
      refine mp3 ct co hx nin kl nd.1 f [] _ _ _ _ _ h5 ho (by rw [List.length_nil]; omega) fun y5 y7 y8 y9 y11 q5 q7 => ?_
      conv => whnf
      repeat (refine ⟨trivial, ?_⟩; conv => whnf)
      refine ih _ _ _ _ _ _ _ _ (by rw [List.append_assoc]; exact hk) (over_step ho) ?_ (.inr rfl) q5 (fun e => q7 e (h7 e)) k
      refine Nat.le_trans (Nat.mul_le_mul_right _ fl) ?_
      rw [Nat.mul_comm 5 f.length]
      exact hl2
set_option maxHeartbeats 0 in
theorem p_law_maps : BodyOk 2 12 B_law_maps a_law_maps S_law_maps := by
  rintro _ R ⟨t, o, rfl, ct, co, k⟩
  refine ⟨rfl, ownN (ds := [_, _]), ?_⟩
  have ol := co.vl
  have v5 := ct.vl
  conv => whnf
  repeat (refine ⟨trivial, ?_⟩; conv => whnf)
  refine ix_tup (by omega) rfl ?_
  conv => whnf
  repeat (refine ⟨trivial, ?_⟩; conv => whnf)
  refine use_variables t.rows rfl ct.rowsOk ?_
  conv => whnf
  repeat (refine ⟨trivial, ?_⟩; conv => whnf)
  refine ix_tup (by omega) rfl ?_
  conv => whnf
  repeat (refine ⟨trivial, ?_⟩; conv => whnf)
  refine use_variables o.rows rfl co.rowsOk ?_
  conv => whnf
  repeat (refine ⟨trivial, ?_⟩; conv => whnf)
  refine ⟨rfl, ?_⟩
  conv => whnf
  repeat (refine ⟨trivial, ?_⟩; conv => whnf)
  refine ne_int ?_
  rw [List.length_map, List.length_map]
  conv => whnf
  repeat (refine ⟨trivial, ?_⟩; conv => whnf)
  refine brI (fun h => ?_) (fun h => ?_)
  · have ne : ¬ (vars t.rows).length = (vars o.rows).length := fun z => by
      rw [z] at h
      simp at h
    unfold mapsF at k
    rw [if_neg ne] at k
    conv => whnf
    repeat (refine ⟨trivial, ?_⟩; conv => whnf)
    refine ⟨Nat.zero_le _, ?_⟩
    exact ⟨new_ _, k⟩
  · have eq : (vars t.rows).length = (vars o.rows).length := by
      have : (((vars t.rows).length : Int) = ((vars o.rows).length : Int)) := by simpa using h
      omega
    unfold mapsF at k
    rw [if_pos eq] at k
    conv => whnf
    repeat (refine ⟨trivial, ?_⟩; conv => whnf)
    refine ⟨sz1, ?_⟩
    conv => whnf
    repeat (refine ⟨trivial, ?_⟩; conv => whnf)
    intro _
    have e5 : 1 * 5 ^ (vars t.rows).length ≤ 10000 := by
      rw [Nat.one_mul]
      exact Nat.le_trans (Nat.pow_le_pow_right (by omega) v5) (by decide)
    refine mp2 ct co (vars t.rows) [] [[]] _ _ _ _ _ _ _ _ rfl (fun c hc => by
      rw [List.mem_singleton] at hc
      rw [hc]; rfl) e5 (.inl rfl) (.inl rfl) (fun e z => by cases z) fun y2 y3 y5 y6 y7 y8 y9 y11 q2 q7 => ?_
    have ks : Over (vars t.rows) (asgF t o (vars t.rows) [[]]) := asg_keys (ks := []) fun c hc => by
      rw [List.mem_singleton] at hc
      rw [hc]; rfl
    generalize hF : asgF t o (vars t.rows) [[]] = F at *
    rcases q2 with rfl | rfl <;>
    · conv => whnf
      repeat (refine ⟨trivial, ?_⟩; conv => whnf)
      intro hFl
      refine ⟨noOwn_one (x := y7) rfl q7, hFl, ?_⟩
      refine lc_ind (Ev := fun env => env = [.dat (csD t), .dat (csD o), .dat (.lst (F.map bD)), y3, .dat (.lst ((vars t.rows).map D.int)), y5, y6, .un, y8, y9, .un, y11]) (Stp := fun y oz => ∃ b : Bd, y = bD b ∧ oz = if isMapF t o b = true then some (tmD (vl (vars t.rows) b)) else none) _ ?_ _ _ rfl ?_
      · rintro y hy _ K rfl hK
        obtain ⟨b, hb, rfl⟩ := List.mem_map.mp hy
        have kb := ks b hb
        conv => whnf
        repeat (refine ⟨trivial, ?_⟩; conv => whnf)
        refine use_ismap t o b ct co kb ?_
        conv => whnf
        repeat (refine ⟨trivial, ?_⟩; conv => whnf)
        refine brI (fun h => ?_) (fun h => ?_)
        · conv => whnf
          repeat (refine ⟨trivial, ?_⟩; conv => whnf)
          refine use_llaid (vars t.rows) b rfl (by omega) (bd_keys kb (by omega)) (by rw [kb]; exact fun x hx _ => hx) ?_
          conv => whnf
          repeat (refine ⟨trivial, ?_⟩; conv => whnf)
          exact hK _ _ rfl ⟨b, rfl, by rw [if_pos h]⟩
        · exact hK _ _ rfl ⟨b, rfl, by rw [h]; rfl⟩
      · rintro zs _ ot rfl
        have ez := ot.fmap (p := isMapF t o) (f := fun b => tmD (vl (vars t.rows) b)) fun b _ oz ⟨c, e1, e2⟩ => by
          rw [bD_inj e1]
          exact e2
        rw [ez]
        have e : ((F.filter (isMapF t o)).map fun b => tmD (vl (vars t.rows) b)) = ((F.filter (isMapF t o)).map (vl (vars t.rows))).map tmD := by
          rw [List.map_map]
          rfl
        rw [e]
        exact ⟨new_ _, k⟩
theorem use_maps {env : AEnv} (t o : Tree) {R : RV → AEnv → Prop} (ct : CaseOk t) (co : CaseOk o) (k : R (.new (.lst ((mapsF t o).map tmD))) env) : callR S_law_maps [.dat (csD t), .dat (csD o)] env R :=
  call_dats [_, _] ⟨t, o, rfl, ct, co, k⟩
end
end AL
namespace AL
open PySem L2
/-! P33: reads. -/
theorem get_tm {l : List Int} {i : Nat} (h : i < l.length) : (l.map D.int)[i]? = some (.int l[i]) := by
  rw [List.getElem?_map, List.getElem?_eq_getElem h]
  rfl
theorem take_more {α : Type} {l : List α} {i : Nat} (h : i < l.length) : l.take i ++ [l[i]] = l.take (i + 1) := by
  rw [List.take_succ, List.getElem?_eq_getElem h]
  rfl
/-- names given place by place -/
theorem zip_take_nin {vs is : List Int} {i : Nat} (nd : vs.Nodup) (hl : vs.length = is.length) (h : i < vs.length) : vs[i] ∉ ((vs.zip is).take i).map (·.1) := fun z => by
  rw [List.map_take, (zip_fst2 hl).1] at z
  obtain ⟨j, hj, e⟩ := List.mem_iff_getElem.mp z
  rw [List.length_take] at hj
  rw [List.getElem_take] at e
  have := (List.getElem_inj nd).mp e
  omega
section
variable {t o : Tree}
set_option maxHeartbeats 0 in
theorem rd4 {A : AEnds} {vs is : List Int} {x0 x1 x6 : AV} (nd : vs.Nodup) (hl : vs.length = is.length) (h5 : vs.length ≤ 1000) :
    ∀ (left i : Nat) (x5 : AV), i + left = vs.length →
    (∀ y5, A.nx [x0, x1, .dat (tmD is), .own (.lst (vs.map D.int)), .own (bD (vs.zip is)), y5, x6]) →
    forL (agName 5) law_reads_4_0 A ((List.range' i left).map fun j : Nat => D.int (0 + (j : Int))) [x0, x1, .dat (tmD is), .own (.lst (vs.map D.int)), .own (bD ((vs.zip is).take i)), x5, x6]
  | 0, i, x5, h, k => by
    have := k x5
    rw [List.take_of_length_le (by rw [List.length_zip]; omega)]
    exact this
  | left + 1, i, x5, h, k => by
    have hi : i < vs.length := by omega
    have hi2 : i < is.length := by omega
    have e0 : (0 + (i : Int)) = (i : Int) := by omega
    rw [List.range'_succ, List.map_cons, e0]
    conv => whnf
    repeat (refine ⟨trivial, ?_⟩; conv => whnf)
    refine ix_tup (by omega) (by rw [Int.toNat_natCast]; exact get_tm hi2) ?_
    conv => whnf
    repeat (refine ⟨trivial, ?_⟩; conv => whnf)
    refine ix_lst (by omega) (by rw [Int.toNat_natCast]; exact get_tm hi) ?_
    conv => whnf
    repeat (refine ⟨trivial, ?_⟩; conv => whnf)
    refine set_bd rfl (zip_take_nin nd hl hi) (by rw [List.length_take]; omega) ?_
    have e : (vs.zip is).take i ++ [(vs[i], is[i])] = (vs.zip is).take (i + 1) := by
      rw [← take_more (by rw [List.length_zip]; omega), List.getElem_zip]
    rw [e]
    exact rd4 nd hl h5 left (i + 1) _ (by omega) k
abbrev rdV (t o : Tree) (im : Off) : AEnv := [.dat (csD t), .dat (csD o), .dat (ofD im)]
def rdA (R : RV → AEnv → Prop) (t o : Tree) (im : Off) : AEnds := { nx := fun env => R (.dat .non) (outs (rdV t o im) env), rt := fun r env => (∀ i, r ≠ .at i) ∧ R r (outs (rdV t o im) env) }
theorem rd_ret {R : RV → AEnv → Prop} {im : Off} {c : Bool} (k : R (.dat (.bl c)) (rdV t o im)) (env : AEnv) : (rdA R t o im).rt (.dat (.bl c)) env := by
  refine ⟨nat_ _, ?_⟩
  have e : outs (rdV t o im) env = _ := outs_dat [csD t, csD o, ofD im] env
  rw [e]
  exact k
theorem toInts_all : ∀ l : List Img, (l.all isI = true ∧ ∃ is, toInts l = some is) ∨ (l.all isI = false ∧ toInts l = none)
  | [] => .inl ⟨rfl, [], rfl⟩
  | .int i :: r => by
    rcases toInts_all r with ⟨h1, is, h2⟩ | ⟨h1, h2⟩
    · exact .inl ⟨by rw [List.all_cons, h1]; rfl, i :: is, by show (toInts r).map _ = _; rw [h2]; rfl⟩
    · exact .inr ⟨by rw [List.all_cons, h1]; rfl, by show (toInts r).map _ = _; rw [h2]; rfl⟩
  | .bl _ :: r => .inr ⟨by rw [List.all_cons]; rfl, rfl⟩
  | .non :: r => .inr ⟨by rw [List.all_cons]; rfl, rfl⟩
  | .str _ :: r => .inr ⟨by rw [List.all_cons]; rfl, rfl⟩
theorem all_isI {S : D → Option D → Prop} (h : ∀ y oz, S y oz → ∃ i : Img, y = imD i ∧ oz = some (.bl (isI i))) : ∀ {l : List Img} {zs : List D}, Outs S (l.map imD) zs → ∃ bs : List Bool, zs = bs.map D.bl ∧ bs.all id = l.all isI
  | [], _, .nil => ⟨[], rfl, rfl⟩
  | i :: l, _, .yes s r => by
    obtain ⟨j, e1, e2⟩ := h _ _ s
    obtain ⟨bs, rfl, ea⟩ := all_isI h r
    injection e2 with e2
    have eij : isI j = isI i := by cases i <;> cases j <;> first | rfl | (cases e1)
    refine ⟨isI i :: bs, by rw [e2, eij]; rfl, ?_⟩
    rw [List.all_cons, List.all_cons, ea]
    rfl
  | i :: l, _, .no s r => by
    obtain ⟨j, e1, e2⟩ := h _ _ s
    cases e2
set_option maxHeartbeats 0 in
theorem rd3 {R : RV → AEnv → Prop} {im : Off} {is : List Int} (ct : CaseOk t) (co : CaseOk o) (eo : ofD im = tmD is) (hl : (vars t.rows).length = is.length)
    (k : R (.dat (.bl (decide ((vars o.rows).length = (vars t.rows).length) && isMapF t o ((vars t.rows).zip is)))) (rdV t o im)) :
    law_reads_0_3 (rdA R t o im) [.dat (csD t), .dat (csD o), .dat (tmD is), .own (.lst ((vars t.rows).map D.int)), .un, .un, .un] := by
  have v5 := ct.vl
  conv => whnf
  repeat (refine ⟨trivial, ?_⟩; conv => whnf)
  refine ix_tup (by omega) rfl ?_
  conv => whnf
  repeat (refine ⟨trivial, ?_⟩; conv => whnf)
  refine use_variables o.rows rfl co.rowsOk ?_
  conv => whnf
  repeat (refine ⟨trivial, ?_⟩; conv => whnf)
  refine ne_int ?_
  rw [List.length_map, List.length_map]
  conv => whnf
  repeat (refine ⟨trivial, ?_⟩; conv => whnf)
  refine brI (fun h => ?_) (fun h => ?_)
  · have ne : ¬ (vars o.rows).length = (vars t.rows).length := fun z => by
      rw [z] at h
      simp at h
    rw [decide_eq_false ne] at k
    conv => whnf
    repeat (refine ⟨trivial, ?_⟩; conv => whnf)
    exact rd_ret k _
  · have eq : (vars o.rows).length = (vars t.rows).length := by
      have : (((vars o.rows).length : Int) = ((vars t.rows).length : Int)) := by simpa using h
      omega
    rw [decide_eq_true eq] at k
    conv => whnf
    repeat (refine ⟨trivial, ?_⟩; conv => whnf)
    refine ⟨⟨by omega, by rw [List.length_map]; omega⟩, ?_⟩
    rw [Int.toNat_natCast, List.length_map, range_D]
    refine rd4 (vars_nodup t.rows) hl (by omega) _ 0 _ (by omega) fun y5 => ?_
    conv => whnf
    repeat (refine ⟨trivial, ?_⟩; conv => whnf)
    refine use_ismap t o ((vars t.rows).zip is) ct co (zip_fst2 hl).1 ?_
    conv => whnf
    repeat (refine ⟨trivial, ?_⟩; conv => whnf)
    exact rd_ret k _
set_option maxHeartbeats 0 in
theorem p_law_reads : BodyOk 3 7 B_law_reads a_law_reads S_law_reads := by
  rintro _ R ⟨t, o, im, rfl, ct, co, ol, k⟩
  refine ⟨rfl, ownN (ds := [_, _, _]), ?_⟩
  have v5 := ct.vl
  unfold readF at k
  conv => whnf
  repeat (refine ⟨trivial, ?_⟩; conv => whnf)
  refine ix_tup (by omega) rfl ?_
  conv => whnf
  repeat (refine ⟨trivial, ?_⟩; conv => whnf)
  refine use_variables t.rows rfl ct.rowsOk ?_
  cases im with
  | tup l =>
    have ol : l.length ≤ 100 := ol
    conv => whnf
    repeat (refine ⟨trivial, ?_⟩; conv => whnf)
    refine ⟨"tuple", true, rfl, by decide +kernel, ?_⟩
    conv => whnf
    repeat (refine ⟨trivial, ?_⟩; conv => whnf)
    refine brF rfl ?_
    conv => whnf
    repeat (refine ⟨trivial, ?_⟩; conv => whnf)
    refine ne_int ?_
    rw [List.length_map, List.length_map]
    conv => whnf
    repeat (refine ⟨trivial, ?_⟩; conv => whnf)
    refine brI (fun h => ?_) (fun h => ?_)
    · have ne : ¬ l.length = (vars t.rows).length := fun z => by
        rw [z] at h
        simp at h
      have e : offI (vars t.rows).length (.tup l) = none := if_neg ne
      rw [e] at k
      conv => whnf
      repeat (refine ⟨trivial, ?_⟩; conv => whnf)
      exact rd_ret k _
    · have el : l.length = (vars t.rows).length := by
        have : ((l.length : Int) = ((vars t.rows).length : Int)) := by simpa using h
        omega
      have e : offI (vars t.rows).length (.tup l) = toInts l := if_pos el
      rw [e] at k
      conv => whnf
      repeat (refine ⟨trivial, ?_⟩; conv => whnf)
      intro _
      refine ⟨noOwn_one (x := .un) rfl (fun e z => by cases z), sz_le (by rw [List.length_map]; omega), ?_⟩
      refine lc_ind (Ev := fun env => env = [.dat (csD t), .dat (csD o), .dat (ofD (.tup l)), .own (.lst ((vars t.rows).map D.int)), .un, .un, .un]) (Stp := fun y oz => ∃ i : Img, y = imD i ∧ oz = some (.bl (isI i))) _ ?_ _ _ rfl ?_
      · rintro y hy _ K rfl hK
        obtain ⟨i, hi, rfl⟩ := List.mem_map.mp hy
        conv => whnf
        repeat (refine ⟨trivial, ?_⟩; conv => whnf)
        rw [brP_true]
        conv => whnf
        repeat (refine ⟨trivial, ?_⟩; conv => whnf)
        refine use_isint i ?_
        conv => whnf
        repeat (refine ⟨trivial, ?_⟩; conv => whnf)
        exact hK _ _ rfl ⟨i, rfl, rfl⟩
      · rintro zs _ ot rfl
        obtain ⟨bs, rfl, ea⟩ := all_isI (fun y oz h => h) ot
        conv => whnf
        repeat (refine ⟨trivial, ?_⟩; conv => whnf)
        refine ⟨bs, rfl, ?_⟩
        rw [ea]
        conv => whnf
        repeat (refine ⟨trivial, ?_⟩; conv => whnf)
        rcases toInts_all l with ⟨a1, is, a2⟩ | ⟨a1, a2⟩
        · rw [a1]
          rw [a2] at k
          refine brF rfl ?_
          have eo : ofD (.tup l) = tmD is := by
            show D.tup (l.map imD) = _
            rw [toInts_map a2]
            rfl
          have hl : (vars t.rows).length = is.length := by
            have := congrArg List.length (toInts_map a2)
            rw [List.length_map, List.length_map] at this
            omega
          have key := rd3 (R := R) (im := .tup l) ct co eo hl k
          rw [← eo] at key
          exact key
        · rw [a1]
          rw [a2] at k
          refine brT rfl ?_
          conv => whnf
          repeat (refine ⟨trivial, ?_⟩; conv => whnf)
          exact rd_ret k _
  | lst l =>
    conv => whnf
    repeat (refine ⟨trivial, ?_⟩; conv => whnf)
    refine ⟨"list", false, rfl, by decide +kernel, ?_⟩
    conv => whnf
    repeat (refine ⟨trivial, ?_⟩; conv => whnf)
    refine brT rfl ?_
    conv => whnf
    repeat (refine ⟨trivial, ?_⟩; conv => whnf)
    refine brT rfl ?_
    conv => whnf
    repeat (refine ⟨trivial, ?_⟩; conv => whnf)
    exact rd_ret k _
  | one i =>
    cases i with
    | int i =>
      conv => whnf
      repeat (refine ⟨trivial, ?_⟩; conv => whnf)
      refine ⟨"int", false, rfl, by decide +kernel, ?_⟩
      conv => whnf
      repeat (refine ⟨trivial, ?_⟩; conv => whnf)
      refine brT rfl ?_
      conv => whnf
      repeat (refine ⟨trivial, ?_⟩; conv => whnf)
      refine brT rfl ?_
      conv => whnf
      repeat (refine ⟨trivial, ?_⟩; conv => whnf)
      exact rd_ret k _
    | bl i =>
      conv => whnf
      repeat (refine ⟨trivial, ?_⟩; conv => whnf)
      refine ⟨"bool", false, rfl, by decide +kernel, ?_⟩
      conv => whnf
      repeat (refine ⟨trivial, ?_⟩; conv => whnf)
      refine brT rfl ?_
      conv => whnf
      repeat (refine ⟨trivial, ?_⟩; conv => whnf)
      refine brT rfl ?_
      conv => whnf
      repeat (refine ⟨trivial, ?_⟩; conv => whnf)
      exact rd_ret k _
    | non =>
      conv => whnf
      repeat (refine ⟨trivial, ?_⟩; conv => whnf)
      refine ⟨"NoneType", false, rfl, by decide +kernel, ?_⟩
      conv => whnf
      repeat (refine ⟨trivial, ?_⟩; conv => whnf)
      refine brT rfl ?_
      conv => whnf
      repeat (refine ⟨trivial, ?_⟩; conv => whnf)
      refine brT rfl ?_
      conv => whnf
      repeat (refine ⟨trivial, ?_⟩; conv => whnf)
      exact rd_ret k _
    | str i =>
      conv => whnf
      repeat (refine ⟨trivial, ?_⟩; conv => whnf)
      refine ⟨"str", false, rfl, by decide +kernel, ?_⟩
      conv => whnf
      repeat (refine ⟨trivial, ?_⟩; conv => whnf)
      refine brT rfl ?_
      conv => whnf
      repeat (refine ⟨trivial, ?_⟩; conv => whnf)
      refine brT rfl ?_
      conv => whnf
      repeat (refine ⟨trivial, ?_⟩; conv => whnf)
      exact rd_ret k _
theorem use_reads {env : AEnv} (t o : Tree) (im : Off) {R : RV → AEnv → Prop} (ct : CaseOk t) (co : CaseOk o) (ol : offLen im ≤ 100) (k : R (.dat (.bl (readF t o im))) env) : callR S_law_reads [.dat (csD t), .dat (csD o), .dat (ofD im)] env R :=
  call_dats [_, _, _] ⟨t, o, im, rfl, ct, co, ol, k⟩
end
end AL
namespace AL
open PySem L2
/-! P34: whole. -/
theorem get_cel {sp : List Span} {x : Int} : (dGet (sp.map fun s => D.int s.1) (sp.map fun s => D.tup [.int s.2.1, .int s.2.2]) (.int x)).getD (.tup [.int 0, .int 1000]) = prD ((lkC sp x).getD (0, 1000)) := by
  rw [get_spans]
  unfold lkC
  cases sp.find? (fun s => s.1 == x) <;> rfl
theorem set_cel {sp : List Span} {x : Int} {p : Int × Int} {env : AEnv} {j : Nat} {N : AEnv → Prop} (e : env[j]? = some (.own (celD sp))) (n : x ∉ sp.map (·.1)) (hz : sp.length ≤ 900000) (h : N (env.set j (.own (celD (sp ++ [(x, p)]))))) : setAt j (.int x) (prD p) env N := by
  refine set_dic e rfl (fun z => n (cel_mem.mp z)) (by rw [List.length_map]; omega) ?_
  have e1 : sp.map (fun s => D.int s.1) ++ [D.int x] = (sp ++ [(x, p)]).map fun s => D.int s.1 := by rw [List.map_append]; rfl
  have e2 : sp.map (fun s => D.tup [.int s.2.1, .int s.2.2]) ++ [prD p] = (sp ++ [(x, p)]).map fun s => D.tup [.int s.2.1, .int s.2.2] := by rw [List.map_append]; rfl
  rw [e1, e2]
  exact h
set_option maxHeartbeats 0 in
theorem wh1 {A : AEnds} {sp : List Span} {x0 x2 x3 : AV} : ∀ (xs : List Int) (done : List Span) (x5 : AV), (∀ e, x5 ≠ .own e) → (done.map (·.1) ++ xs).Nodup → done.length + xs.length ≤ 900000 →
    (∀ y5, (∀ e, y5 ≠ .own e) → A.nx [x0, .dat (celD sp), x2, x3, .own (celD (done ++ xs.map fun x => (x, (lkC sp x).getD (0, 1000)))), y5]) →
    forL (agName 5) law_whole_1_0 A (xs.map D.int) [x0, .dat (celD sp), x2, x3, .own (celD done), x5]
  | [], done, x5, h5, _, _, k => by
    have := k x5 h5
    rw [List.map_nil, List.append_nil] at this
    exact this
  | x :: xs, done, x5, h5, nd, hl, k => by
    rw [List.length_cons] at hl
    have nx : x ∉ done.map (·.1) := fun z => by
      rw [List.nodup_append] at nd
      exact nd.2.2 x z x List.mem_cons_self rfl
    rw [List.map_cons]
    conv => whnf
    repeat (refine ⟨trivial, ?_⟩; conv => whnf)
    refine ⟨sz2, ?_⟩
    conv => whnf
    repeat (refine ⟨trivial, ?_⟩; conv => whnf)
    refine ⟨rfl, ?_⟩
    rw [get_cel]
    conv => whnf
    repeat (refine ⟨trivial, ?_⟩; conv => whnf)
    refine set_cel rfl nx (by omega) ?_
    refine wh1 xs _ _ (fun e z => by cases z) ?_ (by rw [List.length_append, List.length_singleton]; omega) fun y5 h5 => ?_
    · rw [List.map_append, List.append_assoc]
      exact nd
    · have := k y5 h5
      rw [List.append_assoc]
      exact this
set_option maxHeartbeats 0 in
theorem p_law_whole : BodyOk 3 6 B_law_whole a_law_whole S_law_whole := by
  rintro _ R ⟨rs, sp, ws, rfl, ok, sl, snd, wl, k⟩
  refine ⟨rfl, ownN (ds := [_, _, _]), ?_⟩
  have r0 := ok.1
  have uok : RowsOk (unl [] rs) := by
    have := unl_len rs ([] : List Row)
    rw [List.length_nil] at this
    refine ⟨by omega, fun r hr => ok.2 r ?_⟩
    rcases (unl_in rs [] r).mp hr with z | z
    · cases z
    · exact z
  conv => whnf
  repeat (refine ⟨trivial, ?_⟩; conv => whnf)
  refine use_unlike (rs.map rowD) 2 rfl (by rw [List.length_map]; omega) (by omega) (rows_pl ok) ?_
  have eu : unl [] (rs.map rowD) = (unl [] rs).map rowD := by
    have z := unl_map (f := rowD) (fun a b h => rowD_inj.mp h) rs []
    exact z
  rw [eu]
  conv => whnf
  repeat (refine ⟨trivial, ?_⟩; conv => whnf)
  refine use_variablesO 0 (unl [] rs) rfl uok ?_
  have vlen := vars_len uok
  conv => whnf
  repeat (refine ⟨trivial, ?_⟩; conv => whnf)
  intro _
  refine wh1 (vars (unl [] rs)) [] _ (fun e z => by cases z) (by simpa using vars_nodup (unl [] rs)) (by rw [List.length_nil]; omega) fun y5 h5 => ?_
  conv => whnf
  repeat (refine ⟨trivial, ?_⟩; conv => whnf)
  intro _
  refine ⟨noOwn_one (x := y5) rfl h5, sz_le (by rw [List.length_map]; omega), ?_⟩
  rw [List.nil_append]
  refine lc_ind (Ev := fun env => env = [.own (.lst ((unl [] rs).map rowD)), .dat (celD sp), .dat (.lst (ws.map D.int)), .dat (.lst ((vars (unl [] rs)).map D.int)), .dat (celD ((vars (unl [] rs)).map fun x => (x, (lkC sp x).getD (0, 1000)))), .un]) (Stp := fun y oz => ∃ x : Int, y = .int x ∧ oz = some (.int (if 0 ≤ x ∨ x ∈ vars (unl [] rs) then x else 50))) _ ?_ _ _ rfl ?_
  · rintro y hy _ K rfl hK
    obtain ⟨x, hx, rfl⟩ := List.mem_map.mp hy
    conv => whnf
    repeat (refine ⟨trivial, ?_⟩; conv => whnf)
    rw [brP_true]
    conv => whnf
    repeat (refine ⟨trivial, ?_⟩; conv => whnf)
    refine brI (fun h => ?_) (fun h => ?_)
    · have g : 0 ≤ x := by simpa using h
      conv => whnf
      repeat (refine ⟨trivial, ?_⟩; conv => whnf)
      refine brT rfl ?_
      conv => whnf
      repeat (refine ⟨trivial, ?_⟩; conv => whnf)
      exact hK _ _ rfl ⟨x, rfl, by rw [if_pos (.inl g)]⟩
    · have g : ¬ 0 ≤ x := by simpa using h
      conv => whnf
      repeat (refine ⟨trivial, ?_⟩; conv => whnf)
      refine in_lst (n := 0) (m := 0) (.int 0 x) (fun z hz => by
        obtain ⟨j, _, rfl⟩ := List.mem_map.mp hz
        exact .int 0 j) ?_
      conv => whnf
      repeat (refine ⟨trivial, ?_⟩; conv => whnf)
      refine brI (fun h => ?_) (fun h => ?_)
      · have m : x ∈ vars (unl [] rs) := by
          have : D.int x ∈ (vars (unl [] rs)).map D.int := by simpa using h
          obtain ⟨j, hj, e⟩ := List.mem_map.mp this
          injection e with e
          rw [← e]; exact hj
        conv => whnf
        repeat (refine ⟨trivial, ?_⟩; conv => whnf)
        exact hK _ _ rfl ⟨x, rfl, by rw [if_pos (.inr m)]⟩
      · have m : x ∉ vars (unl [] rs) := fun z => by
          have : D.int x ∈ (vars (unl [] rs)).map D.int := List.mem_map.mpr ⟨x, z, rfl⟩
          rw [decide_eq_true this] at h
          cases h
        conv => whnf
        repeat (refine ⟨trivial, ?_⟩; conv => whnf)
        exact hK _ _ rfl ⟨x, rfl, by rw [if_neg fun z => z.elim g m]⟩
  · rintro zs _ ot rfl
    have ez := ot.map (f := fun x => D.int (if 0 ≤ x ∨ x ∈ vars (unl [] rs) then x else 50)) fun x oz ⟨u, e1, e2⟩ => by
      injection e1 with e1
      rw [e1]
      exact e2
    rw [ez]
    conv => whnf
    repeat (refine ⟨trivial, ?_⟩; conv => whnf)
    refine ⟨sz3, ?_⟩
    have e : csD (wholeT rs sp ws) = .tup [.tup ((unl [] rs).map rowD), celD ((vars (unl [] rs)).map fun x => (x, (lkC sp x).getD (0, 1000))), .tup (ws.map fun x => D.int (if 0 ≤ x ∨ x ∈ vars (unl [] rs) then x else 50))] := by
      unfold csD wholeT tmD
      simp only [List.map_map]
      rfl
    rw [e] at k
    exact ⟨nat_ _, k⟩
theorem use_whole {env : AEnv} (rs : List Row) (sp : List Span) (ws : List Int) {R : RV → AEnv → Prop} (ok : RowsOk rs) (sl : sp.length ≤ 1000) (snd : (sp.map (·.1)).Nodup) (wl : ws.length ≤ 1000) (k : R (.dat (csD (wholeT rs sp ws))) env) : callR S_law_whole [.dat (.lst (rs.map rowD)), .dat (celD sp), .dat (.lst (ws.map D.int))] env R :=
  call_dats [_, _, _] ⟨rs, sp, ws, rfl, ok, sl, snd, wl, k⟩
end AL
namespace AL
open PySem L2
/-! P35: slices; what a whole case keeps. -/
theorem cut_to {α : Type} (xs : List α) (i : Nat) (h : i ≤ xs.length) : cutL xs none (some (i : Int)) = xs.take i := by
  unfold cutL
  rw [HT.sIx_none, HT.sIx_nat, Nat.min_eq_left h, Nat.sub_zero]
  rfl
theorem cut_from {α : Type} (xs : List α) (i : Nat) (h : i ≤ xs.length) : cutL xs (some (i : Int)) none = xs.drop i := by
  unfold cutL
  rw [HT.sIx_none, HT.sIx_nat, Nat.min_eq_left h]
  rw [List.take_of_length_le (by rw [List.length_drop]; omega)]
theorem cut_init {α : Type} (xs : List α) : cutL xs none (some (-1)) = xs.take (xs.length - 1) := by
  unfold cutL
  rw [HT.sIx_none]
  have : HT.sIx xs.length xs.length (some (-1)) = xs.length - 1 := by
    show (if (-1 : Int) < 0 then (-1 + (xs.length : Int)).toNat else min (-1 : Int).toNat xs.length) = _
    rw [if_pos (by omega)]
    omega
  rw [this, Nat.sub_zero]
  rfl
theorem cut_min {α : Type} (xs : List α) (i : Nat) : cutL xs none (some (i : Int)) = xs.take i := by
  unfold cutL
  rw [HT.sIx_none, HT.sIx_nat, Nat.sub_zero, List.drop_zero]
  by_cases h : i ≤ xs.length
  · rw [Nat.min_eq_left h]
  · rw [Nat.min_eq_right (by omega), List.take_of_length_le (Nat.le_refl _), List.take_of_length_le (by omega)]
/-- one thing exchanged -/
def exch (xs : List Int) (i : Nat) (z : Int) : List Int := xs.take i ++ [z] ++ xs.drop (i + 1)
theorem exch_len (xs : List Int) (i : Nat) (z : Int) (h : i < xs.length) : (exch xs i z).length = xs.length := by
  unfold exch
  simp only [List.length_append, List.length_take, List.length_drop, List.length_singleton]
  omega
theorem exch_mem {xs : List Int} {i : Nat} {z x : Int} (h : x ∈ exch xs i z) : x ∈ xs ∨ x = z := by
  unfold exch at h
  rcases List.mem_append.mp h with h | h
  · rcases List.mem_append.mp h with h | h
    · exact .inl (List.mem_of_mem_take h)
    · exact .inr (List.mem_singleton.mp h)
  · exact .inl (List.mem_of_mem_drop h)
theorem exch_D (xs : List Int) (i : Nat) (z : Int) (h : i < xs.length) : cutD (xs.map D.int) none (some (i : Int)) ++ [D.int z] ++ cutD (xs.map D.int) (some ((i : Int) + 1)) none = (exch xs i z).map D.int := by
  have e : ((i : Int) + 1) = ((i + 1 : Nat) : Int) := by omega
  rw [e, cutD_map, cutD_map, cut_to xs i (by omega), cut_from xs (i + 1) (by omega)]
  unfold exch
  rw [List.map_append, List.map_append]
  rfl
theorem cutD_len' (xs : List D) (lo hi : Option Int) : (cutD xs lo hi).length ≤ xs.length := by
  unfold cutD
  rw [List.length_take, List.length_drop]
  omega
theorem toNat_eq {r : Int} (h : 0 ≤ r) : ∃ i : Nat, r = (i : Int) := ⟨r.toNat, by omega⟩
theorem nd_sub_len {α : Type} [DecidableEq α] {l m : List α} (nd : l.Nodup) (h : ∀ x ∈ l, x ∈ m) : l.length ≤ m.length := by
  obtain ⟨r, p⟩ := sub_perm nd h
  have e := p.length_eq
  rw [List.length_append] at e
  omega
theorem vars_pool {rs : List Row} {pool : List Int} (h : ∀ r ∈ rs, ∀ x ∈ r.2, x < 0 → x ∈ pool) : (vars rs).length ≤ pool.length :=
  nd_sub_len (vars_nodup rs) fun x hx => by
    obtain ⟨lt, r, hr, hm⟩ := var_row hx
    exact h r hr x hm lt
theorem in_unl {α : Type} [DecidableEq α] {xs : List α} {x : α} : x ∈ unl [] xs ↔ x ∈ xs := by
  rw [unl_in]
  simp
theorem unl_le {α : Type} [DecidableEq α] (xs : List α) : (unl [] xs).length ≤ xs.length := by
  have := unl_len xs ([] : List α)
  rw [List.length_nil] at this
  omega
theorem whole_ok {rs : List Row} {sp : List Span} {ws pool : List Int} (ok : ∀ r ∈ rs, RowOk r ∧ r.2.length ≤ 4) (rl : rs.length ≤ 16) (hp : ∀ r ∈ rs, ∀ x ∈ r.2, x < 0 → x ∈ pool) (pl : pool.length ≤ 5) (wl : ws.length ≤ 10) : CaseOk (wholeT rs sp ws) := by
  have ul := unl_le rs
  have ks : (wholeT rs sp ws).spans.map (·.1) = vars (unl [] rs) := by
    show ((vars (unl [] rs)).map fun x => (x, (lkC sp x).getD (0, 1000))).map (·.1) = _
    rw [List.map_map]
    exact List.map_id _
  refine ⟨fun r hr => ok r (in_unl.mp hr), ⟨Nat.zero_le _, fun r h => nomatch h⟩, by show (unl [] rs).length ≤ 16; omega, unl_nodup rs [] List.nodup_nil, ?_, ?_, fun x hx lt => ?_, ?_, fun x => ?_⟩
  · refine Nat.le_trans (vars_pool (pool := pool) fun r hr => hp r (in_unl.mp hr)) pl
  · show (ws.map _).length ≤ 10
    rw [List.length_map]; exact wl
  · have hx : x ∈ ws.map fun x => if 0 ≤ x ∨ x ∈ vars (unl [] rs) then x else 50 := hx
    obtain ⟨y, _, e⟩ := List.mem_map.mp hx
    by_cases c : 0 ≤ y ∨ y ∈ vars (unl [] rs)
    · have e : (if 0 ≤ y ∨ y ∈ vars (unl [] rs) then y else 50) = x := e
      rw [if_pos c] at e
      rw [← e] at lt ⊢
      rcases c with c | c
      · omega
      · exact c
    · have e : (if 0 ≤ y ∨ y ∈ vars (unl [] rs) then y else 50) = x := e
      rw [if_neg c] at e
      omega
  · rw [ks]; exact vars_nodup _
  · rw [ks]; exact Iff.rfl
theorem whole_ar {rs : List Row} {sp : List Span} {ws : List Int} {ar : Str → Nat} (h : ∀ r ∈ rs, r.2.length = ar r.1) : Ar ar (wholeT rs sp ws) := fun r hr => h r (in_unl.mp hr)
end AL
namespace AL
open PySem L2
/-! P36: drawn. -/
/-- a row drawn from the tables -/
def RowFrom (tb : List (Str × Nat)) (pool : List Int) (r : Row) : Prop := ∃ p ∈ tb, r.1 = p.1 ∧ r.2.length = p.2 ∧ ∀ x ∈ r.2, 0 ≤ x ∨ x ∈ pool
theorem prD_pick {mn : List (Int × Int)} {z : D} (h : z ∈ mn.map prD) : ∃ p, z = prD p := by
  obtain ⟨p, _, rfl⟩ := List.mem_map.mp h
  exact ⟨p, rfl⟩
section
variable {tb : List (Str × Nat)} {mn : List (Int × Int)} {pool : List Int}
set_option maxHeartbeats 0 in
theorem dr2 {A : AEnds} {rows : D} {x2 x3 x6 x7 x8 x9 x10 x13 x14 : AV} (hp : pool ≠ []) (pl : pool.length ≤ 5) :
    ∀ (left i : Nat) (d : D) (ts : List Int) (x12 : AV), Dr d → ts.length + left ≤ 1000 → (∀ x ∈ ts, 0 ≤ x ∨ x ∈ pool) →
    (∀ (d' : D) (ts' : List Int) (y12 : AV), Dr d' → ts'.length = ts.length + left → (∀ x ∈ ts', 0 ≤ x ∨ x ∈ pool) → A.nx [.own d', .dat (.lst (tb.map tbD)), x2, x3, .own (.lst (pool.map D.int)), .own rows, x6, x7, x8, x9, x10, .own (.lst (ts'.map D.int)), y12, x13, x14]) →
    forL (agName 12) law_drawn_2_0 A ((List.range' i left).map fun j : Nat => D.int (0 + (j : Int))) [.own d, .dat (.lst (tb.map tbD)), x2, x3, .own (.lst (pool.map D.int)), .own rows, x6, x7, x8, x9, x10, .own (.lst (ts.map D.int)), x12, x13, x14]
  | 0, i, d, ts, x12, hd, hl, ht, k => k d ts x12 hd rfl ht
  | left + 1, i, d, ts, x12, hd, hl, ht, k => by
    have ih := fun d ts x12 => dr2 (A := A) (rows := rows) (x2 := x2) (x3 := x3) (x6 := x6) (x7 := x7) (x8 := x8) (x9 := x9) (x10 := x10) (x13 := x13) (x14 := x14) hp pl left (i + 1) d ts x12
    have go : ∀ (d' : D) (x : Int) (y12 : AV), Dr d' → (0 ≤ x ∨ x ∈ pool) → forL (agName 12) law_drawn_2_0 A ((List.range' (i + 1) left).map fun j : Nat => D.int (0 + (j : Int))) [.own d', .dat (.lst (tb.map tbD)), x2, x3, .own (.lst (pool.map D.int)), .own rows, x6, x7, x8, x9, x10, .own (.lst ((ts ++ [x]).map D.int)), y12, x13, x14] := fun d' x y12 hd' hx => by
      refine ih d' (ts ++ [x]) y12 hd' (by rw [List.length_append, List.length_singleton]; omega) (fun y hy => ?_) fun d2 ts' z12 h1 h2 h3 => k d2 ts' z12 h1 (by rw [List.length_append, List.length_singleton] at h2; omega) h3
      rcases List.mem_append.mp hy with z | z
      · exact ht y z
      · rw [List.mem_singleton] at z
        rw [z]; exact hx
    have e2 : ∀ x : Int, (ts.map D.int) ++ [D.int x] = (ts ++ [x]).map D.int := fun x => by
      rw [List.map_append]
      rfl
    rw [List.range'_succ, List.map_cons]
    conv => whnf
    repeat (refine ⟨trivial, ?_⟩; conv => whnf)
    refine ⟨⟨_, rfl⟩, ?_⟩
    conv => whnf
    repeat (refine ⟨trivial, ?_⟩; conv => whnf)
    refine use_draw 0 rfl hd (by omega) (by omega) fun r d1 r0 r1 hd1 => ?_
    conv => whnf
    repeat (refine ⟨trivial, ?_⟩; conv => whnf)
    refine eq_int ?_
    conv => whnf
    repeat (refine ⟨trivial, ?_⟩; conv => whnf)
    refine brI (fun h => ?_) (fun h => ?_)
    · conv => whnf
      repeat (refine ⟨trivial, ?_⟩; conv => whnf)
      refine ⟨sz2, ?_⟩
      conv => whnf
      repeat (refine ⟨trivial, ?_⟩; conv => whnf)
      refine use_pick 0 [.int 50, .int 150] rfl hd1 rfl (by simp) (by simp) fun z d2 mz hd2 => ?_
      have hz : ∃ x : Int, z = .int x ∧ 0 ≤ x := by
        simp only [List.mem_cons, List.not_mem_nil, or_false] at mz
        rcases mz with rfl | rfl
        · exact ⟨50, rfl, by omega⟩
        · exact ⟨150, rfl, by omega⟩
      obtain ⟨x, rfl, hx⟩ := hz
      conv => whnf
      repeat (refine ⟨trivial, ?_⟩; conv => whnf)
      refine ⟨sz_lt (by rw [List.length_map]; omega), ?_⟩
      rw [e2]
      exact go _ _ _ hd2 (.inl hx)
    · conv => whnf
      repeat (refine ⟨trivial, ?_⟩; conv => whnf)
      refine use_pickO 0 4 (pool.map D.int) rfl rfl (by omega) hd1 rfl (by simpa using hp) (by rw [List.length_map]; omega) fun z d2 mz hd2 => ?_
      obtain ⟨x, hx, rfl⟩ := List.mem_map.mp mz
      conv => whnf
      repeat (refine ⟨trivial, ?_⟩; conv => whnf)
      refine ⟨sz_lt (by rw [List.length_map]; omega), ?_⟩
      rw [e2]
      exact go _ _ _ hd2 (.inr hx)
set_option maxHeartbeats 0 in
theorem dr1 {A : AEnds} {x2 x3 x7 x8 x9 x10 : AV} (to : TbOk tb) (hp : pool ≠ []) (pl : pool.length ≤ 5) :
    ∀ (left i : Nat) (d : D) (rs : List Row) (x6 x11 x12 x13 x14 : AV), Dr d → rs.length + left ≤ 1000 → (∀ r ∈ rs, RowFrom tb pool r) → (∀ e, x6 ≠ .own e) →
    (∀ (d' : D) (rs' : List Row) (y6 y11 y12 y13 y14 : AV), Dr d' → rs'.length = rs.length + left → (∀ r ∈ rs', RowFrom tb pool r) → (∀ e, y6 ≠ .own e) → A.nx [.own d', .dat (.lst (tb.map tbD)), x2, x3, .own (.lst (pool.map D.int)), .own (.lst (rs'.map rowD)), y6, x7, x8, x9, x10, y11, y12, y13, y14]) →
    forL (agName 6) law_drawn_1_0 A ((List.range' i left).map fun j : Nat => D.int (0 + (j : Int))) [.own d, .dat (.lst (tb.map tbD)), x2, x3, .own (.lst (pool.map D.int)), .own (.lst (rs.map rowD)), x6, x7, x8, x9, x10, x11, x12, x13, x14]
  | 0, i, d, rs, x6, x11, x12, x13, x14, hd, hl, hr, h6, k => k d rs x6 x11 x12 x13 x14 hd rfl hr h6
  | left + 1, i, d, rs, x6, x11, x12, x13, x14, hd, hl, hr, h6, k => by
    obtain ⟨tne, tl, _, tok⟩ := to
    have ih := fun d rs x6 x11 x12 x13 x14 => dr1 (A := A) (x2 := x2) (x3 := x3) (x7 := x7) (x8 := x8) (x9 := x9) (x10 := x10) ⟨tne, tl, by assumption, tok⟩ hp pl left (i + 1) d rs x6 x11 x12 x13 x14
    rw [List.range'_succ, List.map_cons]
    conv => whnf
    repeat (refine ⟨trivial, ?_⟩; conv => whnf)
    refine use_pick 0 (tb.map tbD) rfl hd rfl (by simpa using tne) (by rw [List.length_map]; omega) fun z d1 mz hd1 => ?_
    obtain ⟨p, hpt, rfl⟩ := List.mem_map.mp mz
    obtain ⟨p1, p2, p3⟩ := tok p hpt
    conv => whnf
    repeat (refine ⟨trivial, ?_⟩; conv => whnf)
    refine ⟨rfl, ?_⟩
    conv => whnf
    repeat (refine ⟨trivial, ?_⟩; conv => whnf)
    refine ⟨rfl, ?_⟩
    conv => whnf
    repeat (refine ⟨trivial, ?_⟩; conv => whnf)
    refine ⟨Nat.zero_le _, ?_⟩
    conv => whnf
    repeat (refine ⟨trivial, ?_⟩; conv => whnf)
    refine ⟨⟨by omega, by omega⟩, ?_⟩
    rw [Int.toNat_natCast, range_D]
    refine dr2 (ts := []) hp pl p.2 0 d1 _ hd1 (by rw [List.length_nil]; omega) (fun x h => nomatch h) fun d2 ts y12 hd2 tl2 hts => ?_
    rw [List.length_nil, Nat.zero_add] at tl2
    conv => whnf
    repeat (refine ⟨trivial, ?_⟩; conv => whnf)
    refine ⟨⟨_, rfl⟩, ?_⟩
    conv => whnf
    repeat (refine ⟨trivial, ?_⟩; conv => whnf)
    refine ⟨sz2, ?_⟩
    conv => whnf
    repeat (refine ⟨trivial, ?_⟩; conv => whnf)
    refine ⟨sz_lt (by rw [List.length_map]; omega), ?_⟩
    have e2 : (rs.map rowD) ++ [D.tup [.str p.1, .tup (ts.map D.int)]] = (rs ++ [(p.1, ts)]).map rowD := by
      rw [List.map_append]
      rfl
    rw [e2]
    refine ih _ _ _ _ _ _ _ hd2 (by rw [List.length_append, List.length_singleton]; omega) (fun r hr2 => ?_) (fun e z => by cases z) fun d3 rs3 y6 y11 y12 y13 y14 g1 g2 g3 g4 => k d3 rs3 y6 y11 y12 y13 y14 g1 (by rw [List.length_append, List.length_singleton] at g2; omega) g3 g4
    rcases List.mem_append.mp hr2 with z | z
    · exact hr r z
    · rw [List.mem_singleton] at z
      rw [z]
      exact ⟨p, hpt, rfl, tl2, hts⟩
set_option maxHeartbeats 0 in
/-- the cells -/
theorem dr3 {A : AEnds} {x1 x2 x4 x5 x6 x9 x10 x11 x12 x13 x14 : AV} (mne : mn ≠ []) (ml : mn.length ≤ 10) :
    ∀ (xs : List Int) (d : D) (sp : List Span) (x8 : AV), Dr d → (sp.map (·.1) ++ xs).Nodup → sp.length + xs.length ≤ 900 →
    (∀ (d' : D) (sp' : List Span) (y8 : AV), Dr d' → (sp'.map (·.1)).Nodup → sp'.length = sp.length + xs.length → A.nx [.own d', x1, x2, .dat (.lst (mn.map prD)), x4, x5, x6, .own (celD sp'), y8, x9, x10, x11, x12, x13, x14]) →
    forL (agName 8) law_drawn_3_0 A (xs.map D.int) [.own d, x1, x2, .dat (.lst (mn.map prD)), x4, x5, x6, .own (celD sp), x8, x9, x10, x11, x12, x13, x14]
  | [], d, sp, x8, hd, nd, hl, k => k d sp x8 hd (by rw [List.append_nil] at nd; exact nd) rfl
  | x :: xs, d, sp, x8, hd, nd, hl, k => by
    rw [List.length_cons] at hl
    have nx : x ∉ sp.map (·.1) := fun z => by
      rw [List.nodup_append] at nd
      exact nd.2.2 x z x List.mem_cons_self rfl
    rw [List.map_cons]
    conv => whnf
    repeat (refine ⟨trivial, ?_⟩; conv => whnf)
    refine use_pick 0 (mn.map prD) rfl hd rfl (by simpa using mne) (by rw [List.length_map]; omega) fun z d1 mz hd1 => ?_
    obtain ⟨p, rfl⟩ := prD_pick mz
    conv => whnf
    repeat (refine ⟨trivial, ?_⟩; conv => whnf)
    refine set_cel rfl nx (by omega) ?_
    refine dr3 mne ml xs _ _ _ hd1 ?_ (by rw [List.length_append, List.length_singleton]; omega) fun d2 sp2 y8 g1 g2 g3 => k d2 sp2 y8 g1 g2 (by rw [List.length_append, List.length_singleton] at g3; rw [List.length_cons]; omega)
    rw [List.map_append, List.append_assoc]
    exact nd
end
end AL
namespace AL
open PySem L2
/-! P37: drawn, whole. -/
def poolL : List Int := [-1, -2, -3, -4, -5]
section
variable {tb : List (Str × Nat)} {mn : List (Int × Int)} {many : Int} {R : RV → AEnv → Prop}
def drV (d : D) (tb : List (Str × Nat)) (many : Int) (mn : List (Int × Int)) : AEnv := [.own d, .dat (.lst (tb.map tbD)), .dat (.int many), .dat (.lst (mn.map prD))]
def drA (R : RV → AEnv → Prop) (d : D) (tb : List (Str × Nat)) (many : Int) (mn : List (Int × Int)) : AEnds := { nx := fun env => R (.dat .non) (outs (drV d tb many mn) env), rt := fun r env => (∀ i, r ≠ .at i) ∧ R r (outs (drV d tb many mn) env) }
set_option maxHeartbeats 0 in
/-- the wide row, and all -/
theorem dr5 {d0 d : D} {sp : List Span} {rs : List Row} {pool : List Int} {x6 x8 x11 x12 x13 x14 : AV} (pne : pool ≠ []) (pl : pool.length ≤ 5) (hd : Dr d) (snd : (sp.map (·.1)).Nodup) (sl : sp.length ≤ 900) (rne : rs ≠ []) (rl : rs.length ≤ 15) (to : TbOk tb) (hr : ∀ r ∈ rs, RowFrom tb pool r) (h6 : ∀ e, x6 ≠ .own e) (m1 : 1 ≤ many)
    (k : ∀ t d', CaseOk t → t.rows ≠ [] → t.rows.length ≤ 15 → t.wide.length ≤ 9 → (∀ r ∈ t.rows, 1 ≤ r.2.length) → (∀ ar : Str → Nat, (∀ p ∈ tb, ar p.1 = p.2) → Ar ar t) → Dr d' → R (.dat (csD t)) (drV d' tb many mn)) :
    law_drawn_0_5 (drA R d0 tb many mn) [.own d, .dat (.lst (tb.map tbD)), .dat (.int many), .dat (.lst (mn.map prD)), .dat (.lst (pool.map D.int)), .own (.lst (rs.map rowD)), x6, .own (celD sp), x8, .un, .un, x11, x12, x13, x14] := by
  have dv : 0 ≤ many / 2 := Int.ediv_nonneg (by omega) (by omega)
  have low : ∃ n : Int, (if 3 + many / 2 < 9 then 3 + many / 2 else 9) = n ∧ 1 ≤ n ∧ n ≤ 9 := by
    by_cases c : 3 + many / 2 < 9
    · exact ⟨_, if_pos c, by omega, by omega⟩
    · exact ⟨_, if_neg c, by omega, by omega⟩
  obtain ⟨n, en, n1, n9⟩ := low
  have tok := to.2.2.2
  have rok : ∀ r ∈ rs, RowOk r ∧ r.2.length ≤ 4 := fun r h => by
    obtain ⟨p, hp, e1, e2, _⟩ := hr r h
    obtain ⟨p1, p2, p3⟩ := tok p hp
    exact ⟨⟨by rw [e1]; exact p1, by omega⟩, by omega⟩
  have fin : ∀ (ws : List Int) (d' : D), ws.length ≤ 9 → Dr d' → R (.dat (csD (wholeT rs sp ws))) (drV d' tb many mn) := fun ws d' wl hd' => by
    refine k (wholeT rs sp ws) d' (whole_ok (pool := pool) rok (by omega) (fun r h x hx lt => ?_) pl (by omega)) (fun z => ?_) ?_ ?_ (fun r h => ?_) (fun ar ha => whole_ar fun r h => ?_) hd'
    · obtain ⟨p, _, _, _, e3⟩ := hr r h
      rcases e3 x hx with z | z
      · omega
      · exact z
    · cases rs with
      | nil => exact rne rfl
      | cons a q =>
        have : a ∈ unl [] (a :: q) := in_unl.mpr List.mem_cons_self
        have z : unl [] (a :: q) = [] := z
        rw [z] at this
        cases this
    · have := unl_le rs
      show (unl [] rs).length ≤ 15
      omega
    · show (ws.map _).length ≤ 9
      rw [List.length_map]; exact wl
    · obtain ⟨p, hp, _, e2, _⟩ := hr r (in_unl.mp h)
      obtain ⟨_, p2, _⟩ := tok p hp
      omega
    · obtain ⟨p, hp, e1, e2, _⟩ := hr r h
      rw [e1, e2, ha p hp]
  conv => whnf
  repeat (refine ⟨trivial, ?_⟩; conv => whnf)
  refine ⟨⟨by omega, by omega⟩, ?_⟩
  conv => whnf
  repeat (refine ⟨trivial, ?_⟩; conv => whnf)
  have en2 : (if (3 : Int) + many / 2 < 9 then 3 + many / 2 else 9) = n := en
  rw [en2]
  conv => whnf
  repeat (refine ⟨trivial, ?_⟩; conv => whnf)
  refine use_draw 0 rfl hd (by omega) (by omega) fun r d1 r0 r1 hd1 => ?_
  conv => whnf
  repeat (refine ⟨trivial, ?_⟩; conv => whnf)
  refine ⟨⟨by omega, by omega⟩, ?_⟩
  refine ⟨noOwn_one (x := x6) rfl h6, sz_le (by rw [range_len]; omega), ?_⟩
  refine lc_ind (Ev := fun env => ∃ d4, Dr d4 ∧ env = [.own d4, .dat (.lst (tb.map tbD)), .dat (.int many), .dat (.lst (mn.map prD)), .dat (.lst (pool.map D.int)), .own (.lst (rs.map rowD)), .un, .own (celD sp), x8, .dat (.int n), .un, x11, x12, x13, x14]) (Stp := fun y oz => ∃ a : Int, True ∧ oz = some (.int a)) _ ?_ _ _ ⟨d1, hd1, rfl⟩ ?_
  · rintro y hy _ K ⟨d4, hd4, rfl⟩ hK
    conv => whnf
    repeat (refine ⟨trivial, ?_⟩; conv => whnf)
    rw [brP_true]
    conv => whnf
    repeat (refine ⟨trivial, ?_⟩; conv => whnf)
    refine use_draw 0 rfl hd4 (by omega) (by omega) fun r2 d5 _ _ hd5 => ?_
    conv => whnf
    repeat (refine ⟨trivial, ?_⟩; conv => whnf)
    refine brI (fun h => ?_) (fun h => ?_)
    · conv => whnf
      repeat (refine ⟨trivial, ?_⟩; conv => whnf)
      refine use_pick 0 (pool.map D.int) rfl hd5 rfl (by simpa using pne) (by rw [List.length_map]; omega) fun z d6 mz hd6 => ?_
      obtain ⟨a, _, rfl⟩ := List.mem_map.mp mz
      conv => whnf
      repeat (refine ⟨trivial, ?_⟩; conv => whnf)
      exact hK _ _ ⟨d6, hd6, rfl⟩ ⟨a, trivial, rfl⟩
    · conv => whnf
      repeat (refine ⟨trivial, ?_⟩; conv => whnf)
      exact hK _ _ ⟨d5, hd5, rfl⟩ ⟨50, trivial, rfl⟩
  · rintro zs _ ot ⟨d4, hd4, rfl⟩
    obtain ⟨ws, rfl, _, al⟩ := outs_ex (P := fun _ : Int => True) (f := D.int) (fun y oz h => h) ot
    rw [range_len] at al
    conv => whnf
    repeat (refine ⟨trivial, ?_⟩; conv => whnf)
    refine use_whole rs sp ws ⟨by omega, fun r h => (rok r h).1⟩ (by omega) snd (by omega) ?_
    conv => whnf
    repeat (refine ⟨trivial, ?_⟩; conv => whnf)
    exact ⟨nat_ _, fin ws d4 (by omega) hd4⟩
set_option maxHeartbeats 0 in
theorem p_law_drawn : BodyOk 4 15 B_law_drawn a_law_drawn S_law_drawn := by
  rintro _ R ⟨d, tb, many, mn, rfl, hd, to, m1, m2, mne, ml, k⟩
  refine ⟨rfl, own0 (ds := [_, _, _]) rfl, ?_⟩
  conv => whnf
  repeat (refine ⟨trivial, ?_⟩; conv => whnf)
  refine ⟨sz_le (by simp), ?_⟩
  conv => whnf
  repeat (refine ⟨trivial, ?_⟩; conv => whnf)
  refine use_draw 0 rfl hd (by omega) (by omega) fun r d1 r0 r1 hd1 => ?_
  obtain ⟨i, rfl⟩ := toNat_eq r0
  conv => whnf
  repeat (refine ⟨trivial, ?_⟩; conv => whnf)
  have e : cutD [D.int (-1), .int (-2), .int (-3), .int (-4), .int (-5)] none (some (1 + (i : Int))) = (poolL.take (i + 1)).map D.int := by
    have e2 : (1 + (i : Int)) = ((i + 1 : Nat) : Int) := by omega
    rw [e2]
    show cutD (poolL.map D.int) none _ = _
    rw [cutD_map, cut_min]
  have pl : (poolL.take (i + 1)).length ≤ 5 := by
    rw [List.length_take]
    exact Nat.min_le_right _ _
  have pne : poolL.take (i + 1) ≠ [] := fun z => by
    unfold poolL at z
    rw [List.take_succ_cons] at z
    cases z
  have pnd : (poolL.take (i + 1)).Nodup := (List.take_sublist _ _).nodup (by decide)
  refine ⟨Nat.zero_le _, ?_⟩
  rw [e]
  generalize poolL.take (i + 1) = pool at *
  obtain ⟨mm, rfl⟩ := toNat_eq (show 0 ≤ many by omega)
  conv => whnf
  repeat (refine ⟨trivial, ?_⟩; conv => whnf)
  refine ⟨⟨by omega, by omega⟩, ?_⟩
  rw [Int.toNat_natCast, range_D]
  refine dr1 to pne pl mm 0 d1 [] _ _ _ _ _ hd1 (by rw [List.length_nil]; omega) (fun r h => nomatch h) (fun e z => by cases z) fun d2 rs y6 y11 y12 y13 y14 hd2 rl hr h6 => ?_
  rw [List.length_nil, Nat.zero_add] at rl
  conv => whnf
  repeat (refine ⟨trivial, ?_⟩; conv => whnf)
  intro _
  refine dr3 mne ml pool d2 [] _ hd2 (by rw [List.map_nil, List.nil_append]; exact pnd) (by rw [List.length_nil]; omega) fun d3 sp y8 hd3 snd sl => ?_
  rw [List.length_nil, Nat.zero_add] at sl
  exact dr5 (R := R) (d0 := d) pne pl hd3 snd (by omega) (fun z => by rw [z] at rl; rw [List.length_nil] at rl; omega) (by omega) to hr h6 m1 k
theorem use_drawn {env : AEnv} (j : Nat) {d : D} (e : env[j]? = some (.own d)) (hd : Dr d) (to : TbOk tb) (m1 : 1 ≤ many) (m2 : many ≤ 15) (mne : mn ≠ []) (ml : mn.length ≤ 10)
    (k : ∀ t d', CaseOk t → t.rows ≠ [] → t.rows.length ≤ 15 → t.wide.length ≤ 9 → (∀ r ∈ t.rows, 1 ≤ r.2.length) → (∀ ar : Str → Nat, (∀ p ∈ tb, ar p.1 = p.2) → Ar ar t) → Dr d' → R (.dat (csD t)) (env.set j (.own d'))) : callR S_law_drawn [.at j, .dat (.lst (tb.map tbD)), .dat (.int many), .dat (.lst (mn.map prD))] env R :=
  call_lent j [.lst (tb.map tbD), .int many, .lst (mn.map prD)] e ⟨d, tb, many, mn, rfl, hd, to, m1, m2, mne, ml, fun t d' a b c e f g h => k t d' a b c e f g h⟩
end
end AL
namespace AL
open PySem L2
/-! P38: exchanged. -/
def exT (t : Tree) (b : Bd) (rs : List Row) : Tree where
  rows := rs
  nots := []
  spans := t.spans.map fun s => (mpF b s.1, s.2)
  wide := vl t.wide b
section
variable {t : Tree} {b : Bd}
theorem NewNm.one (m : NewNm t b) {x : Int} (h : x ∈ vars t.rows) : ∃ v, (x, v) ∈ b ∧ mpF b x = v ∧ v < 0 := by
  obtain ⟨v, hv⟩ := key_pair m.keys h
  exact ⟨v, hv, mpF_at m.keys hv, m.neg _ hv⟩
theorem NewNm.injF (m : NewNm t b) {x y : Int} (hx : x < 0 → x ∈ vars t.rows) (hy : y < 0 → y ∈ vars t.rows) (e : mpF b x = mpF b y) : x = y := by
  by_cases gx : 0 ≤ x
  · have ex : mpF b x = x := if_pos gx
    by_cases gy : 0 ≤ y
    · have ey : mpF b y = y := if_pos gy
      rw [ex, ey] at e; exact e
    · obtain ⟨v, _, ev, lt⟩ := m.one (hy (by omega))
      omega
  · obtain ⟨v, hv, ev, lt⟩ := m.one (hx (by omega))
    by_cases gy : 0 ≤ y
    · have ey : mpF b y = y := if_pos gy
      omega
    · obtain ⟨w, hw, ew, _⟩ := m.one (hy (by omega))
      have := nd_inj m.nd _ hv _ hw (show v = w by omega)
      injection this
theorem ex_ok (ct : CaseOk t) (m : NewNm t b) {rs : List Row} (p : rs.Perm (t.rows.map (mrow b))) : CaseOk (exT t b rs) ∧ (∀ x ∈ vars rs, x ∈ b.map (·.2)) := by
  have rowin : ∀ q ∈ rs, ∃ r ∈ t.rows, mrow b r = q := fun q hq => List.mem_map.mp (p.mem_iff.mp hq)
  have into : ∀ x ∈ vars rs, ∃ z, z ∈ vars t.rows ∧ mpF b z = x := fun x hx => by
    obtain ⟨lt, q, hq, hm⟩ := var_row hx
    obtain ⟨r, hr, rfl⟩ := rowin q hq
    have hm : x ∈ r.2.map (mpF b) := hm
    obtain ⟨z, hz, e⟩ := List.mem_map.mp hm
    by_cases g : 0 ≤ z
    · have ez : mpF b z = z := if_pos g
      omega
    · exact ⟨z, vars_has t.rows r hr z hz (by omega), e⟩
  have out : ∀ z ∈ vars t.rows, mpF b z ∈ vars rs := fun z hz => by
    obtain ⟨lt, r, hr, hm⟩ := var_row hz
    obtain ⟨v, _, ev, lv⟩ := m.one hz
    refine vars_has rs (mrow b r) (p.mem_iff.mpr (List.mem_map.mpr ⟨r, hr, rfl⟩)) _ ?_ (by omega)
    show mpF b z ∈ r.2.map (mpF b)
    exact List.mem_map.mpr ⟨z, hm, rfl⟩
  have inb : ∀ x ∈ vars rs, x ∈ b.map (·.2) := fun x hx => by
    obtain ⟨z, hz, e⟩ := into x hx
    obtain ⟨v, hv, ev, _⟩ := m.one hz
    exact List.mem_map.mpr ⟨_, hv, by show v = x; omega⟩
  have bl : b.length ≤ 5 := by
    have := congrArg List.length m.keys
    rw [List.length_map] at this
    have := ct.vl
    omega
  refine ⟨⟨fun q hq => ?_, ⟨Nat.zero_le _, fun r h => nomatch h⟩, ?_, ?_, ?_, ?_, fun x hx lt => ?_, ?_, fun x => ?_⟩, inb⟩
  · obtain ⟨r, hr, rfl⟩ := rowin q hq
    have o := ct.rok r hr
    refine ⟨⟨o.1.1, ?_⟩, ?_⟩
    · show (vl r.2 b).length ≤ 100
      rw [vl_eq, List.length_map]; exact o.1.2
    · show (vl r.2 b).length ≤ 4
      rw [vl_eq, List.length_map]; exact o.2
  · show rs.length ≤ 16
    rw [p.length_eq, List.length_map]
    exact ct.rl
  · refine p.nodup_iff.mpr (nd_map ct.rnd fun r hr q hq e => ?_)
    have e1 : r.1 = q.1 := by
      have z : (mrow b r).1 = (mrow b q).1 := congrArg Prod.fst e
      exact z
    have e2 : r.2.map (mpF b) = q.2.map (mpF b) := by
      have z : (mrow b r).2 = (mrow b q).2 := congrArg Prod.snd e
      exact z
    refine Prod.ext e1 (map_inj_on (fun x hx y hy z => ?_) e2)
    exact m.injF (fun lt => vars_has t.rows r hr x hx lt) (fun lt => vars_has t.rows q hq y hy lt) z
  · have := nd_sub_len (vars_nodup rs) inb
    rw [List.length_map] at this
    show (vars rs).length ≤ 5
    omega
  · show (vl t.wide b).length ≤ 10
    rw [vl_eq, List.length_map]
    exact ct.wl
  · have hx : x ∈ t.wide.map (mpF b) := hx
    obtain ⟨z, hz, e⟩ := List.mem_map.mp hx
    rw [← e] at lt ⊢
    by_cases g : 0 ≤ z
    · have ez : mpF b z = z := if_pos g
      omega
    · exact out z (ct.wh z hz (by omega))
  · show ((t.spans.map fun s => (mpF b s.1, s.2)).map (·.1)).Nodup
    rw [List.map_map]
    have e : t.spans.map ((fun x : Span => x.1) ∘ fun s => (mpF b s.1, s.2)) = (t.spans.map (·.1)).map (mpF b) := by
      rw [List.map_map]
      rfl
    rw [e]
    refine nd_map ct.snd fun x hx y hy e => ?_
    exact m.injF (fun _ => (ct.skey x).mp hx) (fun _ => (ct.skey y).mp hy) e
  · show x ∈ (t.spans.map fun s => (mpF b s.1, s.2)).map (·.1) ↔ x ∈ vars rs
    rw [List.map_map]
    constructor
    · intro h
      obtain ⟨s, hs, e⟩ := List.mem_map.mp h
      rw [← e]
      exact out s.1 ((ct.skey _).mp (List.mem_map.mpr ⟨s, hs, rfl⟩))
    · intro h
      obtain ⟨z, hz, e⟩ := into x h
      obtain ⟨s, hs, es⟩ := List.mem_map.mp ((ct.skey z).mpr hz)
      exact List.mem_map.mpr ⟨s, hs, by show mpF b s.1 = x; rw [es, e]⟩
theorem ex_big (bg : Big t) {rs : List Row} (p : rs.Perm (t.rows.map (mrow b))) : Big (exT t b rs) := by
  have pl := p.length_eq
  rw [List.length_map] at pl
  refine ⟨fun z => ?_, ?_, ?_, fun q hq => ?_⟩
  · have z : rs = [] := z
    rw [z, List.length_nil] at pl
    exact bg.ne (List.length_eq_zero_iff.mp pl.symm)
  · show rs.length ≤ 15
    rw [pl]; exact bg.rl
  · show (vl t.wide b).length ≤ 9
    rw [vl_eq, List.length_map]; exact bg.wl
  · obtain ⟨r, hr, rfl⟩ := List.mem_map.mp (p.mem_iff.mp hq)
    show 1 ≤ (vl r.2 b).length
    rw [vl_eq, List.length_map]; exact bg.r1 r hr
theorem ex_ar {ar : Str → Nat} (h : Ar ar t) {rs : List Row} (p : rs.Perm (t.rows.map (mrow b))) : Ar ar (exT t b rs) := fun q hq => by
  obtain ⟨r, hr, rfl⟩ := List.mem_map.mp (p.mem_iff.mp hq)
  show (vl r.2 b).length = ar r.1
  rw [vl_eq, List.length_map]; exact h r hr
theorem lkC_at {sp : List Span} (nd : (sp.map (·.1)).Nodup) : ∀ s ∈ sp, lkC sp s.1 = some s.2 := fun s hs => by
  unfold lkC
  rw [find_nd nd s hs]
  rfl
set_option maxHeartbeats 0 in
theorem ex1 {A : AEnds} {x0 x1 x5 x6 x8 x9 : AV} (ct : CaseOk t) (m : NewNm t b) : ∀ (ss done : List Span) (x4 : AV), (∀ s ∈ ss, s ∈ t.spans) → ((done ++ ss).map fun s => mpF b s.1).Nodup → done.length + ss.length ≤ 900 →
    (∀ y4, A.nx [x0, x1, .dat (bD b), .own (celD ((done ++ ss).map fun s => (mpF b s.1, s.2))), y4, x5, x6, .dat (celD t.spans), x8, x9]) →
    forL (agName 4) law_exchanged_1_0 A (ss.map fun s => D.int s.1) [x0, x1, .dat (bD b), .own (celD (done.map fun s => (mpF b s.1, s.2))), x4, x5, x6, .dat (celD t.spans), x8, x9]
  | [], done, x4, _, _, _, k => by
    have := k x4
    rw [List.append_nil] at this
    exact this
  | s :: ss, done, x4, hs, nd, hl, k => by
    rw [List.length_cons] at hl
    have hi := hs s List.mem_cons_self
    have kt : s.1 ∈ vars t.rows := (ct.skey _).mp (List.mem_map.mpr ⟨s, hi, rfl⟩)
    obtain ⟨v, hv, ev, lt⟩ := m.one kt
    have nx : v ∉ (done.map fun s => (mpF b s.1, s.2)).map (·.1) := fun z => by
      rw [List.map_map] at z
      rw [List.map_append, List.map_cons, List.nodup_append] at nd
      exact nd.2.2 v z v (by rw [ev]; exact List.mem_cons_self) rfl
    rw [List.map_cons]
    conv => whnf
    repeat (refine ⟨trivial, ?_⟩; conv => whnf)
    refine ix_cel (List.mem_map.mpr ⟨s, hi, rfl⟩) ?_
    rw [lkC_at ct.snd s hi]
    conv => whnf
    repeat (refine ⟨trivial, ?_⟩; conv => whnf)
    refine ix_bdv (lk_keys m.keys _ hv) ?_
    conv => whnf
    repeat (refine ⟨trivial, ?_⟩; conv => whnf)
    refine set_cel (p := s.2) rfl nx (by rw [List.length_map]; omega) ?_
    have e : (done.map fun s => (mpF b s.1, s.2)) ++ [(v, s.2)] = (done ++ [s]).map fun s => (mpF b s.1, s.2) := by
      rw [List.map_append]
      show _ = _ ++ [(mpF b s.1, s.2)]
      rw [ev]
    rw [e]
    have e3 : done ++ s :: ss = (done ++ [s]) ++ ss := by rw [List.append_assoc]; rfl
    rw [e3] at nd k
    exact ex1 ct m ss (done ++ [s]) _ (fun q hq => hs q (List.mem_cons_of_mem _ hq)) nd (by rw [List.length_append, List.length_singleton]; omega) k
set_option maxHeartbeats 0 in
theorem p_law_exchanged : BodyOk 3 10 B_law_exchanged a_law_exchanged S_law_exchanged := by
  rintro _ R ⟨d, t, b, rfl, hd, ct, bg, m, k⟩
  refine ⟨rfl, own0 (ds := [_, _]) rfl, ?_⟩
  have sl := case_spans ct
  have v5 := ct.vl
  have wl := ct.wl
  have bo := bd_keys m.keys (by omega)
  have tr := ct.rowsOk
  have rl := tr.1
  conv => whnf
  repeat (refine ⟨trivial, ?_⟩; conv => whnf)
  refine ⟨rfl, ?_⟩
  conv => whnf
  repeat (refine ⟨trivial, ?_⟩; conv => whnf)
  refine ⟨rfl, ?_⟩
  conv => whnf
  repeat (refine ⟨trivial, ?_⟩; conv => whnf)
  refine ⟨sz_le (by rw [List.length_map]; omega), ?_⟩
  have nd : ((([] : List Span) ++ t.spans).map fun s => mpF b s.1).Nodup := by
    rw [List.nil_append]
    have e : (t.spans.map fun s => mpF b s.1) = (t.spans.map (·.1)).map (mpF b) := by
      rw [List.map_map]
      rfl
    rw [e]
    exact nd_map ct.snd fun x hx y hy e => m.injF (fun _ => (ct.skey x).mp hx) (fun _ => (ct.skey y).mp hy) e
  refine ex1 ct m t.spans [] _ (fun s h => h) nd (by rw [List.length_nil]; omega) fun y4 => ?_
  rw [List.nil_append]
  conv => whnf
  repeat (refine ⟨trivial, ?_⟩; conv => whnf)
  intro _
  refine ⟨noOwn_one (x := .un) rfl (fun e z => by cases z), sz_le (by rw [List.length_map]; omega), ?_⟩
  refine lc_ind (Ev := fun env => env = [.own d, .dat (csD t), .dat (bD b), .own (celD (t.spans.map fun s => (mpF b s.1, s.2))), y4, .un, .dat (.tup (t.rows.map rowD)), .dat (celD t.spans), .dat (tmD t.wide), .un]) (Stp := fun y oz => ∃ r : Row, y = rowD r ∧ oz = some (rowD (mrow b r))) _ ?_ _ _ rfl ?_
  · rintro y hy _ K rfl hK
    obtain ⟨r, hr, rfl⟩ := List.mem_map.mp hy
    have r100 := (tr.2 r hr).2
    conv => whnf
    repeat (refine ⟨trivial, ?_⟩; conv => whnf)
    rw [brP_true]
    conv => whnf
    repeat (refine ⟨trivial, ?_⟩; conv => whnf)
    refine ix_tup (by omega) rfl ?_
    conv => whnf
    repeat (refine ⟨trivial, ?_⟩; conv => whnf)
    refine ix_tup (by omega) rfl ?_
    conv => whnf
    repeat (refine ⟨trivial, ?_⟩; conv => whnf)
    refine use_llaid r.2 b rfl (by omega) bo (by rw [m.keys]; exact vars_has t.rows r hr) ?_
    conv => whnf
    repeat (refine ⟨trivial, ?_⟩; conv => whnf)
    refine ⟨sz2, ?_⟩
    conv => whnf
    repeat (refine ⟨trivial, ?_⟩; conv => whnf)
    exact hK _ _ rfl ⟨r, rfl, rfl⟩
  · rintro zs _ ot rfl
    have ez := ot.map (f := fun r => rowD (mrow b r)) fun r oz ⟨q, e1, e2⟩ => by
      rw [rowD_inj.mp e1]
      exact e2
    have ez2 : zs = (t.rows.map (mrow b)).map rowD := by rw [ez, List.map_map]; rfl
    rw [ez2]
    conv => whnf
    repeat (refine ⟨trivial, ?_⟩; conv => whnf)
    refine use_mixed 0 ((t.rows.map (mrow b)).map rowD) rfl hd rfl (by rw [List.length_map, List.length_map]; omega) fun l' d' pm hd' => ?_
    obtain ⟨rs, rfl, p⟩ := perm_ex pm _ rfl
    conv => whnf
    repeat (refine ⟨trivial, ?_⟩; conv => whnf)
    refine use_llaid t.wide b rfl (by omega) bo (by rw [m.keys]; exact ct.wh) ?_
    conv => whnf
    repeat (refine ⟨trivial, ?_⟩; conv => whnf)
    refine ⟨sz3, ?_⟩
    obtain ⟨o1, o2⟩ := ex_ok ct m p
    exact ⟨nat_ _, k (exT t b rs) d' o1 (ex_big bg p) o2 (fun ar h => ex_ar h p) hd'⟩
theorem use_exchanged {env : AEnv} (j : Nat) {d : D} {R : RV → AEnv → Prop} (e : env[j]? = some (.own d)) (hd : Dr d) (ct : CaseOk t) (bg : Big t) (m : NewNm t b)
    (k : ∀ o d', CaseOk o → Big o → (∀ x ∈ vars o.rows, x ∈ b.map (·.2)) → (∀ ar, Ar ar t → Ar ar o) → Dr d' → R (.dat (csD o)) (env.set j (.own d'))) : callR S_law_exchanged [.at j, .dat (csD t), .dat (bD b)] env R :=
  call_lent j [csD t, bD b] e ⟨d, t, b, rfl, hd, ct, bg, m, fun o d' h1 h2 h3 h4 h5 => k o d' h1 h2 h3 h4 h5⟩
end
end AL
namespace AL
open PySem L2
/-! P39: spoilt. -/
theorem of_ints (l : List Int) : ofD (.tup (l.map Img.int)) = tmD l := by
  show D.tup ((l.map Img.int).map imD) = _
  rw [List.map_map]
  rfl
theorem of_lst (l : List Int) : ofD (.lst (l.map Img.int)) = .lst (l.map D.int) := by
  show D.lst ((l.map Img.int).map imD) = _
  rw [List.map_map]
  rfl
theorem exch_I (xs : List Int) (j : Nat) (z : Img) (h : j < xs.length) : cutD (xs.map D.int) none (some (j : Int)) ++ [imD z] ++ cutD (xs.map D.int) (some ((j : Int) + 1)) none = ((xs.take j).map Img.int ++ [z] ++ (xs.drop (j + 1)).map Img.int).map imD := by
  have e : ((j : Int) + 1) = ((j + 1 : Nat) : Int) := by omega
  rw [e, cutD_map, cutD_map, cut_to xs j (by omega), cut_from xs (j + 1) (by omega)]
  rw [List.map_append, List.map_append, List.map_map, List.map_map]
  rfl
theorem spot_pick {z : D} (h : z ∈ [D.int 50, .int (-30), .bl true, .non, .str "a"]) : ∃ i : Img, z = imD i := by
  simp only [List.mem_cons, List.not_mem_nil, or_false] at h
  rcases h with rfl | rfl | rfl | rfl | rfl
  · exact ⟨.int 50, rfl⟩
  · exact ⟨.int (-30), rfl⟩
  · exact ⟨.bl true, rfl⟩
  · exact ⟨.non, rfl⟩
  · exact ⟨.str "a", rfl⟩
set_option maxHeartbeats 0 in
theorem p_law_spoilt : BodyOk 3 5 B_law_spoilt a_law_spoilt S_law_spoilt := by
  rintro _ R ⟨d, is, th, rfl, hd, il, tl, k⟩
  refine ⟨rfl, own0 (ds := [_, _]) rfl, ?_⟩
  have e30 : (th.map D.int) ++ [D.int (-30)] = (th ++ [-30]).map D.int := by
    rw [List.map_append]
    rfl
  have t30 : ((th ++ [-30]).map D.int).length ≤ 1000000 := by rw [List.length_map, List.length_append, List.length_singleton]; omega
  have cl : ∀ lo hi, (cutD (is.map D.int) lo hi).length ≤ 50 := fun lo hi => Nat.le_trans (cutD_len' _ _ _) (by rw [List.length_map]; exact il)
  have kI : ∀ (l : List Int) (d' : D), l.length ≤ is.length + 1 → Dr d' → R (.dat (.tup (l.map D.int))) [.own d', .dat (tmD is), .dat (.lst (th.map D.int))] := fun l d' h1 h2 => by
    have := k (.tup (l.map Img.int)) (.dat (tmD l)) d' (by show (l.map Img.int).length ≤ _; rw [List.length_map]; exact h1) (.inl (by rw [of_ints])) h2
    exact this
  conv => whnf
  repeat (refine ⟨trivial, ?_⟩; conv => whnf)
  refine use_draw 0 rfl hd (by omega) (by omega) fun way d1 _ _ hd1 => ?_
  -- one thing more
  have more : ∀ (x3 : AV), law_spoilt_1_0 { nx := law_spoilt_0_2 { nx := fun env => R (.dat .non) (outs [.own d, .dat (tmD is), .dat (.lst (th.map D.int))] env), rt := fun r env => (∀ i, r ≠ .at i) ∧ R r (outs [.own d, .dat (tmD is), .dat (.lst (th.map D.int))] env) }, rt := fun r env => (∀ i, r ≠ .at i) ∧ R r (outs [.own d, .dat (tmD is), .dat (.lst (th.map D.int))] env) } [.own d1, .dat (tmD is), .dat (.lst (th.map D.int)), x3, .un] := fun x3 => by
    conv => whnf
    repeat (refine ⟨trivial, ?_⟩; conv => whnf)
    refine ⟨sz1, ?_⟩
    conv => whnf
    repeat (refine ⟨trivial, ?_⟩; conv => whnf)
    refine ⟨sz_le (by rw [List.length_map]; show _ + 1 ≤ _; omega), ?_⟩
    rw [e30]
    conv => whnf
    repeat (refine ⟨trivial, ?_⟩; conv => whnf)
    refine use_pick 0 ((th ++ [-30]).map D.int) rfl hd1 rfl (by simp) t30 fun z d2 mz hd2 => ?_
    obtain ⟨v, _, rfl⟩ := List.mem_map.mp mz
    conv => whnf
    repeat (refine ⟨trivial, ?_⟩; conv => whnf)
    refine ⟨sz1, ?_⟩
    conv => whnf
    repeat (refine ⟨trivial, ?_⟩; conv => whnf)
    refine ⟨sz_le (by rw [List.length_map]; show _ + 1 ≤ _; omega), ?_⟩
    conv => whnf
    repeat (refine ⟨trivial, ?_⟩; conv => whnf)
    refine ⟨nat_ _, ?_⟩
    have e : (is.map D.int) ++ [D.int v] = (is ++ [v]).map D.int := by rw [List.map_append]; rfl
    rw [e]
    exact kI _ _ (by rw [List.length_append, List.length_singleton]; exact Nat.le_refl _) hd2
  conv => whnf
  repeat (refine ⟨trivial, ?_⟩; conv => whnf)
  refine eq_int ?_
  conv => whnf
  repeat (refine ⟨trivial, ?_⟩; conv => whnf)
  refine brI (fun h => ?_) (fun h => ?_)
  · conv => whnf
    repeat (refine ⟨trivial, ?_⟩; conv => whnf)
    refine brT rfl ?_
    exact more _
  · conv => whnf
    repeat (refine ⟨trivial, ?_⟩; conv => whnf)
    refine eq_int ?_
    conv => whnf
    repeat (refine ⟨trivial, ?_⟩; conv => whnf)
    rw [List.length_map]
    refine brI (fun h => ?_) (fun h => ?_)
    · exact more _
    · have pos : 0 < is.length := by
        have : ¬ ((is.length : Int) = 0) := by simpa using h
        omega
      conv => whnf
      repeat (refine ⟨trivial, ?_⟩; conv => whnf)
      refine use_draw 0 rfl hd1 (by rw [List.length_map]; omega) (by rw [List.length_map]; omega) fun at_ d2 a0 a1 hd2 => ?_
      rw [List.length_map] at a1
      obtain ⟨j, rfl⟩ := toNat_eq a0
      have hj : j < is.length := by omega
      conv => whnf
      repeat (refine ⟨trivial, ?_⟩; conv => whnf)
      refine eq_int ?_
      conv => whnf
      repeat (refine ⟨trivial, ?_⟩; conv => whnf)
      refine brI (fun h => ?_) (fun h => ?_)
      · conv => whnf
        repeat (refine ⟨trivial, ?_⟩; conv => whnf)
        refine ⟨sz_le (by have := cl none (some (j : Int)); have := cl (some ((j : Int) + 1)) none; omega), ?_⟩
        conv => whnf
        repeat (refine ⟨trivial, ?_⟩; conv => whnf)
        refine ⟨nat_ _, ?_⟩
        have e : cutD (is.map D.int) none (some (j : Int)) ++ cutD (is.map D.int) (some ((j : Int) + 1)) none = (is.take j ++ is.drop (j + 1)).map D.int := by
          have e : ((j : Int) + 1) = ((j + 1 : Nat) : Int) := by omega
          rw [e, cutD_map, cutD_map, cut_to is j (by omega), cut_from is (j + 1) (by omega), List.map_append]
        rw [e]
        exact kI _ _ (by rw [List.length_append, List.length_take, List.length_drop]; omega) hd2
      · conv => whnf
        repeat (refine ⟨trivial, ?_⟩; conv => whnf)
        refine eq_int ?_
        conv => whnf
        repeat (refine ⟨trivial, ?_⟩; conv => whnf)
        refine brI (fun h => ?_) (fun h => ?_)
        · conv => whnf
          repeat (refine ⟨trivial, ?_⟩; conv => whnf)
          refine ⟨sz_le (by simp), ?_⟩
          conv => whnf
          repeat (refine ⟨trivial, ?_⟩; conv => whnf)
          refine use_pick 0 [D.int 50, .int (-30), .bl true, .non, .str "a"] rfl hd2 rfl (by simp) (by simp) fun z d3 mz hd3 => ?_
          obtain ⟨i, rfl⟩ := spot_pick mz
          conv => whnf
          repeat (refine ⟨trivial, ?_⟩; conv => whnf)
          refine ⟨sz1, ?_⟩
          conv => whnf
          repeat (refine ⟨trivial, ?_⟩; conv => whnf)
          refine ⟨sz_le (by have := cl none (some (j : Int)); show _ + 1 ≤ _; omega), ?_⟩
          conv => whnf
          repeat (refine ⟨trivial, ?_⟩; conv => whnf)
          refine ⟨sz_le (by rw [List.length_append]; have := cl none (some (j : Int)); have := cl (some ((j : Int) + 1)) none; show _ + 1 + _ ≤ _; omega), ?_⟩
          conv => whnf
          repeat (refine ⟨trivial, ?_⟩; conv => whnf)
          refine ⟨nat_ _, ?_⟩
          have e := exch_I is j i hj
          show R (.dat (.tup (cutD (is.map D.int) none (some (j : Int)) ++ [imD i] ++ cutD (is.map D.int) (some ((j : Int) + 1)) none))) _
          rw [e]
          refine k (.tup ((is.take j).map Img.int ++ [i] ++ (is.drop (j + 1)).map Img.int)) _ d3 ?_ (.inl rfl) hd3
          show ((is.take j).map Img.int ++ [i] ++ (is.drop (j + 1)).map Img.int).length ≤ _
          simp only [List.length_append, List.length_map, List.length_take, List.length_drop, List.length_singleton]
          omega
        · conv => whnf
          repeat (refine ⟨trivial, ?_⟩; conv => whnf)
          refine eq_int ?_
          conv => whnf
          repeat (refine ⟨trivial, ?_⟩; conv => whnf)
          refine brI (fun h => ?_) (fun h => ?_)
          · conv => whnf
            repeat (refine ⟨trivial, ?_⟩; conv => whnf)
            refine ⟨new_ _, ?_⟩
            refine k (.lst (is.map Img.int)) _ d2 (by show (is.map Img.int).length ≤ _; rw [List.length_map]; omega) (.inr ?_) hd2
            rw [of_lst]
          · conv => whnf
            repeat (refine ⟨trivial, ?_⟩; conv => whnf)
            refine ⟨sz1, ?_⟩
            conv => whnf
            repeat (refine ⟨trivial, ?_⟩; conv => whnf)
            refine ⟨sz_le (by rw [List.length_map]; show _ + 1 ≤ _; omega), ?_⟩
            rw [e30]
            conv => whnf
            repeat (refine ⟨trivial, ?_⟩; conv => whnf)
            refine use_pick 0 ((th ++ [-30]).map D.int) rfl hd2 rfl (by simp) t30 fun z d3 mz hd3 => ?_
            obtain ⟨v, _, rfl⟩ := List.mem_map.mp mz
            conv => whnf
            repeat (refine ⟨trivial, ?_⟩; conv => whnf)
            refine ⟨sz1, ?_⟩
            conv => whnf
            repeat (refine ⟨trivial, ?_⟩; conv => whnf)
            refine ⟨sz_le (by have := cl none (some (j : Int)); show _ + 1 ≤ _; omega), ?_⟩
            conv => whnf
            repeat (refine ⟨trivial, ?_⟩; conv => whnf)
            refine ⟨sz_le (by rw [List.length_append]; have := cl none (some (j : Int)); have := cl (some ((j : Int) + 1)) none; show _ + 1 + _ ≤ _; omega), ?_⟩
            conv => whnf
            repeat (refine ⟨trivial, ?_⟩; conv => whnf)
            refine ⟨nat_ _, ?_⟩
            have e := exch_D is j v hj
            show R (.dat (.tup (cutD (is.map D.int) none (some (j : Int)) ++ [D.int v] ++ cutD (is.map D.int) (some ((j : Int) + 1)) none))) _
            rw [e]
            exact kI _ _ (by rw [exch_len is j v hj]; omega) hd3
theorem use_spoilt {env : AEnv} (j : Nat) {d : D} (is th : List Int) {R : RV → AEnv → Prop} (e : env[j]? = some (.own d)) (hd : Dr d) (il : is.length ≤ 50) (tl : th.length ≤ 50) (k : ∀ o r d', offLen o ≤ is.length + 1 → (r = .dat (ofD o) ∨ r = .new (ofD o)) → Dr d' → R r (env.set j (.own d'))) : callR S_law_spoilt [.at j, .dat (tmD is), .dat (.lst (th.map D.int))] env R :=
  call_lent j [tmD is, .lst (th.map D.int)] e ⟨d, is, th, rfl, hd, il, tl, fun o r d' h1 h2 h3 => k o r d' h1 h2 h3⟩
end AL
namespace AL
open PySem L2
/-! P40: turned, the parts. -/
def updS (sp : List Span) (x : Int) (p : Int × Int) : List Span := sp.map fun s => if s.1 = x then (x, p) else s
theorem upd_keys (x : Int) (p : Int × Int) : ∀ sp : List Span, (updS sp x p).map (·.1) = sp.map (·.1)
  | [] => rfl
  | s :: sp => by
    have ih := upd_keys x p sp
    unfold updS at ih ⊢
    rw [List.map_cons, List.map_cons, List.map_cons, ih]
    by_cases e : s.1 = x
    · rw [if_pos e, e]
    · rw [if_neg e]
theorem upd_vals (x : Int) (p : Int × Int) : ∀ sp : List Span, dPutV (sp.map fun s => D.int s.1) (sp.map fun s => D.tup [.int s.2.1, .int s.2.2]) (.int x) (prD p) = (updS sp x p).map fun s => D.tup [.int s.2.1, .int s.2.2]
  | [] => rfl
  | s :: sp => by
    have ih := upd_vals x p sp
    unfold updS at ih ⊢
    rw [List.map_cons, List.map_cons, List.map_cons, List.map_cons]
    show (if D.int s.1 = D.int x then prD p else D.tup [.int s.2.1, .int s.2.2]) :: dPutV _ _ _ _ = _
    rw [ih]
    by_cases e : s.1 = x
    · rw [if_pos e, if_pos (by rw [e])]
      rfl
    · rw [if_neg e, if_neg fun z => e (by injection z)]
theorem set_celin {sp : List Span} {x : Int} {p : Int × Int} {env : AEnv} {j : Nat} {N : AEnv → Prop} (e : env[j]? = some (.own (celD sp))) (n : x ∈ sp.map (·.1)) (hz : sp.length ≤ 900000) (h : N (env.set j (.own (celD (updS sp x p))))) : setAt j (.int x) (prD p) env N := by
  unfold setAt
  rw [e]
  refine ⟨rfl, sz_lt (by rw [List.length_map]; omega), ?_⟩
  unfold dPutK dPutW
  rw [if_pos (cel_mem.mpr n), if_pos (cel_mem.mpr n), upd_vals]
  have ek : (sp.map fun s => D.int s.1) = (updS sp x p).map fun s => D.int s.1 := by
    have := congrArg (List.map D.int) (upd_keys x p sp)
    rw [List.map_map, List.map_map] at this
    exact this.symm
  rw [ek]
  exact h
/-- rows that may stand behind a turn -/
structure TuOk (t : Tree) (tb : List (Str × Nat)) (rs : List Row) : Prop where
  ok : ∀ r ∈ rs, RowOk r ∧ r.2.length ≤ 4
  len : rs.length ≤ 16
  pool : ∀ r ∈ rs, ∀ x ∈ r.2, x < 0 → x ∈ vars t.rows
  ar : ∀ ar : Str → Nat, (∀ p ∈ tb, ar p.1 = p.2) → Ar ar t → ∀ r ∈ rs, r.2.length = ar r.1
theorem TuOk.of {t : Tree} {tb : List (Str × Nat)} (ct : CaseOk t) : TuOk t tb t.rows := ⟨ct.rok, ct.rl, fun r hr x hx lt => vars_has t.rows r hr x hx lt, fun _ _ h => h⟩
theorem TuOk.sub {t : Tree} {tb : List (Str × Nat)} {rs : List Row} (ct : CaseOk t) (h : ∀ r ∈ rs, r ∈ t.rows) (hl : rs.length ≤ 16) : TuOk t tb rs :=
  ⟨fun r hr => ct.rok r (h r hr), hl, fun r hr x hx lt => vars_has t.rows r (h r hr) x hx lt, fun _ _ a r hr => a r (h r hr)⟩
theorem TuOk.set {t : Tree} {tb : List (Str × Nat)} (ct : CaseOk t) {i j : Nat} {v : Int} (hi : i < t.rows.length) (hj : j < t.rows[i].2.length) (hv : v < 0 → v ∈ vars t.rows) : TuOk t tb (t.rows.set i (t.rows[i].1, exch t.rows[i].2 j v)) := by
  have hin : t.rows[i] ∈ t.rows := List.getElem_mem hi
  have o := TuOk.of (tb := tb) ct
  have cs : ∀ r ∈ t.rows.set i (t.rows[i].1, exch t.rows[i].2 j v), r ∈ t.rows ∨ r = (t.rows[i].1, exch t.rows[i].2 j v) := fun r hr => List.mem_or_eq_of_mem_set hr
  have el := exch_len t.rows[i].2 j v hj
  refine ⟨fun r hr => ?_, by rw [List.length_set]; exact ct.rl, fun r hr x hx lt => ?_, fun ar h1 h2 r hr => ?_⟩
  · rcases cs r hr with z | z
    · exact ct.rok r z
    · have q := ct.rok _ hin
      rw [z]
      exact ⟨⟨q.1.1, by show (exch _ _ _).length ≤ 100; rw [el]; exact q.1.2⟩, by show (exch _ _ _).length ≤ 4; rw [el]; exact q.2⟩
  · rcases cs r hr with z | z
    · exact o.pool r z x hx lt
    · rw [z] at hx
      rcases exch_mem hx with y | y
      · exact o.pool _ hin x y lt
      · rw [y] at lt ⊢
        exact hv lt
  · rcases cs r hr with z | z
    · exact h2 r z
    · rw [z]
      show (exch _ _ _).length = _
      rw [el]
      exact h2 _ hin
theorem TuOk.add {t : Tree} {tb : List (Str × Nat)} (ct : CaseOk t) (to : TbOk tb) {p : Str × Nat} (hp : p ∈ tb) (hl : t.rows.length ≤ 15) {ts : List Int} (tl : ts.length = p.2) (ht : ∀ x ∈ ts, x < 0 → x ∈ vars t.rows) : TuOk t tb (t.rows ++ [(p.1, ts)]) := by
  obtain ⟨p1, p2, p3⟩ := to.2.2.2 p hp
  have o := TuOk.of (tb := tb) ct
  refine ⟨fun r hr => ?_, by rw [List.length_append, List.length_singleton]; omega, fun r hr x hx lt => ?_, fun ar h1 h2 r hr => ?_⟩
  · rcases List.mem_append.mp hr with z | z
    · exact ct.rok r z
    · rw [List.mem_singleton] at z
      rw [z]
      exact ⟨⟨p1, by show ts.length ≤ 100; omega⟩, by show ts.length ≤ 4; omega⟩
  · rcases List.mem_append.mp hr with z | z
    · exact o.pool r z x hx lt
    · rw [List.mem_singleton] at z
      rw [z] at hx
      exact ht x hx lt
  · rcases List.mem_append.mp hr with z | z
    · exact h2 r z
    · rw [List.mem_singleton] at z
      rw [z]
      show ts.length = ar p.1
      rw [tl, h1 p hp]
theorem TuOk.case {t : Tree} {tb : List (Str × Nat)} (ct : CaseOk t) {rs : List Row} (o : TuOk t tb rs) {sp : List Span} {ws : List Int} (wl : ws.length ≤ 10) : CaseOk (wholeT rs sp ws) ∧ ∀ ar : Str → Nat, (∀ p ∈ tb, ar p.1 = p.2) → Ar ar t → Ar ar (wholeT rs sp ws) :=
  ⟨whole_ok (pool := vars t.rows) o.ok o.len o.pool ct.vl wl, fun ar h1 h2 => whole_ar (o.ar ar h1 h2)⟩
theorem cut_from' {α : Type} (xs : List α) (i : Nat) : cutL xs (some (i : Int)) none = xs.drop i := by
  by_cases h : i ≤ xs.length
  · exact cut_from xs i h
  · unfold cutL
    rw [HT.sIx_none, HT.sIx_nat, Nat.min_eq_right (by omega), List.drop_of_length_le (Nat.le_refl _), List.drop_of_length_le (by omega)]
    simp
theorem exch_D' (xs : List Int) (i : Nat) (z : Int) : cutD (xs.map D.int) none (some (i : Int)) ++ [D.int z] ++ cutD (xs.map D.int) (some ((i : Int) + 1)) none = (exch xs i z).map D.int := by
  have e : ((i : Int) + 1) = ((i + 1 : Nat) : Int) := by omega
  rw [e, cutD_map, cutD_map, cut_min xs i, cut_from' xs (i + 1)]
  unfold exch
  rw [List.map_append, List.map_append]
  rfl
theorem exch_le (xs : List Int) (i : Nat) (z : Int) : (exch xs i z).length ≤ xs.length + 1 := by
  unfold exch
  simp only [List.length_append, List.length_take, List.length_drop, List.length_singleton]
  omega
end AL
namespace AL
open PySem L2
/-! P41: turned, the ways. -/
section
variable {t : Tree} {tb : List (Str × Nat)} {mn : List (Int × Int)} {way : Int} {A : AEnds} {d : D}
abbrev metL (t : Tree) : List Int := vars t.rows ++ [50]
abbrev tuE (t : Tree) (tb : List (Str × Nat)) (mn : List (Int × Int)) (way : Int) (d : D) (rs : List Row) (sp : List Span) (ws : List Int) (y5 y6 y10 y11 y12 y13 y14 y15 : AV) : AEnv :=
  [.own d, .dat (csD t), .dat (.int way), .dat (.lst (tb.map tbD)), .dat (.lst (mn.map prD)), y5, y6, .own (.lst (rs.map rowD)), .own (celD sp), .own (.lst (ws.map D.int)), y10, y11, y12, y13, y14, y15]
def TuK (A : AEnds) (t : Tree) (tb : List (Str × Nat)) (mn : List (Int × Int)) (way : Int) : Prop := ∀ d rs sp (ws : List Int) y5 y6 y10 y11 y12 y13 y14 y15, Dr d → TuOk t tb rs → sp.map (·.1) = t.spans.map (·.1) → ws.length ≤ 10 → A.nx (tuE t tb mn way d rs sp ws y5 y6 y10 y11 y12 y13 y14 y15)
abbrev tuS (t : Tree) (tb : List (Str × Nat)) (mn : List (Int × Int)) (way : Int) (d : D) (i : Nat) : AEnv := tuE t tb mn way d t.rows t.spans t.wide (.own (.lst ((metL t).map D.int))) (.dat (.int (i : Int))) .un .un .un .un .un .un
theorem met_ok (ct : CaseOk t) : (metL t).map D.int ≠ [] ∧ ((metL t).map D.int).length ≤ 1000000 := by
  have v5 := ct.vl
  exact ⟨by simp, by rw [List.length_map, List.length_append, List.length_singleton]; omega⟩
theorem met_in {v : Int} (h : v ∈ metL t) : v < 0 → v ∈ vars t.rows := fun lt => by
  rcases List.mem_append.mp h with z | z
  · exact z
  · rw [List.mem_singleton] at z
    omega
theorem erase_map {α β : Type} {f : α → β} : ∀ (i : Nat) (l : List α), (l.map f).eraseIdx i = (l.eraseIdx i).map f
  | _, [] => rfl
  | 0, _ :: _ => rfl
  | i + 1, a :: l => by
    show f a :: (l.map f).eraseIdx i = _
    rw [erase_map i l]
    rfl
theorem get_row {rs : List Row} {i : Nat} (h : i < rs.length) : (rs.map rowD)[i]? = some (rowD rs[i]) := by
  rw [List.getElem?_map, List.getElem?_eq_getElem h]
  rfl
theorem set_rowat {rs : List Row} {i : Nat} {r : Row} {env : AEnv} {j : Nat} {N : AEnv → Prop} (e : env[j]? = some (.own (.lst (rs.map rowD)))) (h : i < rs.length) (k : N (env.set j (.own (.lst ((rs.set i r).map rowD))))) : setAt j (.int (i : Int)) (rowD r) env N := by
  unfold setAt
  rw [e]
  refine ⟨i, ?_, ?_⟩
  · unfold ixN
    rw [if_pos (by omega), if_pos (by rw [List.length_map]; omega)]
    rfl
  · rw [List.map_set] at k
    exact k
set_option maxHeartbeats 0 in
theorem tu_w1 (ct : CaseOk t) (bg : Big t) {i : Nat} (hi : i < t.rows.length) (hd : Dr d) (k : TuK A t tb mn way) : law_turned_1_0 A (tuS t tb mn way d i) := by
  have hin : t.rows[i] ∈ t.rows := List.getElem_mem hi
  have r1 := bg.r1 _ hin
  have r4 := (ct.rok _ hin).2
  obtain ⟨mne, mle⟩ := met_ok ct
  conv => whnf
  repeat (refine ⟨trivial, ?_⟩; conv => whnf)
  refine ix_lst (by omega) (by rw [Int.toNat_natCast]; exact get_row hi) ?_
  conv => whnf
  repeat (refine ⟨trivial, ?_⟩; conv => whnf)
  refine ⟨rfl, ?_⟩
  conv => whnf
  repeat (refine ⟨trivial, ?_⟩; conv => whnf)
  refine ⟨rfl, ?_⟩
  conv => whnf
  repeat (refine ⟨trivial, ?_⟩; conv => whnf)
  refine use_draw 0 rfl hd (by rw [List.length_map]; omega) (by rw [List.length_map]; omega) fun r d1 r0 r1 hd1 => ?_
  rw [List.length_map] at r1
  obtain ⟨j, rfl⟩ := toNat_eq r0
  have hj : j < t.rows[i].2.length := by omega
  conv => whnf
  repeat (refine ⟨trivial, ?_⟩; conv => whnf)
  refine use_pickO 0 5 ((metL t).map D.int) rfl rfl (by omega) hd1 rfl mne mle fun z d2 mz hd2 => ?_
  obtain ⟨v, hv, rfl⟩ := List.mem_map.mp mz
  have cl : ∀ lo hi, (cutD (t.rows[i].2.map D.int) lo hi).length ≤ 4 := fun lo hi => Nat.le_trans (cutD_len' _ _ _) (by rw [List.length_map]; exact r4)
  conv => whnf
  repeat (refine ⟨trivial, ?_⟩; conv => whnf)
  refine ⟨sz1, ?_⟩
  conv => whnf
  repeat (refine ⟨trivial, ?_⟩; conv => whnf)
  refine ⟨sz_le (by have := cl none (some (j : Int)); show _ + 1 ≤ _; omega), ?_⟩
  conv => whnf
  repeat (refine ⟨trivial, ?_⟩; conv => whnf)
  refine ⟨sz_le (by rw [List.length_append]; have := cl none (some (j : Int)); have := cl (some ((j : Int) + 1)) none; show _ + 1 + _ ≤ _; omega), ?_⟩
  conv => whnf
  repeat (refine ⟨trivial, ?_⟩; conv => whnf)
  refine ⟨sz2, ?_⟩
  conv => whnf
  repeat (refine ⟨trivial, ?_⟩; conv => whnf)
  have e : D.tup [.str t.rows[i].1, .tup (cutD (t.rows[i].2.map D.int) none (some (j : Int)) ++ [D.int v] ++ cutD (t.rows[i].2.map D.int) (some ((j : Int) + 1)) none)] = rowD (t.rows[i].1, exch t.rows[i].2 j v) := by
    rw [exch_D']
    rfl
  show setAt 7 (.int (i : Int)) (D.tup [.str t.rows[i].1, .tup (cutD (t.rows[i].2.map D.int) none (some (j : Int)) ++ [D.int v] ++ cutD (t.rows[i].2.map D.int) (some ((j : Int) + 1)) none)]) _ _
  rw [e]
  refine set_rowat rfl hi ?_
  exact k d2 (t.rows.set i (t.rows[i].1, exch t.rows[i].2 j v)) t.spans t.wide _ _ _ _ _ _ _ _ hd2 (TuOk.set ct hi hj (met_in hv)) rfl ct.wl
set_option maxHeartbeats 0 in
theorem tu_w3 (ct : CaseOk t) (bg : Big t) {i : Nat} (hd : Dr d) (k : TuK A t tb mn way) : law_turned_5_0 A (tuS t tb mn way d i) := by
  have w9 := bg.wl
  obtain ⟨mne, mle⟩ := met_ok ct
  conv => whnf
  repeat (refine ⟨trivial, ?_⟩; conv => whnf)
  refine use_draw 0 rfl hd (by rw [List.length_map]; omega) (by rw [List.length_map]; omega) fun r d1 r0 r1 hd1 => ?_
  obtain ⟨j, rfl⟩ := toNat_eq r0
  conv => whnf
  repeat (refine ⟨trivial, ?_⟩; conv => whnf)
  refine use_pickO 0 5 ((metL t).map D.int) rfl rfl (by omega) hd1 rfl mne mle fun z d2 mz hd2 => ?_
  obtain ⟨v, hv, rfl⟩ := List.mem_map.mp mz
  have cl : ∀ lo hi, (cutD (t.wide.map D.int) lo hi).length ≤ 9 := fun lo hi => Nat.le_trans (cutD_len' _ _ _) (by rw [List.length_map]; exact w9)
  conv => whnf
  repeat (refine ⟨trivial, ?_⟩; conv => whnf)
  refine ⟨sz1, ?_⟩
  conv => whnf
  repeat (refine ⟨trivial, ?_⟩; conv => whnf)
  refine ⟨sz_le (by have := cl none (some (j : Int)); show _ + 1 ≤ _; omega), ?_⟩
  conv => whnf
  repeat (refine ⟨trivial, ?_⟩; conv => whnf)
  refine ⟨sz_le (by rw [List.length_append]; have := cl none (some (j : Int)); have := cl (some ((j : Int) + 1)) none; show _ + 1 + _ ≤ _; omega), ?_⟩
  have e := exch_D' t.wide j v
  have key := k d2 t.rows t.spans (exch t.wide j v) (.own (.lst ((metL t).map D.int))) (.dat (.int (i : Int))) (.dat (.int (j : Int))) .un .un .un .un .un hd2 (TuOk.of ct) rfl (by have := exch_le t.wide j v; omega)
  unfold tuE at key
  rw [← e] at key
  exact key
set_option maxHeartbeats 0 in
theorem tu_w4 (ct : CaseOk t) {i : Nat} (hi : i < t.rows.length) (hd : Dr d) (k : TuK A t tb mn way) : law_turned_7_0 A (tuS t tb mn way d i) := by
  have rl := ct.rl
  conv => whnf
  repeat (refine ⟨trivial, ?_⟩; conv => whnf)
  refine ⟨⟨_, rfl⟩, ?_⟩
  conv => whnf
  repeat (refine ⟨trivial, ?_⟩; conv => whnf)
  refine ⟨by omega, ?_⟩
  conv => whnf
  repeat (refine ⟨trivial, ?_⟩; conv => whnf)
  refine ⟨by omega, i, rowD t.rows[i], idx_nat (by omega) (by rw [List.length_map]; omega), get_row hi, ?_⟩
  have e : (t.rows.map rowD).eraseIdx i = (t.rows.eraseIdx i).map rowD := erase_map i t.rows
  rw [e]
  exact k d (t.rows.eraseIdx i) t.spans t.wide _ _ _ _ _ _ _ _ hd (TuOk.sub ct (fun r hr => List.mem_of_mem_eraseIdx hr) (by have := List.length_eraseIdx_le (l := t.rows) (i := i); omega)) rfl ct.wl
set_option maxHeartbeats 0 in
theorem tu_w5 (ct : CaseOk t) (bg : Big t) (to : TbOk tb) {i : Nat} (hd : Dr d) (k : TuK A t tb mn way) : law_turned_9_0 A (tuS t tb mn way d i) := by
  obtain ⟨mne, mle⟩ := met_ok ct
  have rl := bg.rl
  obtain ⟨tne, tl, tnd, tok⟩ := id to
  conv => whnf
  repeat (refine ⟨trivial, ?_⟩; conv => whnf)
  refine use_pick 0 (tb.map tbD) rfl hd rfl (by simpa using tne) (by rw [List.length_map]; omega) fun z d1 mz hd1 => ?_
  obtain ⟨p, hpt, rfl⟩ := List.mem_map.mp mz
  obtain ⟨p1, p2, p3⟩ := tok p hpt
  conv => whnf
  repeat (refine ⟨trivial, ?_⟩; conv => whnf)
  refine ⟨rfl, ?_⟩
  conv => whnf
  repeat (refine ⟨trivial, ?_⟩; conv => whnf)
  refine ⟨rfl, ?_⟩
  conv => whnf
  repeat (refine ⟨trivial, ?_⟩; conv => whnf)
  refine ⟨⟨_, rfl⟩, ?_⟩
  conv => whnf
  repeat (refine ⟨trivial, ?_⟩; conv => whnf)
  refine ⟨⟨by omega, by omega⟩, ?_⟩
  refine ⟨noOwn_one (x := .un) rfl (fun e z => by cases z), sz_le (by rw [range_len]; omega), ?_⟩
  refine lc_ind (Ev := fun env => ∃ d4, Dr d4 ∧ env = tuE t tb mn way d4 t.rows t.spans t.wide (.own (.lst ((metL t).map D.int))) (.dat (.int (i : Int))) .un (.dat (.str p.1)) .un .un .un (.dat (.int (p.2 : Int)))) (Stp := fun y oz => ∃ a : Int, a ∈ metL t ∧ oz = some (.int a)) _ ?_ _ _ ⟨d1, hd1, rfl⟩ ?_
  · rintro y hy _ K ⟨d4, hd4, rfl⟩ hK
    conv => whnf
    repeat (refine ⟨trivial, ?_⟩; conv => whnf)
    rw [brP_true]
    conv => whnf
    repeat (refine ⟨trivial, ?_⟩; conv => whnf)
    refine use_pickO 0 5 ((metL t).map D.int) rfl rfl (by omega) hd4 rfl mne mle fun z d5 mz hd5 => ?_
    obtain ⟨a, ha, rfl⟩ := List.mem_map.mp mz
    conv => whnf
    repeat (refine ⟨trivial, ?_⟩; conv => whnf)
    exact hK _ _ ⟨d5, hd5, rfl⟩ ⟨a, ha, rfl⟩
  · rintro zs _ ot ⟨d4, hd4, rfl⟩
    obtain ⟨ts, rfl, am, al⟩ := outs_ex (P := fun a : Int => a ∈ metL t) (f := D.int) (fun y oz h => h) ot
    rw [range_len] at al
    conv => whnf
    repeat (refine ⟨trivial, ?_⟩; conv => whnf)
    refine ⟨sz2, ?_⟩
    conv => whnf
    repeat (refine ⟨trivial, ?_⟩; conv => whnf)
    refine ⟨sz_lt (by rw [List.length_map]; omega), ?_⟩
    have e2 : (t.rows.map rowD) ++ [D.tup [.str p.1, .tup (ts.map D.int)]] = (t.rows ++ [(p.1, ts)]).map rowD := by
      rw [List.map_append]
      rfl
    rw [e2]
    exact k d4 (t.rows ++ [(p.1, ts)]) t.spans t.wide _ _ _ _ _ _ _ _ hd4 (TuOk.add ct to hpt rl (by rw [al]; exact Int.toNat_natCast _) fun x hx => met_in (am x hx)) rfl ct.wl
theorem met_init (t : Tree) : cutD ((metL t).map D.int) none (some (-1)) = (vars t.rows).map D.int := by
  rw [cutD_map, cut_init]
  unfold metL
  rw [List.length_append, List.length_singleton, Nat.add_sub_cancel, List.take_left']
  rfl
set_option maxHeartbeats 0 in
theorem tu_w6 (ct : CaseOk t) {i : Nat} (hne : vars t.rows ≠ []) (mne : mn ≠ []) (ml : mn.length ≤ 10) (hd : Dr d) (k : TuK A t tb mn way) : law_turned_11_0 A (tuS t tb mn way d i) := by
  have v5 := ct.vl
  have sl := case_spans ct
  conv => whnf
  repeat (refine ⟨trivial, ?_⟩; conv => whnf)
  refine use_pick 0 (mn.map prD) rfl hd rfl (by simpa using mne) (by rw [List.length_map]; omega) fun z d1 mz hd1 => ?_
  obtain ⟨p, rfl⟩ := prD_pick mz
  conv => whnf
  repeat (refine ⟨trivial, ?_⟩; conv => whnf)
  rw [met_init]
  refine use_pick 0 ((vars t.rows).map D.int) rfl hd1 rfl (by simpa using hne) (by rw [List.length_map]; omega) fun z d2 mz hd2 => ?_
  obtain ⟨x, hx, rfl⟩ := List.mem_map.mp mz
  conv => whnf
  repeat (refine ⟨trivial, ?_⟩; conv => whnf)
  refine set_celin rfl ((ct.skey x).mpr hx) (by omega) ?_
  exact k d2 t.rows (updS t.spans x p) t.wide _ _ _ _ _ _ _ _ hd2 (TuOk.of ct) (upd_keys _ _ _) ct.wl
set_option maxHeartbeats 0 in
theorem tu_w2 (ct : CaseOk t) {i : Nat} (hl : 2 ≤ (vars t.rows).length) (hd : Dr d) (k : TuK A t tb mn way) : law_turned_3_0 A (tuS t tb mn way d i) := by
  have v5 := ct.vl
  have sl := case_spans ct
  conv => whnf
  repeat (refine ⟨trivial, ?_⟩; conv => whnf)
  rw [met_init]
  refine use_mixed 0 ((vars t.rows).map D.int) rfl hd rfl (by rw [List.length_map]; omega) fun l' d1 pm hd1 => ?_
  obtain ⟨ys, rfl, p⟩ := perm_ex pm _ rfl
  have pl := p.length_eq
  match ys, p, pl with
  | [], _, pl => rw [List.length_nil] at pl; omega
  | [_], _, pl => rw [List.length_singleton] at pl; omega
  | a :: b :: r, p, pl =>
    have ha : a ∈ vars t.rows := p.mem_iff.mp List.mem_cons_self
    have hb : b ∈ vars t.rows := p.mem_iff.mp (List.mem_cons_of_mem _ List.mem_cons_self)
    obtain ⟨u, eu, gu⟩ := lkC_get ((ct.skey a).mpr ha)
    obtain ⟨v, ev, gv⟩ := lkC_get ((ct.skey b).mpr hb)
    have ec : cutD ((a :: b :: r).map D.int) none (some 2) = [.int a, .int b] := by
      have := cut_min (a :: b :: r) 2
      rw [cutD_map]
      rw [show (some (2 : Int)) = some ((2 : Nat) : Int) from rfl, this]
      rfl
    conv => whnf
    repeat (refine ⟨trivial, ?_⟩; conv => whnf)
    rw [ec]
    conv => whnf
    repeat (refine ⟨trivial, ?_⟩; conv => whnf)
    refine ⟨rfl, ?_⟩
    conv => whnf
    repeat (refine ⟨trivial, ?_⟩; conv => whnf)
    refine ⟨rfl, ?_⟩
    conv => whnf
    repeat (refine ⟨trivial, ?_⟩; conv => whnf)
    refine gv _ ?_
    conv => whnf
    repeat (refine ⟨trivial, ?_⟩; conv => whnf)
    refine gu _ ?_
    conv => whnf
    repeat (refine ⟨trivial, ?_⟩; conv => whnf)
    refine ⟨sz2, ?_⟩
    conv => whnf
    repeat (refine ⟨trivial, ?_⟩; conv => whnf)
    refine ⟨rfl, ?_⟩
    conv => whnf
    repeat (refine ⟨trivial, ?_⟩; conv => whnf)
    refine set_celin rfl ((ct.skey a).mpr ha) (by omega) ?_
    conv => whnf
    repeat (refine ⟨trivial, ?_⟩; conv => whnf)
    refine set_celin rfl (by rw [upd_keys]; exact (ct.skey b).mpr hb) (by have := congrArg List.length (upd_keys a v t.spans); rw [List.length_map, List.length_map] at this; omega) ?_
    conv => whnf
    repeat (refine ⟨trivial, ?_⟩; conv => whnf)
    refine ⟨rfl, ?_⟩
    conv => whnf
    repeat (refine ⟨trivial, ?_⟩; conv => whnf)
    exact k d1 t.rows (updS (updS t.spans a v) b u) t.wide _ _ _ _ _ _ _ _ hd1 (TuOk.of ct) (by rw [upd_keys, upd_keys]) ct.wl
end
end AL
namespace AL
open PySem L2
/-! P42: turned, whole. -/
section
variable {t : Tree} {tb : List (Str × Nat)} {mn : List (Int × Int)} {way : Int}
set_option maxHeartbeats 0 in
theorem p_law_turned : BodyOk 5 16 B_law_turned a_law_turned S_law_turned := by
  rintro _ R ⟨d, t, way, tb, mn, rfl, hd, ct, bg, to, mne, ml, k⟩
  refine ⟨rfl, own0 (ds := [_, _, _, _]) rfl, ?_⟩
  have v5 := ct.vl
  have rpos : 0 < t.rows.length := List.length_pos_iff.mpr bg.ne
  conv => whnf
  repeat (refine ⟨trivial, ?_⟩; conv => whnf)
  refine ix_tup (by omega) rfl ?_
  conv => whnf
  repeat (refine ⟨trivial, ?_⟩; conv => whnf)
  refine ix_tup (by omega) rfl ?_
  conv => whnf
  repeat (refine ⟨trivial, ?_⟩; conv => whnf)
  refine ix_tup (by omega) rfl ?_
  conv => whnf
  repeat (refine ⟨trivial, ?_⟩; conv => whnf)
  refine ⟨rfl, ?_⟩
  conv => whnf
  repeat (refine ⟨trivial, ?_⟩; conv => whnf)
  refine use_variablesO 7 t.rows rfl ct.rowsOk ?_
  conv => whnf
  repeat (refine ⟨trivial, ?_⟩; conv => whnf)
  refine ⟨sz1, ?_⟩
  conv => whnf
  repeat (refine ⟨trivial, ?_⟩; conv => whnf)
  refine ⟨sz_le (by rw [List.length_map]; show _ + 1 ≤ _; omega), ?_⟩
  have em : (vars t.rows).map D.int ++ [D.int 50] = (metL t).map D.int := by
    unfold metL
    rw [List.map_append]
    rfl
  rw [em]
  have ml6 : (metL t).length = (vars t.rows).length + 1 := by
    unfold metL
    rw [List.length_append, List.length_singleton]
  conv => whnf
  repeat (refine ⟨trivial, ?_⟩; conv => whnf)
  refine use_draw 0 rfl hd (by rw [List.length_map]; omega) (by rw [List.length_map]; have := bg.rl; omega) fun r d1 r0 r1 hd1 => ?_
  rw [List.length_map] at r1
  obtain ⟨i, rfl⟩ := toNat_eq r0
  have hi : i < t.rows.length := by omega
  -- what stands behind each way
  have tail : ∀ A : AEnds, A.rt = (fun r env => (∀ i, r ≠ .at i) ∧ R r (outs [.own d, .dat (csD t), .dat (.int way), .dat (.lst (tb.map tbD)), .dat (.lst (mn.map prD))] env)) → TuK { A with nx := law_turned_0_4 A } t tb mn way := fun A eA d2 rs sp ws y5 y6 y10 y11 y12 y13 y14 y15 hd2 o es wl => by
    have snd : (sp.map (·.1)).Nodup := by rw [es]; exact ct.snd
    have sl : sp.length ≤ 1000 := by
      have e1 := congrArg List.length es
      rw [List.length_map, List.length_map] at e1
      have := case_spans ct
      omega
    obtain ⟨c1, c2⟩ := o.case ct (sp := sp) wl
    show law_turned_0_4 A (tuE t tb mn way d2 rs sp ws y5 y6 y10 y11 y12 y13 y14 y15)
    conv => whnf
    repeat (refine ⟨trivial, ?_⟩; conv => whnf)
    refine use_whole rs sp ws ⟨by have := o.len; omega, fun r h => (o.ok r h).1⟩ sl snd (by omega) ?_
    conv => whnf
    repeat (refine ⟨trivial, ?_⟩; conv => whnf)
    exact (congrFun (congrFun eA _) _).mpr ⟨nat_ _, k (wholeT rs sp ws) d2 c1 c2 hd2⟩
  have tl := tail { nx := fun env => R (.dat .non) (outs [.own d, .dat (csD t), .dat (.int way), .dat (.lst (tb.map tbD)), .dat (.lst (mn.map prD))] env), rt := fun r env => (∀ i, r ≠ .at i) ∧ R r (outs [.own d, .dat (csD t), .dat (.int way), .dat (.lst (tb.map tbD)), .dat (.lst (mn.map prD))] env) } rfl
  have skip := tl d1 t.rows t.spans t.wide (.own (.lst ((metL t).map D.int))) (.dat (.int (i : Int))) .un .un .un .un .un .un hd1 (TuOk.of ct) rfl ct.wl
  conv => whnf
  repeat (refine ⟨trivial, ?_⟩; conv => whnf)
  refine eq_int ?_
  conv => whnf
  repeat (refine ⟨trivial, ?_⟩; conv => whnf)
  refine brI (fun h => ?_) (fun h => ?_)
  · exact tu_w1 ct bg hi hd1 tl
  · conv => whnf
    repeat (refine ⟨trivial, ?_⟩; conv => whnf)
    refine eq_int ?_
    conv => whnf
    repeat (refine ⟨trivial, ?_⟩; conv => whnf)
    have rest4 : ∀ A, TuK A t tb mn way → law_turned_4_0 A (tuS t tb mn way d1 i) := fun A tl => by
      have skip := tl d1 t.rows t.spans t.wide (.own (.lst ((metL t).map D.int))) (.dat (.int (i : Int))) .un .un .un .un .un .un hd1 (TuOk.of ct) rfl ct.wl
      conv => whnf
      repeat (refine ⟨trivial, ?_⟩; conv => whnf)
      refine eq_int ?_
      conv => whnf
      repeat (refine ⟨trivial, ?_⟩; conv => whnf)
      refine brI (fun h => ?_) (fun h => ?_)
      · exact tu_w3 ct bg hd1 tl
      · have rest8 : law_turned_8_0 A (tuS t tb mn way d1 i) := by
          conv => whnf
          repeat (refine ⟨trivial, ?_⟩; conv => whnf)
          refine eq_int ?_
          conv => whnf
          repeat (refine ⟨trivial, ?_⟩; conv => whnf)
          refine brI (fun h => ?_) (fun h => ?_)
          · exact tu_w5 ct bg to hd1 tl
          · conv => whnf
            repeat (refine ⟨trivial, ?_⟩; conv => whnf)
            rw [List.length_map, ml6]
            refine brI (fun h => ?_) (fun h => ?_)
            · have h : ((1 : Int) < (((vars t.rows).length + 1 : Nat) : Int)) := by simpa using h
              exact tu_w6 ct (fun z => by rw [z] at h; simp at h) mne ml hd1 tl
            · exact skip
        conv => whnf
        repeat (refine ⟨trivial, ?_⟩; conv => whnf)
        refine eq_int ?_
        conv => whnf
        repeat (refine ⟨trivial, ?_⟩; conv => whnf)
        refine brI (fun h => ?_) (fun h => ?_)
        · conv => whnf
          repeat (refine ⟨trivial, ?_⟩; conv => whnf)
          refine brI (fun h => ?_) (fun h => ?_)
          · exact tu_w4 ct hi hd1 tl
          · exact rest8
        · conv => whnf
          repeat (refine ⟨trivial, ?_⟩; conv => whnf)
          refine brF rfl ?_
          exact rest8
    refine brI (fun h => ?_) (fun h => ?_)
    · conv => whnf
      repeat (refine ⟨trivial, ?_⟩; conv => whnf)
      rw [List.length_map, ml6]
      refine brI (fun h => ?_) (fun h => ?_)
      · have h : ((2 : Int) < (((vars t.rows).length + 1 : Nat) : Int)) := by simpa using h
        exact tu_w2 ct (by omega) hd1 tl
      · exact rest4 _ tl
    · conv => whnf
      repeat (refine ⟨trivial, ?_⟩; conv => whnf)
      refine brF rfl ?_
      exact rest4 _ tl
theorem use_turned {env : AEnv} (j : Nat) {d : D} {R : RV → AEnv → Prop} (e : env[j]? = some (.own d)) (hd : Dr d) (ct : CaseOk t) (bg : Big t) (to : TbOk tb) (mne : mn ≠ []) (ml : mn.length ≤ 10)
    (k : ∀ o d', CaseOk o → (∀ ar : Str → Nat, (∀ p ∈ tb, ar p.1 = p.2) → Ar ar t → Ar ar o) → Dr d' → R (.dat (csD o)) (env.set j (.own d'))) : callR S_law_turned [.at j, .dat (csD t), .dat (.int way), .dat (.lst (tb.map tbD)), .dat (.lst (mn.map prD))] env R :=
  call_lent j [csD t, .int way, .lst (tb.map tbD), .lst (mn.map prD)] e ⟨d, t, way, tb, mn, rfl, hd, ct, bg, to, mne, ml, fun o d' h1 h2 h3 => k o d' h1 h2 h3⟩
end
end AL
namespace AL
open PySem L2
/-! P43: agrees. -/
theorem CaseOk.withN {t : Tree} (ct : CaseOk t) {ns : List Row} (h : RowsOk ns) : CaseOk (withN t ns) := ⟨ct.rok, h, ct.rl, ct.rnd, ct.vl, ct.wl, ct.wh, ct.snd, ct.skey⟩
theorem map_snoc {α β : Type} (f : α → β) (xs : List α) (a : α) : (xs ++ [a]).map f = xs.map f ++ [f a] := by
  rw [List.map_append]
  rfl
section
variable {C : Addr} {t o : Tree} {n1 n2 : List Row} {made : List Int} {A : AEnds}
abbrev agE (C : Addr) (t o : Tree) (n1 n2 : List Row) (made : List Int) (d : D) (y6 y7 y8 y9 y10 y11 y12 : AV) : AEnv :=
  [.own d, .dat (csD t), .dat (csD o), .dat (objD C (withN t n1)), .dat (objD C (withN o n2)), .dat (tmD made), y6, y7, y8, y9, y10, y11, y12]
def AgFin (C : Addr) (t o : Tree) (n1 n2 : List Row) (made : List Int) (A : AEnds) : Prop := ∀ d y6 y7 y8 y9 y10 y11 y12, Dr d → A.rt (.dat (.bl true)) (agE C t o n1 n2 made d y6 y7 y8 y9 y10 y11 y12)
set_option maxHeartbeats 0 in
/-- the offers are looked at -/
theorem ag8 (ct : CaseOk t) (co : CaseOk o) (h1 : RowsOk n1) (h2 : RowsOk n2) {d : D} (hd : Dr d) {x6 x7 x8 x9 x12 : AV} (k : ∀ y10 y11, A.nx (agE C t o n1 n2 made d x6 x7 x8 x9 y10 y11 x12)) :
    ∀ (os : List Off) (x10 x11 : AV), (∀ q ∈ os, offLen q ≤ 100) → forL (agName 10) (law_agrees_5_0 C) A (os.map ofD) (agE C t o n1 n2 made d x6 x7 x8 x9 x10 x11 x12)
  | [], x10, x11, _ => k x10 x11
  | q :: os, x10, x11, hq => by
    have ih := ag8 (x6 := x6) (x7 := x7) (x8 := x8) (x9 := x9) (x12 := x12) ct co h1 h2 hd k os
    have ql := hq q List.mem_cons_self
    rw [List.map_cons]
    conv => whnf
    repeat (refine ⟨trivial, ?_⟩; conv => whnf)
    refine use_shows (withN t n1) (withN o n2) q (ct.withN h1) (co.withN h2) ql ?_
    conv => whnf
    repeat (refine ⟨trivial, ?_⟩; conv => whnf)
    refine ⟨"bool", true, rfl, by decide +kernel, ?_⟩
    conv => whnf
    repeat (refine ⟨trivial, ?_⟩; conv => whnf)
    refine brF rfl ?_
    conv => whnf
    repeat (refine ⟨trivial, ?_⟩; conv => whnf)
    refine use_reads t o q ct co ql ?_
    conv => whnf
    repeat (refine ⟨trivial, ?_⟩; conv => whnf)
    refine ne_bl ?_
    conv => whnf
    repeat (refine ⟨trivial, ?_⟩; conv => whnf)
    have e : showF (withN t n1) (withN o n2) q = readF t o q := show_read (t := withN t n1) (o := withN o n2) (ct.withN h1) (co.withN h2) q
    rw [e]
    refine brF (by simp) ?_
    exact ih _ _ fun p hp => hq p (List.mem_cons_of_mem _ hp)
set_option maxHeartbeats 0 in
theorem ag7 {x6 x7 x12 : AV} (co : CaseOk o) (k : ∀ (d : D) (os : List Off) y9 y10, Dr d → os.length ≤ 1000 → (∀ q ∈ os, offLen q ≤ 100) → A.nx (agE C t o n1 n2 made d x6 x7 (.own (.lst (os.map ofD))) y9 y10 .un x12)) :
    ∀ (ls : List (List Int)) (acc : List Off) (d : D) (x9 x10 : AV), Dr d → (∀ l ∈ ls, l.length ≤ 10) → (∀ q ∈ acc, offLen q ≤ 100) → acc.length + 2 * ls.length ≤ 1000 → (x9 = .own (.lst ((vars o.rows).map D.int)) ∨ x9 = .dat (.lst ((vars o.rows).map D.int))) →
    forL (agName 10) (law_agrees_4_0 C) A (ls.map tmD) (agE C t o n1 n2 made d x6 x7 (.own (.lst (acc.map ofD))) x9 x10 .un x12)
  | [], acc, d, x9, x10, hd, _, ha, hl, _ => k d acc x9 x10 hd (by omega) ha
  | l :: ls, acc, d, x9, x10, hd, hl, ha, hz, h9 => by
    rw [List.length_cons] at hz
    have ih := fun acc d x9 x10 hd ha => ag7 (x6 := x6) (x7 := x7) (x12 := x12) co k ls acc d x9 x10 hd (fun q hq => hl q (List.mem_cons_of_mem _ hq)) ha
    have l10 := hl l List.mem_cons_self
    have v5 := co.vl
    rw [List.map_cons]
    have go : ∀ (q : Off) (d1 : D) (x9 : AV), offLen q ≤ 100 → Dr d1 → (x9 = .own (.lst ((vars o.rows).map D.int)) ∨ x9 = .dat (.lst ((vars o.rows).map D.int))) → law_agrees_4_1 C { nx := forL (agName 10) (law_agrees_4_0 C) A (ls.map tmD), rt := A.rt, bk := A.nx, ct := forL (agName 10) (law_agrees_4_0 C) A (ls.map tmD) } (agE C t o n1 n2 made d1 x6 x7 (.own (.lst ((acc ++ [q]).map ofD))) x9 (.dat (tmD l)) .un x12) := fun q d1 x9 hq hd1 h9 => by
      conv => whnf
      repeat (refine ⟨trivial, ?_⟩; conv => whnf)
      refine ⟨⟨_, rfl⟩, ?_⟩
      conv => whnf
      repeat (refine ⟨trivial, ?_⟩; conv => whnf)
      refine use_mixed 0 (l.map D.int) rfl hd1 rfl (by rw [List.length_map]; omega) fun l' d2 pm hd2 => ?_
      obtain ⟨ys, rfl, p⟩ := perm_ex pm _ rfl
      conv => whnf
      repeat (refine ⟨trivial, ?_⟩; conv => whnf)
      refine ⟨sz_lt (by rw [List.length_map, List.length_append, List.length_singleton]; omega), ?_⟩
      have e : (acc ++ [q]).map ofD ++ [D.tup (ys.map D.int)] = (acc ++ [q] ++ [Off.tup (ys.map Img.int)]).map ofD := by
        show (acc ++ [q]).map ofD ++ [tmD ys] = _
        rw [map_snoc ofD (acc ++ [q]), of_ints]
      rw [e]
      refine ih _ _ _ _ hd2 (fun r hr => ?_) (by simp only [List.length_append, List.length_singleton]; omega) h9
      rcases List.mem_append.mp hr with z | z
      · rcases List.mem_append.mp z with z | z
        · exact ha r z
        · rw [List.mem_singleton] at z
          rw [z]; exact hq
      · rw [List.mem_singleton] at z
        rw [z]
        show (ys.map Img.int).length ≤ 100
        rw [List.length_map, p.length_eq]
        omega
    have e1 : ∀ q : Off, (acc.map ofD) ++ [ofD q] = (acc ++ [q]).map ofD := fun q => by
      rw [List.map_append]
      rfl
    rcases h9 with rfl | rfl <;>
    · conv => whnf
      repeat (refine ⟨trivial, ?_⟩; conv => whnf)
      refine ⟨⟨_, rfl⟩, ?_⟩
      conv => whnf
      repeat (refine ⟨trivial, ?_⟩; conv => whnf)
      refine use_spoilt 0 l (vars o.rows) rfl hd (by omega) (by omega) fun q r d1 hq hr hd1 => ?_
      rcases hr with rfl | rfl <;>
      · conv => whnf
        repeat (refine ⟨trivial, ?_⟩; conv => whnf)
        refine ⟨sz_lt (by rw [List.length_map]; omega), ?_⟩
        rw [e1]
        exact go q d1 _ (by omega) hd1 (.inr rfl)
end
end AL
namespace AL
open PySem L2
/-! P44: agrees, whole. -/
section
variable {C : Addr} {t o : Tree} {n1 n2 : List Row} {made : List Int} {A : AEnds}
set_option maxHeartbeats 0 in
theorem ag5 {d : D} {x6 x7 : AV} (ct : CaseOk t) (co : CaseOk o) (h1 : RowsOk n1) (h2 : RowsOk n2) (hd : Dr d) (ml : made.length ≤ 10) (h6 : x6 = .own (.lst ((mapsF t o).map tmD)) ∨ x6 = .dat (.lst ((mapsF t o).map tmD))) (fin : AgFin C t o n1 n2 made A) :
    law_agrees_0_5 C A (agE C t o n1 n2 made d x6 x7 .un .un .un .un .un) := by
  have ec : cutD ((mapsF t o).map tmD) none (some 3) = ((mapsF t o).take 3).map tmD := by
    have := cut_min (mapsF t o) 3
    rw [cutD_map, show (some (3 : Int)) = some ((3 : Nat) : Int) from rfl, this]
  have l3 : ((mapsF t o).take 3).length ≤ 3 := by rw [List.length_take]; exact Nat.min_le_left _ _
  have main : ∀ x6 : AV, law_agrees_0_6 C A (agE C t o n1 n2 made d x6 x7 (.own (.lst ((made :: (mapsF t o).take 3).map tmD))) .un .un .un .un) := fun x6 => by
    conv => whnf
    repeat (refine ⟨trivial, ?_⟩; conv => whnf)
    refine ix_tup (by omega) rfl ?_
    conv => whnf
    repeat (refine ⟨trivial, ?_⟩; conv => whnf)
    refine use_variables o.rows rfl co.rowsOk ?_
    conv => whnf
    repeat (refine ⟨trivial, ?_⟩; conv => whnf)
    intro _
    have e : (made :: (mapsF t o).take 3).map tmD = ((made :: (mapsF t o).take 3).map fun l => Off.tup (l.map Img.int)).map ofD := by
      rw [List.map_map]
      refine List.map_congr_left fun l _ => ?_
      exact (of_ints l).symm
    have key := ag7 (C := C) (t := t) (o := o) (n1 := n1) (n2 := n2) (made := made) (A := { A with nx := law_agrees_0_8 C A }) (x6 := x6) (x7 := x7) (x12 := .un) co (fun d2 os y9 y10 hd2 ol hq => by
      show law_agrees_0_8 C A (agE C t o n1 n2 made d2 x6 x7 (.own (.lst (os.map ofD))) y9 y10 .un .un)
      conv => whnf
      repeat (refine ⟨trivial, ?_⟩; conv => whnf)
      refine ⟨Nat.zero_le _, ?_⟩
      conv => whnf
      repeat (refine ⟨trivial, ?_⟩; conv => whnf)
      refine ⟨sz3, ?_⟩
      conv => whnf
      repeat (refine ⟨trivial, ?_⟩; conv => whnf)
      refine ⟨sz_le (by rw [List.length_map]; show _ + 3 ≤ _; omega), ?_⟩
      conv => whnf
      repeat (refine ⟨trivial, ?_⟩; conv => whnf)
      intro _
      have e3 : os.map ofD ++ [D.non, .tup [], .int 0] = (os ++ [Off.one .non, Off.tup [], Off.one (.int 0)]).map ofD := by
        rw [List.map_append]
        rfl
      rw [e3]
      refine ag8 ct co h1 h2 hd2 (fun y10 y11 => ?_) _ _ _ fun q hqm => ?_
      · conv => whnf
        repeat (refine ⟨trivial, ?_⟩; conv => whnf)
        exact fin d2 _ _ _ _ _ _ _ hd2
      · rcases List.mem_append.mp hqm with z | z
        · exact hq q z
        · simp only [List.mem_cons, List.not_mem_nil, or_false] at z
          rcases z with rfl | rfl | rfl <;> exact Nat.zero_le _) (made :: (mapsF t o).take 3) ((made :: (mapsF t o).take 3).map fun l => Off.tup (l.map Img.int)) d (.own (.lst ((vars o.rows).map D.int))) .un hd (fun l hl => by
        rcases List.mem_cons.mp hl with z | z
        · rw [z]; exact ml
        · have := maps_len ct co (List.mem_of_mem_take z)
          have := ct.vl
          omega) (fun q hq => by
        obtain ⟨l, hl, rfl⟩ := List.mem_map.mp hq
        show (l.map Img.int).length ≤ 100
        rw [List.length_map]
        rcases List.mem_cons.mp hl with z | z
        · rw [z]; omega
        · have := maps_len ct co (List.mem_of_mem_take z)
          have := ct.vl
          omega) (by rw [List.length_map, List.length_cons]; omega) (.inl rfl)
    rw [← e] at key
    exact key
  rcases h6 with rfl | rfl <;>
  · conv => whnf
    repeat (refine ⟨trivial, ?_⟩; conv => whnf)
    refine ⟨sz1, ?_⟩
    conv => whnf
    repeat (refine ⟨trivial, ?_⟩; conv => whnf)
    rw [ec]
    refine ⟨sz_le (by rw [List.length_map]; show 1 + _ ≤ _; omega), ?_⟩
    exact main _
set_option maxHeartbeats 0 in
theorem p_law_agrees : BodyOk 6 13 B_law_agrees (a_law_agrees C) (S_law_agrees C) := by
  rintro _ R ⟨d, t, o, n1, n2, made, ar, rfl, hd, ct, co, at_, ao, h1, h2, ml, k⟩
  refine ⟨rfl, own0 (ds := [_, _, _, _, _]) rfl, ?_⟩
  have c1 := ct.withN h1
  have c2 := co.withN h2
  have v5 := ct.vl
  conv => whnf
  repeat (refine ⟨trivial, ?_⟩; conv => whnf)
  refine use_maps t o ct co ?_
  conv => whnf
  repeat (refine ⟨trivial, ?_⟩; conv => whnf)
  have usk : ∀ {env : AEnv} {R : RV → AEnv → Prop}, R (.dat (match sameF (withN t n1) (withN o n2) with | some l => tmD l | none => .non)) env → callR (S_same_kind C) [.dat (objD C (withN t n1)), .dat (objD C (withN o n2))] env R := fun q => call_dats [_, _] ⟨withN t n1, withN o n2, ar, rfl, c1, c2, at_, ao, q⟩
  refine usk ?_
  have e : sameF (withN t n1) (withN o n2) = sameF t o := rfl
  rw [e]
  have fin : ∀ A : AEnds, A.rt = (fun r env => (∀ i, r ≠ .at i) ∧ R r (outs [.own d, .dat (csD t), .dat (csD o), .dat (objD C (withN t n1)), .dat (objD C (withN o n2)), .dat (tmD made)] env)) → AgFin C t o n1 n2 made A := fun A eA d2 y6 y7 y8 y9 y10 y11 y12 hd2 => (congrFun (congrFun eA _) _).mpr ⟨nat_ _, k d2 hd2⟩
  cases es : sameF t o with
  | none =>
    have em := same_none ct co es
    have key := fun A => ag5 (A := A) (C := C) (d := d) (x6 := .own (.lst ((mapsF t o).map tmD))) (x7 := .dat .non) ct co h1 h2 hd ml (.inl rfl)
    rw [em] at key ⊢
    conv => whnf
    repeat (refine ⟨trivial, ?_⟩; conv => whnf)
    refine brT rfl ?_
    conv => whnf
    repeat (refine ⟨trivial, ?_⟩; conv => whnf)
    refine brF rfl ?_
    conv => whnf
    repeat (refine ⟨trivial, ?_⟩; conv => whnf)
    refine brF rfl ?_
    conv => whnf
    repeat (refine ⟨trivial, ?_⟩; conv => whnf)
    refine brF rfl ?_
    conv => whnf
    repeat (refine ⟨trivial, ?_⟩; conv => whnf)
    refine brF rfl ?_
    conv => whnf
    repeat (refine ⟨trivial, ?_⟩; conv => whnf)
    refine brF rfl ?_
    exact key _ (fin _ rfl)
  | some l =>
    obtain ⟨lm, ll⟩ := same_some ct co at_ ao es
    have ne : ((mapsF t o).map tmD).isEmpty = false := by
      cases q : mapsF t o with
      | nil => rw [q] at lm; cases lm
      | cons a r => rfl
    conv => whnf
    repeat (refine ⟨trivial, ?_⟩; conv => whnf)
    rw [ne]
    refine brF rfl ?_
    conv => whnf
    repeat (refine ⟨trivial, ?_⟩; conv => whnf)
    refine brF rfl ?_
    conv => whnf
    repeat (refine ⟨trivial, ?_⟩; conv => whnf)
    rw [ne]
    refine brT rfl ?_
    conv => whnf
    repeat (refine ⟨trivial, ?_⟩; conv => whnf)
    refine ⟨"tuple", true, rfl, by decide +kernel, ?_⟩
    conv => whnf
    repeat (refine ⟨trivial, ?_⟩; conv => whnf)
    refine brF rfl ?_
    conv => whnf
    repeat (refine ⟨trivial, ?_⟩; conv => whnf)
    refine notin_lst (tmD_pl l) (fun x hx => by
      obtain ⟨q, _, rfl⟩ := List.mem_map.mp hx
      exact tmD_pl q) ?_
    rw [decide_eq_true (List.mem_map.mpr ⟨l, lm, rfl⟩)]
    conv => whnf
    repeat (refine ⟨trivial, ?_⟩; conv => whnf)
    refine brF rfl ?_
    conv => whnf
    repeat (refine ⟨trivial, ?_⟩; conv => whnf)
    rw [ne]
    refine brT rfl ?_
    conv => whnf
    repeat (refine ⟨trivial, ?_⟩; conv => whnf)
    intro _
    refine ⟨noOwn_one (x := .un) rfl (fun e z => by cases z), sz_le (by rw [List.length_map]; omega), ?_⟩
    refine lc_ind (Ev := fun env => env = agE C t o n1 n2 made d (.own (.lst ((mapsF t o).map tmD))) (.dat (tmD l)) .un .un .un .un .un) (Stp := fun y oz => ∃ a : Int, y = .int a ∧ oz = some (.bl true)) _ ?_ _ _ rfl ?_
    · rintro y hy _ K rfl hK
      obtain ⟨a, ha, rfl⟩ := List.mem_map.mp hy
      conv => whnf
      repeat (refine ⟨trivial, ?_⟩; conv => whnf)
      rw [brP_true]
      conv => whnf
      repeat (refine ⟨trivial, ?_⟩; conv => whnf)
      refine use_isint (.int a) ?_
      conv => whnf
      repeat (refine ⟨trivial, ?_⟩; conv => whnf)
      exact hK _ _ rfl ⟨a, rfl, rfl⟩
    · rintro zs _ ot rfl
      obtain ⟨bs, rfl, ea⟩ := all_bls (p := fun _ : Int => true) int_inj (fun y oz h => h) ot
      conv => whnf
      repeat (refine ⟨trivial, ?_⟩; conv => whnf)
      refine ⟨bs, rfl, ?_⟩
      rw [ea]
      have ea2 : (l.all fun _ : Int => true) = true := List.all_eq_true.mpr fun _ _ => rfl
      rw [ea2]
      conv => whnf
      repeat (refine ⟨trivial, ?_⟩; conv => whnf)
      refine brF rfl ?_
      exact ag5 ct co h1 h2 hd ml (.inl rfl) (fin _ rfl)
theorem use_agrees {env : AEnv} (j : Nat) {d : D} {R : RV → AEnv → Prop} (ar : Str → Nat) (e : env[j]? = some (.own d)) (hd : Dr d) (ct : CaseOk t) (co : CaseOk o) (at_ : Ar ar t) (ao : Ar ar o) (h1 : RowsOk n1) (h2 : RowsOk n2) (ml : made.length ≤ 10)
    (k : ∀ d', Dr d' → R (.dat (.bl true)) (env.set j (.own d'))) : callR (S_law_agrees C) [.at j, .dat (csD t), .dat (csD o), .dat (objD C (withN t n1)), .dat (objD C (withN o n2)), .dat (tmD made)] env R :=
  call_lent j [csD t, csD o, objD C (withN t n1), objD C (withN o n2), tmD made] e ⟨d, t, o, n1, n2, made, ar, rfl, hd, ct, co, at_, ao, h1, h2, ml, fun d' h => k d' h⟩
end
end AL
namespace AL
open PySem L2
/-! P45: the law's end. -/
theorem treeD_pl {t : Tree} (ok : TreeOk t) : Pl 4 (treeD t) := .tup fun d h => by
  simp only [List.mem_cons, List.not_mem_nil, or_false] at h
  rcases h with rfl | rfl | rfl | rfl
  · exact .tup fun d h => (rows_pl ok.rows d h)
  · exact .tup fun d h => (rows_pl ok.nots d h)
  · refine .tup (n := 2) fun d h => ?_
    obtain ⟨s, _, rfl⟩ := List.mem_map.mp h
    refine .tup (n := 1) fun d h => ?_
    simp only [List.mem_cons, List.not_mem_nil, or_false] at h
    rcases h with rfl | rfl | rfl <;> exact .int 1 _
  · exact (tmD_pl _).up (by omega)
section
variable {C : Addr} {A : AEnds} {t o u : Tree} {nt : List Row} {made gone : List Int} {ar : Str → Nat}
abbrev trD (t o u : Tree) (nt : List Row) : D := .tup [treeD (withN t nt), treeD (withN o []), treeD (withN u [])]
theorem tr_pl (ct : CaseOk (withN t nt)) (co : CaseOk (withN o [])) (cu : CaseOk (withN u [])) : Pl 5 (trD t o u nt) := .tup fun d h => by
  simp only [List.mem_cons, List.not_mem_nil, or_false] at h
  rcases h with rfl | rfl | rfl
  · exact treeD_pl ct.tree
  · exact treeD_pl co.tree
  · exact treeD_pl cu.tree
theorem no_rows : RowsOk [] := ⟨Nat.zero_le _, fun r h => nomatch h⟩
set_option maxHeartbeats 0 in
theorem lwG {d : D} {x0 x2 x3 x4 x5 x7 x8 x9 x10 x11 x16 x21 x22 : AV} (hd : Dr d) (ct : CaseOk t) (co : CaseOk o) (cu : CaseOk u) (at_ : Ar ar t) (ao : Ar ar o) (au : Ar ar u) (hn : RowsOk nt) (ml : made.length ≤ 10) (gl : gone.length ≤ 10)
    (fin : ∀ l, A.rt (.dat (.bl true)) (x0 :: l)) :
    law_0_20 C A [x0, .own d, x2, x3, x4, x5, .dat (csD t), x7, x8, x9, x10, x11, .dat (csD o), .dat (tmD made), .dat (tmD gone), .dat (csD u), x16, .dat (objD C (withN t nt)), .dat (objD C (withN o [])), .dat (objD C (withN u [])), .dat (trD t o u nt), x21, x22] := by
  have tt := (ct.withN hn)
  have to := (co.withN no_rows)
  have tu := (cu.withN no_rows)
  conv => whnf
  repeat (refine ⟨trivial, ?_⟩; conv => whnf)
  refine use_agrees (t := t) (o := o) (n1 := nt) (n2 := []) (made := made) 1 ar rfl hd ct co at_ ao hn no_rows ml fun d1 hd1 => ?_
  conv => whnf
  repeat (refine ⟨trivial, ?_⟩; conv => whnf)
  refine brF rfl ?_
  conv => whnf
  repeat (refine ⟨trivial, ?_⟩; conv => whnf)
  refine use_agrees (t := t) (o := u) (n1 := nt) (n2 := []) (made := made) 1 ar rfl hd1 ct cu at_ au hn no_rows ml fun d2 hd2 => ?_
  conv => whnf
  repeat (refine ⟨trivial, ?_⟩; conv => whnf)
  refine brF rfl ?_
  conv => whnf
  repeat (refine ⟨trivial, ?_⟩; conv => whnf)
  refine use_agrees (t := u) (o := t) (n1 := []) (n2 := nt) (made := gone) 1 ar rfl hd2 cu ct au at_ no_rows hn gl fun d3 hd3 => ?_
  conv => whnf
  repeat (refine ⟨trivial, ?_⟩; conv => whnf)
  refine brF rfl ?_
  conv => whnf
  repeat (refine ⟨trivial, ?_⟩; conv => whnf)
  refine use_agrees (t := o) (o := t) (n1 := []) (n2 := nt) (made := gone) 1 ar rfl hd3 co ct ao at_ no_rows hn gl fun d4 hd4 => ?_
  conv => whnf
  repeat (refine ⟨trivial, ?_⟩; conv => whnf)
  refine brF rfl ?_
  conv => whnf
  repeat (refine ⟨trivial, ?_⟩; conv => whnf)
  refine ⟨⟨_, _, rfl, rfl⟩, ?_⟩
  conv => whnf
  repeat (refine ⟨trivial, ?_⟩; conv => whnf)
  refine use_tree (withN t nt) tt.tree ?_
  conv => whnf
  repeat (refine ⟨trivial, ?_⟩; conv => whnf)
  refine ⟨⟨_, _, rfl, rfl⟩, ?_⟩
  conv => whnf
  repeat (refine ⟨trivial, ?_⟩; conv => whnf)
  refine use_tree (withN o []) to.tree ?_
  conv => whnf
  repeat (refine ⟨trivial, ?_⟩; conv => whnf)
  refine ⟨⟨_, _, rfl, rfl⟩, ?_⟩
  conv => whnf
  repeat (refine ⟨trivial, ?_⟩; conv => whnf)
  refine use_tree (withN u []) tu.tree ?_
  conv => whnf
  repeat (refine ⟨trivial, ?_⟩; conv => whnf)
  refine ⟨sz3, ?_⟩
  conv => whnf
  repeat (refine ⟨trivial, ?_⟩; conv => whnf)
  refine eq_pl (tr_pl tt to tu) (tr_pl tt to tu) ?_
  rw [decide_eq_true rfl]
  exact fin _
set_option maxHeartbeats 0 in
theorem lwF {d : D} {x0 x2 x3 x4 x5 x7 x8 x9 x10 x11 x16 x20 x21 x22 : AV} (hd : Dr d) (ct : CaseOk t) (co : CaseOk o) (cu : CaseOk u) (at_ : Ar ar t) (ao : Ar ar o) (au : Ar ar u) (hn : RowsOk nt) (ml : made.length ≤ 10) (gl : gone.length ≤ 10)
    (fin : ∀ l, A.rt (.dat (.bl true)) (x0 :: l)) :
    law_0_19 C A [x0, .own d, x2, x3, x4, x5, .dat (csD t), x7, x8, x9, x10, x11, .dat (csD o), .dat (tmD made), .dat (tmD gone), .dat (csD u), x16, .own (objD C (withN t nt)), .own (objD C (withN o [])), .own (objD C (withN u [])), x20, x21, x22] := by
  have tt := (ct.withN hn)
  have to := (co.withN no_rows)
  have tu := (cu.withN no_rows)
  conv => whnf
  repeat (refine ⟨trivial, ?_⟩; conv => whnf)
  refine ⟨⟨_, _, rfl, rfl⟩, ?_⟩
  conv => whnf
  repeat (refine ⟨trivial, ?_⟩; conv => whnf)
  refine use_tree (withN t nt) tt.tree ?_
  conv => whnf
  repeat (refine ⟨trivial, ?_⟩; conv => whnf)
  refine ⟨⟨_, _, rfl, rfl⟩, ?_⟩
  conv => whnf
  repeat (refine ⟨trivial, ?_⟩; conv => whnf)
  refine use_tree (withN o []) to.tree ?_
  conv => whnf
  repeat (refine ⟨trivial, ?_⟩; conv => whnf)
  refine ⟨⟨_, _, rfl, rfl⟩, ?_⟩
  conv => whnf
  repeat (refine ⟨trivial, ?_⟩; conv => whnf)
  refine use_tree (withN u []) tu.tree ?_
  conv => whnf
  repeat (refine ⟨trivial, ?_⟩; conv => whnf)
  refine ⟨sz3, ?_⟩
  exact lwG (A := A) hd ct co cu at_ ao au hn ml gl fin
end
end AL
namespace AL
open PySem L2
/-! P46: the law, the nots. -/
section
variable {C : Addr} {A : AEnds} {t o u : Tree} {made gone : List Int} {ar : Str → Nat}
theorem use_bodyof {env : AEnv} (t : Tree) (ns : List Row) {R : RV → AEnv → Prop} (ct : CaseOk t) (k : R (.new (objD C (withN t ns))) env) : callR (S_law_body_of C) [.dat (csD t), .dat (.tup (ns.map rowD))] env R :=
  call_dats [_, _] ⟨t, ns, rfl, ct, k⟩
def notR (r : Row) : Row := (r.1, r.2.map fun _ => 50)
set_option maxHeartbeats 0 in
theorem lwE {d : D} {x0 x2 x3 x4 x5 x7 x8 x9 x10 x11 : AV} (hd : Dr d) (ct : CaseOk t) (co : CaseOk o) (cu : CaseOk u) (at_ : Ar ar t) (ao : Ar ar o) (au : Ar ar u) (ml : made.length ≤ 10) (gl : gone.length ≤ 10)
    (fin : ∀ l, A.rt (.dat (.bl true)) (x0 :: l)) :
    law_0_15 C A [x0, .own d, x2, x3, x4, x5, .dat (csD t), x7, x8, x9, x10, x11, .dat (csD o), .dat (tmD made), .dat (tmD gone), .dat (csD u), .un, .un, .un, .un, .un, .un, .un] := by
  have tr := ct.rowsOk
  have rl := tr.1
  have nok : ∀ r ∈ t.rows.map notR, RowOk r := fun r hr => by
    obtain ⟨q, hq, rfl⟩ := List.mem_map.mp hr
    have z := tr.2 q hq
    exact ⟨z.1, by show (q.2.map _).length ≤ 100; rw [List.length_map]; exact z.2⟩
  conv => whnf
  repeat (refine ⟨trivial, ?_⟩; conv => whnf)
  refine ix_tup (by omega) rfl ?_
  conv => whnf
  repeat (refine ⟨trivial, ?_⟩; conv => whnf)
  intro _
  refine ⟨noOwn_one (x := .un) rfl (fun e z => by cases z), sz_le (by rw [List.length_map]; omega), ?_⟩
  refine lc_ind (Ev := fun env => env = [x0, .own d, x2, x3, x4, x5, .dat (csD t), x7, x8, x9, x10, x11, .dat (csD o), .dat (tmD made), .dat (tmD gone), .dat (csD u), .un, .un, .un, .un, .un, .un, .un]) (Stp := fun y oz => ∃ r : Row, y = rowD r ∧ oz = some (rowD (notR r))) _ ?_ _ _ rfl ?_
  · rintro y hy _ K rfl hK
    obtain ⟨r, hr, rfl⟩ := List.mem_map.mp hy
    have r100 := (tr.2 r hr).2
    conv => whnf
    repeat (refine ⟨trivial, ?_⟩; conv => whnf)
    rw [brP_true]
    conv => whnf
    repeat (refine ⟨trivial, ?_⟩; conv => whnf)
    refine ix_tup (by omega) rfl ?_
    conv => whnf
    repeat (refine ⟨trivial, ?_⟩; conv => whnf)
    refine ix_tup (by omega) rfl ?_
    conv => whnf
    repeat (refine ⟨trivial, ?_⟩; conv => whnf)
    intro _
    refine ⟨noOwn_one (x := .un) rfl (fun e z => by cases z), sz_le (by rw [List.length_map]; omega), ?_⟩
    refine lc_ind (Ev := fun env => env = [x0, .own d, x2, x3, x4, x5, .dat (csD t), x7, x8, x9, x10, x11, .dat (csD o), .dat (tmD made), .dat (tmD gone), .dat (csD u), .un, .un, .un, .un, .un, .dat (rowD r), .un]) (Stp := fun y oz => ∃ a : Int, y = .int a ∧ oz = some (.int 50)) _ ?_ _ _ rfl ?_
    · rintro y hy _ K rfl hK
      obtain ⟨a, _, rfl⟩ := List.mem_map.mp hy
      conv => whnf
      repeat (refine ⟨trivial, ?_⟩; conv => whnf)
      rw [brP_true]
      conv => whnf
      repeat (refine ⟨trivial, ?_⟩; conv => whnf)
      exact hK _ _ rfl ⟨a, rfl, rfl⟩
    · rintro zs _ ot rfl
      have ez := ot.map (f := fun _ : Int => D.int 50) fun x oz ⟨u, e1, e2⟩ => e2
      rw [ez]
      conv => whnf
      repeat (refine ⟨trivial, ?_⟩; conv => whnf)
      refine ⟨sz2, ?_⟩
      conv => whnf
      repeat (refine ⟨trivial, ?_⟩; conv => whnf)
      refine hK _ _ rfl ⟨r, rfl, ?_⟩
      unfold notR rowD tmD
      rw [List.map_map]
      rfl
  · rintro zs _ ot rfl
    have ez := ot.map (f := fun r => rowD (notR r)) fun r oz ⟨q, e1, e2⟩ => by
      rw [rowD_inj.mp e1]
      exact e2
    have ez2 : zs = (t.rows.map notR).map rowD := by rw [ez, List.map_map]; rfl
    rw [ez2]
    conv => whnf
    repeat (refine ⟨trivial, ?_⟩; conv => whnf)
    refine use_some 1 ((t.rows.map notR).map rowD) 2 rfl hd rfl (by rw [List.length_map, List.length_map]; omega) (by omega) (fun x hx => by
      obtain ⟨q, hq, rfl⟩ := List.mem_map.mp hx
      exact rowD_pl (nok q hq)) fun l' d1 sb hd1 => ?_
    obtain ⟨ms, rfl, s2⟩ := sub_map sb
    have ec : cutD (ms.map rowD) none (some 2) = (ms.take 2).map rowD := by
      have := cut_min ms 2
      rw [cutD_map, show (some (2 : Int)) = some ((2 : Nat) : Int) from rfl, this]
    conv => whnf
    repeat (refine ⟨trivial, ?_⟩; conv => whnf)
    rw [ec]
    have mok : RowsOk (ms.take 2) := by
      refine ⟨by rw [List.length_take]; have := Nat.min_le_left 2 ms.length; omega, fun r hr => nok r (s2.subset (List.mem_of_mem_take hr))⟩
    have m0 := mok.1
    refine use_unlike ((ms.take 2).map rowD) 2 rfl (by rw [List.length_map]; omega) (by omega) (rows_pl mok) ?_
    have eu : unl [] ((ms.take 2).map rowD) = (unl [] (ms.take 2)).map rowD := by
      have z := unl_map (f := rowD) (fun a b h => rowD_inj.mp h) (ms.take 2) []
      exact z
    rw [eu]
    have uok : RowsOk (unl [] (ms.take 2)) := by
      refine ⟨by have := unl_le (ms.take 2); omega, fun r hr => mok.2 r (in_unl.mp hr)⟩
    conv => whnf
    repeat (refine ⟨trivial, ?_⟩; conv => whnf)
    refine use_bodyof t (unl [] (ms.take 2)) ct ?_
    conv => whnf
    repeat (refine ⟨trivial, ?_⟩; conv => whnf)
    refine ⟨Nat.zero_le _, ?_⟩
    conv => whnf
    repeat (refine ⟨trivial, ?_⟩; conv => whnf)
    refine use_bodyof o [] co ?_
    conv => whnf
    repeat (refine ⟨trivial, ?_⟩; conv => whnf)
    refine ⟨Nat.zero_le _, ?_⟩
    conv => whnf
    repeat (refine ⟨trivial, ?_⟩; conv => whnf)
    refine use_bodyof u [] cu ?_
    exact lwF (A := A) hd1 ct co cu at_ ao au uok ml gl fin
end
end AL
namespace AL
open PySem L2
/-! P47: the law, its beginning. -/
theorem get_ints {l : List Int} {i : Nat} (h : i < l.length) : (l.map D.int)[i]? = some (.int l[i]) := get_tm h
section
variable {C : Addr} {A : AEnds} {t : Tree} {ar : Str → Nat} {tb : List (Str × Nat)} {mn : List (Int × Int)}
set_option maxHeartbeats 0 in
/-- the names and the way back -/
theorem lw1 {vs ys : List Int} {x0 x1 x2 x3 x4 x5 x6 x12 x13 x14 x15 x16 x17 x18 x19 x20 x21 x22 : AV} (nd : vs.Nodup) (ndy : ys.Nodup) (hl : vs.length ≤ ys.length) (h5 : vs.length ≤ 1000) :
    ∀ (left i : Nat) (x11 : AV), i + left = vs.length →
    (∀ y11, A.nx [x0, x1, x2, x3, x4, x5, x6, .own (.lst (vs.map D.int)), .own (.lst (ys.map D.int)), .own (bD (vs.zip (ys.take vs.length))), .own (bD ((ys.take vs.length).zip vs)), y11, x12, x13, x14, x15, x16, x17, x18, x19, x20, x21, x22]) →
    forL (agName 11) (law_1_0 C) A ((List.range' i left).map fun j : Nat => D.int (0 + (j : Int))) [x0, x1, x2, x3, x4, x5, x6, .own (.lst (vs.map D.int)), .own (.lst (ys.map D.int)), .own (bD ((vs.zip (ys.take vs.length)).take i)), .own (bD (((ys.take vs.length).zip vs).take i)), x11, x12, x13, x14, x15, x16, x17, x18, x19, x20, x21, x22]
  | 0, i, x11, h, k => by
    have := k x11
    have e1 : (vs.zip (ys.take vs.length)).length ≤ i := by rw [List.length_zip]; omega
    have e2 : ((ys.take vs.length).zip vs).length ≤ i := by rw [List.length_zip]; omega
    rw [List.take_of_length_le e1, List.take_of_length_le e2]
    exact this
  | left + 1, i, x11, h, k => by
    have hi : i < vs.length := by omega
    have hi2 : i < ys.length := by omega
    have e0 : (0 + (i : Int)) = (i : Int) := by omega
    have lt : vs.length = (ys.take vs.length).length := by rw [List.length_take]; omega
    have hi3 : i < (ys.take vs.length).length := by omega
    have ndt : (ys.take vs.length).Nodup := (List.take_sublist _ _).nodup ndy
    have ety : (ys.take vs.length)[i] = ys[i] := List.getElem_take
    rw [List.range'_succ, List.map_cons, e0]
    conv => whnf
    repeat (refine ⟨trivial, ?_⟩; conv => whnf)
    refine ix_lst (by omega) (by rw [Int.toNat_natCast]; exact get_ints hi2) ?_
    conv => whnf
    repeat (refine ⟨trivial, ?_⟩; conv => whnf)
    refine ix_lst (by omega) (by rw [Int.toNat_natCast]; exact get_ints hi) ?_
    conv => whnf
    repeat (refine ⟨trivial, ?_⟩; conv => whnf)
    refine set_bd rfl (zip_take_nin nd lt hi) (by rw [List.length_take]; omega) ?_
    conv => whnf
    repeat (refine ⟨trivial, ?_⟩; conv => whnf)
    refine ix_lst (by omega) (by rw [Int.toNat_natCast]; exact get_ints hi) ?_
    conv => whnf
    repeat (refine ⟨trivial, ?_⟩; conv => whnf)
    refine ix_lst (by omega) (by rw [Int.toNat_natCast]; exact get_ints hi2) ?_
    conv => whnf
    repeat (refine ⟨trivial, ?_⟩; conv => whnf)
    have nin := zip_take_nin (vs := ys.take vs.length) (is := vs) (i := i) ndt lt.symm hi3
    rw [ety] at nin
    refine set_bd rfl nin (by rw [List.length_take]; omega) ?_
    have e : (vs.zip (ys.take vs.length)).take i ++ [(vs[i], ys[i])] = (vs.zip (ys.take vs.length)).take (i + 1) := by
      rw [← take_more (by rw [List.length_zip]; omega), List.getElem_zip, ety]
    have e' : ((ys.take vs.length).zip vs).take i ++ [(ys[i], vs[i])] = ((ys.take vs.length).zip vs).take (i + 1) := by
      rw [← take_more (by rw [List.length_zip]; omega), List.getElem_zip, ety]
    rw [e, e']
    exact lw1 nd ndy hl h5 left (i + 1) _ (by omega) k
def numL : List Int := [-1, -2, -3, -4, -5, -6, -7, -8]
set_option maxHeartbeats 0 in
theorem lwD {d : D} {x0 x2 x5 x11 : AV} {ys : List Int} (hd : Dr d) (ct : CaseOk t) (bg : Big t) (at_ : Ar ar t) (ha : ∀ p ∈ tb, ar p.1 = p.2) (to : TbOk tb) (mne : mn ≠ []) (mlen : mn.length ≤ 10) (p : ys.Perm numL)
    (fin : ∀ l, A.rt (.dat (.bl true)) (x0 :: l)) :
    law_0_11 C A [x0, .own d, x2, .dat (.lst (tb.map tbD)), .dat (.lst (mn.map prD)), x5, .dat (csD t), .own (.lst ((vars t.rows).map D.int)), .own (.lst (ys.map D.int)), .own (bD ((vars t.rows).zip (ys.take (vars t.rows).length))), .own (bD ((ys.take (vars t.rows).length).zip (vars t.rows))), x11, .un, .un, .un, .un, .un, .un, .un, .un, .un, .un, .un] := by
  have v5 := ct.vl
  have ndn : numL.Nodup := by decide
  have ndy : ys.Nodup := p.nodup_iff.mpr ndn
  have yl : ys.length = 8 := p.length_eq
  have neg : ∀ y ∈ ys, y < 0 := fun y hy => by
    have : ∀ z ∈ numL, z < 0 := by decide
    exact this y (p.mem_iff.mp hy)
  generalize hI : ys.take (vars t.rows).length = is at *
  have il : (vars t.rows).length = is.length := by rw [← hI, List.length_take]; omega
  have nis : is.Nodup := by rw [← hI]; exact (List.take_sublist _ _).nodup ndy
  have negi : ∀ y ∈ is, y < 0 := fun y hy => neg y (by rw [← hI] at hy; exact List.mem_of_mem_take hy)
  obtain ⟨z1, z2⟩ := zip_fst2 il
  obtain ⟨q1, q2⟩ := zip_fst2 il.symm
  have nm : NewNm t ((vars t.rows).zip is) := ⟨z1, by rw [z2]; exact nis, fun p hp => negi _ (by rw [← z2]; exact List.mem_map.mpr ⟨p, hp, rfl⟩)⟩
  have bo := bd_keys z1 (by omega)
  have bo2 : BdOk (is.zip (vars t.rows)) := ⟨by rw [q1]; exact nis, by rw [List.length_zip]; omega, fun p hp => negi _ (by rw [← q1]; exact List.mem_map.mpr ⟨p, hp, rfl⟩)⟩
  conv => whnf
  repeat (refine ⟨trivial, ?_⟩; conv => whnf)
  refine use_exchanged 1 rfl hd ct bg nm fun o d1 co bgo vin aro hd1 => ?_
  rw [z2] at vin
  have w5 := co.vl
  conv => whnf
  repeat (refine ⟨trivial, ?_⟩; conv => whnf)
  refine use_llaid (vars t.rows) ((vars t.rows).zip is) rfl (by omega) bo (by rw [z1]; exact fun x hx _ => hx) ?_
  conv => whnf
  repeat (refine ⟨trivial, ?_⟩; conv => whnf)
  refine ix_tup (by omega) rfl ?_
  conv => whnf
  repeat (refine ⟨trivial, ?_⟩; conv => whnf)
  refine use_variables o.rows rfl co.rowsOk ?_
  conv => whnf
  repeat (refine ⟨trivial, ?_⟩; conv => whnf)
  refine use_llaid (vars o.rows) (is.zip (vars t.rows)) rfl (by omega) bo2 (by rw [q1]; exact fun x hx _ => vin x hx) ?_
  conv => whnf
  repeat (refine ⟨trivial, ?_⟩; conv => whnf)
  refine use_draw 1 rfl hd1 (by omega) (by omega) fun way d2 _ _ hd2 => ?_
  conv => whnf
  repeat (refine ⟨trivial, ?_⟩; conv => whnf)
  refine use_turned 1 rfl hd2 co bgo to mne mlen fun u d3 cu aru hd3 => ?_
  have ao := aro ar at_
  refine lwE (A := A) (ar := ar) hd3 ct co cu at_ ao (aru ar ha ao) ?_ ?_ fin
  · rw [vl_eq, List.length_map]; omega
  · rw [vl_eq, List.length_map]; omega
set_option maxHeartbeats 0 in
theorem lwC {d : D} {x0 x2 x5 : AV} (hd : Dr d) (ct : CaseOk t) (bg : Big t) (at_ : Ar ar t) (ha : ∀ p ∈ tb, ar p.1 = p.2) (to : TbOk tb) (mne : mn ≠ []) (mlen : mn.length ≤ 10)
    (fin : ∀ l, A.rt (.dat (.bl true)) (x0 :: l)) :
    law_0_6 C A [x0, .own d, x2, .dat (.lst (tb.map tbD)), .dat (.lst (mn.map prD)), x5, .dat (csD t), .un, .un, .un, .un, .un, .un, .un, .un, .un, .un, .un, .un, .un, .un, .un, .un] := by
  have v5 := ct.vl
  conv => whnf
  repeat (refine ⟨trivial, ?_⟩; conv => whnf)
  refine ix_tup (by omega) rfl ?_
  conv => whnf
  repeat (refine ⟨trivial, ?_⟩; conv => whnf)
  refine use_variables t.rows rfl ct.rowsOk ?_
  conv => whnf
  repeat (refine ⟨trivial, ?_⟩; conv => whnf)
  refine ⟨sz_le (by simp), ?_⟩
  conv => whnf
  repeat (refine ⟨trivial, ?_⟩; conv => whnf)
  refine use_mixed 1 (numL.map D.int) rfl hd rfl (by simp [numL]) fun l' d1 pm hd1 => ?_
  obtain ⟨ys, rfl, p⟩ := perm_ex pm _ rfl
  have yl : ys.length = 8 := p.length_eq
  have ndy : ys.Nodup := p.nodup_iff.mpr (by decide)
  conv => whnf
  repeat (refine ⟨trivial, ?_⟩; conv => whnf)
  refine ⟨⟨by omega, by rw [List.length_map]; omega⟩, ?_⟩
  rw [Int.toNat_natCast, List.length_map, range_D]
  refine lw1 (vars_nodup t.rows) ndy (by omega) (by omega) _ 0 _ (by omega) fun y11 => ?_
  exact lwD (A := A) hd1 ct bg at_ ha to mne mlen p fin
end
end AL
namespace AL
open PySem L2
/-! P48: the law. -/
section
variable {C : Addr}
def menuL : List (List (Int × Int)) := [[(0, 1000)], [(0, 100), (100, 1000)], [(0, 100), (100, 300), (300, 1000)]]
theorem menu_pick {z : D} (h : z ∈ menuL.map fun mn => D.lst (mn.map prD)) : ∃ mn : List (Int × Int), z = .lst (mn.map prD) ∧ mn ≠ [] ∧ mn.length ≤ 10 := by
  obtain ⟨mn, hm, rfl⟩ := List.mem_map.mp h
  refine ⟨mn, rfl, ?_⟩
  have all : ∀ m ∈ menuL, m ≠ [] ∧ m.length ≤ 10 := by decide
  exact all mn hm
set_option maxHeartbeats 0 in
theorem lwB {A : AEnds} {d : D} {x0 x2 : AV} {tb : List (Str × Nat)} {ar : Str → Nat} (hd : Dr d) (ha : ∀ p ∈ tb, ar p.1 = p.2) (to : TbOk tb) (fin : ∀ l, A.rt (.dat (.bl true)) (x0 :: l)) :
    law_0_3 C A [x0, .own d, x2, .own (.lst (tb.map tbD)), .un, .un, .un, .un, .un, .un, .un, .un, .un, .un, .un, .un, .un, .un, .un, .un, .un, .un, .un] := by
  have go : ∀ (d : D) (mn : List (Int × Int)) (many : Int), Dr d → mn ≠ [] → mn.length ≤ 10 → 1 ≤ many → many ≤ 15 → law_0_5 C A [x0, .own d, x2, .own (.lst (tb.map tbD)), .dat (.lst (mn.map prD)), .dat (.int many), .un, .un, .un, .un, .un, .un, .un, .un, .un, .un, .un, .un, .un, .un, .un, .un, .un] := fun d mn many hd mne ml m1 m2 => by
    conv => whnf
    repeat (refine ⟨trivial, ?_⟩; conv => whnf)
    refine use_drawn 1 rfl hd to m1 m2 mne ml fun t d1 ct r1 r2 w9 r3 art hd1 => ?_
    exact lwC (A := A) (ar := ar) hd1 ct ⟨r1, r2, w9, r3⟩ (art ar ha) ha to mne ml fin
  conv => whnf
  repeat (refine ⟨trivial, ?_⟩; conv => whnf)
  refine ⟨sz2, ?_⟩
  conv => whnf
  repeat (refine ⟨trivial, ?_⟩; conv => whnf)
  refine ⟨sz1, ?_⟩
  conv => whnf
  repeat (refine ⟨trivial, ?_⟩; conv => whnf)
  refine ⟨sz2, ?_⟩
  conv => whnf
  repeat (refine ⟨trivial, ?_⟩; conv => whnf)
  refine ⟨sz2, ?_⟩
  conv => whnf
  repeat (refine ⟨trivial, ?_⟩; conv => whnf)
  refine ⟨sz2, ?_⟩
  conv => whnf
  repeat (refine ⟨trivial, ?_⟩; conv => whnf)
  refine ⟨sz2, ?_⟩
  conv => whnf
  repeat (refine ⟨trivial, ?_⟩; conv => whnf)
  refine ⟨sz2, ?_⟩
  conv => whnf
  repeat (refine ⟨trivial, ?_⟩; conv => whnf)
  refine ⟨sz2, ?_⟩
  conv => whnf
  repeat (refine ⟨trivial, ?_⟩; conv => whnf)
  refine ⟨sz3, ?_⟩
  conv => whnf
  repeat (refine ⟨trivial, ?_⟩; conv => whnf)
  refine ⟨sz3, ?_⟩
  conv => whnf
  repeat (refine ⟨trivial, ?_⟩; conv => whnf)
  refine use_pick 1 (menuL.map fun mn => D.lst (mn.map prD)) rfl hd rfl (by simp [menuL]) (by simp [menuL]) fun z d1 mz hd1 => ?_
  obtain ⟨mn, rfl, mne, ml⟩ := menu_pick mz
  conv => whnf
  repeat (refine ⟨trivial, ?_⟩; conv => whnf)
  refine use_draw 1 rfl hd1 (by omega) (by omega) fun r d2 _ _ hd2 => ?_
  conv => whnf
  repeat (refine ⟨trivial, ?_⟩; conv => whnf)
  refine eq_int ?_
  conv => whnf
  repeat (refine ⟨trivial, ?_⟩; conv => whnf)
  refine brI (fun h => ?_) (fun h => ?_)
  · conv => whnf
    repeat (refine ⟨trivial, ?_⟩; conv => whnf)
    refine use_draw 1 rfl hd2 (by omega) (by omega) fun q d3 q0 q1 hd3 => ?_
    exact go d3 mn (4 + q) hd3 mne ml (by omega) (by omega)
  · conv => whnf
    repeat (refine ⟨trivial, ?_⟩; conv => whnf)
    refine use_draw 1 rfl hd2 (by omega) (by omega) fun q d3 q0 q1 hd3 => ?_
    exact go d3 mn (1 + q) hd3 mne ml (by omega) (by omega)
set_option maxHeartbeats 0 in
theorem p_law : BodyOk 1 23 B_law (a_law C) S_law := by
  rintro _ R ⟨ns, rfl, k⟩
  refine ⟨rfl, ownN (ds := [_]), ?_⟩
  conv => whnf
  repeat (refine ⟨trivial, ?_⟩; conv => whnf)
  refine call_dats (S := S_law_begin) [.scr (ns.map D.int)] ⟨ns, rfl, fun d hd => ?_⟩
  conv => whnf
  repeat (refine ⟨trivial, ?_⟩; conv => whnf)
  refine use_names 1 rfl hd (by omega) (by omega) fun nm d1 nl nok nnd hd1 => ?_
  have nl : nm.length = 2 := nl
  match nm, nl, nok, nnd with
  | [a, b], _, nok, nnd =>
    have ab : a ≠ b := fun z => by
      rw [z] at nnd
      rw [List.nodup_cons] at nnd
      exact nnd.1 List.mem_cons_self
    conv => whnf
    repeat (refine ⟨trivial, ?_⟩; conv => whnf)
    refine ix_lst (by omega) rfl ?_
    conv => whnf
    repeat (refine ⟨trivial, ?_⟩; conv => whnf)
    refine use_draw 1 rfl hd1 (by omega) (by omega) fun r d2 r0 r1 hd2 => ?_
    obtain ⟨i, rfl⟩ := toNat_eq r0
    conv => whnf
    repeat (refine ⟨trivial, ?_⟩; conv => whnf)
    refine ⟨sz2, ?_⟩
    conv => whnf
    repeat (refine ⟨trivial, ?_⟩; conv => whnf)
    refine ix_lst (by omega) rfl ?_
    conv => whnf
    repeat (refine ⟨trivial, ?_⟩; conv => whnf)
    refine use_draw 1 rfl hd2 (by omega) (by omega) fun r d3 q0 q1 hd3 => ?_
    obtain ⟨j, rfl⟩ := toNat_eq q0
    conv => whnf
    repeat (refine ⟨trivial, ?_⟩; conv => whnf)
    refine ⟨sz2, ?_⟩
    conv => whnf
    repeat (refine ⟨trivial, ?_⟩; conv => whnf)
    refine ⟨sz2, ?_⟩
    have e : [D.tup [.str a, .int (1 + (i : Int))], D.tup [.str b, .int (1 + (j : Int))]] = [(a, i + 1), (b, j + 1)].map tbD := by
      unfold tbD
      have e1 : (1 + (i : Int)) = ((i + 1 : Nat) : Int) := by omega
      have e2 : (1 + (j : Int)) = ((j + 1 : Nat) : Int) := by omega
      rw [e1, e2]
      rfl
    have ha : ∀ p ∈ [(a, i + 1), (b, j + 1)], (fun s => if s = a then i + 1 else j + 1) p.1 = p.2 := fun p hp => by
      simp only [List.mem_cons, List.not_mem_nil, or_false] at hp
      rcases hp with rfl | rfl
      · exact if_pos rfl
      · exact if_neg fun z => ab z.symm
    have to : TbOk [(a, i + 1), (b, j + 1)] := by
      refine ⟨by simp, by simp, nnd, fun p hp => ?_⟩
      simp only [List.mem_cons, List.not_mem_nil, or_false] at hp
      rcases hp with rfl | rfl
      · exact ⟨nok a List.mem_cons_self, by show 1 ≤ i + 1; omega, by show i + 1 ≤ 4; omega⟩
      · exact ⟨nok b (List.mem_cons_of_mem _ List.mem_cons_self), by show 1 ≤ j + 1; omega, by show j + 1 ≤ 4; omega⟩
    have key := lwB (C := C) (A := { nx := fun env => R (.dat .non) (outs [.dat (.scr (ns.map D.int))] env), rt := fun r env => (∀ i, r ≠ .at i) ∧ R r (outs [.dat (.scr (ns.map D.int))] env) }) (x0 := .dat (.scr (ns.map D.int))) (x2 := .own (.lst ([a, b].map D.str))) (ar := fun s => if s = a then i + 1 else j + 1) hd3 ha to fun l => ⟨nat_ _, k⟩
    rw [← e] at key
    exact key
end
end AL
namespace AL
open PySem L2
def top (i : Nat) : Stmt := PySem.Challenge.pw_planassize_k41_kinds_exactly_by_own_maps.main.body.getD i (.Pass ⟨0, 0, 0, 0⟩)
abbrev st_Body_tree : Stmt := (inClass (top 13) 1)
abbrev st_law_is_int : Stmt := (top 18)
abbrev st_law_laid : Stmt := (top 24)
abbrev st_law_unlike : Stmt := (top 22)
abbrev st_law_is_map : Stmt := (top 25)
abbrev st_law_variables : Stmt := (top 23)
abbrev st_law_maps : Stmt := (top 26)
abbrev st_law_draw : Stmt := (top 16)
abbrev st_law_mixed : Stmt := (top 20)
abbrev st_law_reads : Stmt := (top 27)
abbrev st_law_pick : Stmt := (top 17)
abbrev st_law_spoilt : Stmt := (top 33)
abbrev st_Body_variables : Stmt := (inClass (top 13) 4)
abbrev st_Body_span : Stmt := (inClass (top 13) 2)
abbrev st_put_kinds : Stmt := (top 9)
abbrev st_matchD : Stmt := (top 8)
abbrev st_outline : Stmt := (top 7)
abbrev st_same_kind : Stmt := (top 10)
abbrev st_laid : Stmt := (top 4)
abbrev st_is_whole : Stmt := (top 2)
abbrev st_names_from : Stmt := (top 5)
abbrev st_shows_kind : Stmt := (top 11)
abbrev st_law_agrees : Stmt := (top 34)
abbrev st_law_begin : Stmt := (top 15)
abbrev st_Body_init : Stmt := (inClass (top 13) 0)
abbrev st_law_body_of : Stmt := (top 32)
abbrev st_law_whole : Stmt := (top 28)
abbrev st_law_drawn : Stmt := (top 29)
abbrev st_law_exchanged : Stmt := (top 30)
abbrev st_law_names : Stmt := (top 21)
abbrev st_law_some : Stmt := (top 19)
abbrev st_law_turned : Stmt := (top 31)
abbrev st_law : Stmt := (top 35)
structure Adr where
  C_Body : Addr
  f_Body_tree : Addr
  fd_Body_tree : FuncData
  f_law_is_int : Addr
  fd_law_is_int : FuncData
  f_law_laid : Addr
  fd_law_laid : FuncData
  f_law_unlike : Addr
  fd_law_unlike : FuncData
  f_law_is_map : Addr
  fd_law_is_map : FuncData
  f_law_variables : Addr
  fd_law_variables : FuncData
  f_law_maps : Addr
  fd_law_maps : FuncData
  f_law_draw : Addr
  fd_law_draw : FuncData
  f_law_mixed : Addr
  fd_law_mixed : FuncData
  f_law_reads : Addr
  fd_law_reads : FuncData
  f_law_pick : Addr
  fd_law_pick : FuncData
  f_law_spoilt : Addr
  fd_law_spoilt : FuncData
  f_Body_variables : Addr
  fd_Body_variables : FuncData
  f_Body_span : Addr
  fd_Body_span : FuncData
  f_put_kinds : Addr
  fd_put_kinds : FuncData
  f_matchD : Addr
  fd_matchD : FuncData
  f_outline : Addr
  fd_outline : FuncData
  f_same_kind : Addr
  fd_same_kind : FuncData
  f_laid : Addr
  fd_laid : FuncData
  f_is_whole : Addr
  fd_is_whole : FuncData
  f_names_from : Addr
  fd_names_from : FuncData
  f_shows_kind : Addr
  fd_shows_kind : FuncData
  f_law_agrees : Addr
  fd_law_agrees : FuncData
  f_law_begin : Addr
  fd_law_begin : FuncData
  f_Body_init : Addr
  fd_Body_init : FuncData
  f_law_body_of : Addr
  fd_law_body_of : FuncData
  f_law_whole : Addr
  fd_law_whole : FuncData
  f_law_drawn : Addr
  fd_law_drawn : FuncData
  f_law_exchanged : Addr
  fd_law_exchanged : FuncData
  f_law_names : Addr
  fd_law_names : FuncData
  f_law_some : Addr
  fd_law_some : FuncData
  f_law_turned : Addr
  fd_law_turned : FuncData
  f_law : Addr
  fd_law : FuncData
structure Txt (K : Fg) (mg : Str → Option Value) (Z : Adr) : Prop where
  c_Body : ClsAt K mg "Body" "Body.__init__" st_Body_init ["self", "rows", "nots", "spans", "wide"] Z.C_Body Z.f_Body_init Z.fd_Body_init
  Body_tree : MethAt K Z.C_Body "tree" "Body.tree" st_Body_tree ["self"] Z.f_Body_tree Z.fd_Body_tree
  law_is_int : DefAt K mg "_law_is_int" st_law_is_int ["thing"] Z.f_law_is_int Z.fd_law_is_int
  law_laid : DefAt K mg "_law_laid" st_law_laid ["terms", "names"] Z.f_law_laid Z.fd_law_laid
  law_unlike : DefAt K mg "_law_unlike" st_law_unlike ["row"] Z.f_law_unlike Z.fd_law_unlike
  law_is_map : DefAt K mg "_law_is_map" st_law_is_map ["case", "other", "names"] Z.f_law_is_map Z.fd_law_is_map
  law_variables : DefAt K mg "_law_variables" st_law_variables ["rows"] Z.f_law_variables Z.fd_law_variables
  law_maps : DefAt K mg "_law_maps" st_law_maps ["case", "other"] Z.f_law_maps Z.fd_law_maps
  law_draw : DefAt K mg "_law_draw" st_law_draw ["d", "many"] Z.f_law_draw Z.fd_law_draw
  law_mixed : DefAt K mg "_law_mixed" st_law_mixed ["d", "row"] Z.f_law_mixed Z.fd_law_mixed
  law_reads : DefAt K mg "_law_reads" st_law_reads ["case", "other", "images"] Z.f_law_reads Z.fd_law_reads
  law_pick : DefAt K mg "_law_pick" st_law_pick ["d", "row"] Z.f_law_pick Z.fd_law_pick
  law_spoilt : DefAt K mg "_law_spoilt" st_law_spoilt ["d", "images", "theirs"] Z.f_law_spoilt Z.fd_law_spoilt
  Body_variables : MethAt K Z.C_Body "variables" "Body.variables" st_Body_variables ["self"] Z.f_Body_variables Z.fd_Body_variables
  Body_span : MethAt K Z.C_Body "span" "Body.span" st_Body_span ["self", "term"] Z.f_Body_span Z.fd_Body_span
  put_kinds : DefAt K mg "put_kinds" st_put_kinds ["case", "names", "terms", "other", "images"] Z.f_put_kinds Z.fd_put_kinds
  matchD : DefAt K mg "match" st_matchD ["case", "place", "names", "other", "told"] Z.f_matchD Z.fd_matchD
  outline : DefAt K mg "outline" st_outline ["case"] Z.f_outline Z.fd_outline
  same_kind : DefAt K mg "same_kind" st_same_kind ["case", "other"] Z.f_same_kind Z.fd_same_kind
  laid : DefAt K mg "laid" st_laid ["terms", "names"] Z.f_laid Z.fd_laid
  is_whole : DefAt K mg "is_whole" st_is_whole ["value"] Z.f_is_whole Z.fd_is_whole
  names_from : DefAt K mg "names_from" st_names_from ["body", "images"] Z.f_names_from Z.fd_names_from
  shows_kind : DefAt K mg "shows_kind" st_shows_kind ["case", "other", "images"] Z.f_shows_kind Z.fd_shows_kind
  law_agrees : DefAt K mg "_law_agrees" st_law_agrees ["d", "case", "other", "first", "second", "made"] Z.f_law_agrees Z.fd_law_agrees
  law_begin : DefAt K mg "_law_begin" st_law_begin ["script"] Z.f_law_begin Z.fd_law_begin
  law_body_of : DefAt K mg "_law_body_of" st_law_body_of ["case", "nots"] Z.f_law_body_of Z.fd_law_body_of
  law_whole : DefAt K mg "_law_whole" st_law_whole ["rows", "cells", "wide"] Z.f_law_whole Z.fd_law_whole
  law_drawn : DefAt K mg "_law_drawn" st_law_drawn ["d", "tables", "many", "menu"] Z.f_law_drawn Z.fd_law_drawn
  law_exchanged : DefAt K mg "_law_exchanged" st_law_exchanged ["d", "case", "names"] Z.f_law_exchanged Z.fd_law_exchanged
  law_names : DefAt K mg "_law_names" st_law_names ["d", "many"] Z.f_law_names Z.fd_law_names
  law_some : DefAt K mg "_law_some" st_law_some ["d", "row", "least"] Z.f_law_some Z.fd_law_some
  law_turned : DefAt K mg "_law_turned" st_law_turned ["d", "case", "way", "tables", "menu"] Z.f_law_turned Z.fd_law_turned
  law : DefAt K mg "law" st_law ["script"] Z.f_law Z.fd_law
  n_Body_nots : NoAttr K Z.C_Body "nots"
  n_Body_rows : NoAttr K Z.C_Body "rows"
  n_Body_spans : NoAttr K Z.C_Body "spans"
  n_Body_wide : NoAttr K Z.C_Body "wide"
  no_all : mg "all" = none
  no_bool : mg "bool" = none
  no_dict : mg "dict" = none
  no_int : mg "int" = none
  no_isinstance : mg "isinstance" = none
  no_len : mg "len" = none
  no_list : mg "list" = none
  no_min : mg "min" = none
  no_range : mg "range" = none
  no_set : mg "set" = none
  no_sorted : mg "sorted" = none
  no_tuple : mg "tuple" = none
  no_zip : mg "zip" = none
section
variable {P : Program} {w : World} {K : Fg} {mg : Str → Option Value} {base : Heap} {Z : Adr}
abbrev N_Body_tree : List Str := ["self", "spans", "term"]
theorem sc_Body_tree : FnScope N_Body_tree ["self"] (defScope st_Body_tree) := ⟨rfl, rfl, rfl, by decide +kernel, rfl, by decide +kernel, by decide +kernel⟩
theorem ok_Body_tree (T : Txt K mg Z) : FnOk P w K mg base CX0 1 Z.f_Body_tree Z.fd_Body_tree ["self"] (toSp K (S_Body_tree Z.C_Body)) :=
  fn_of (N := N_Body_tree) (B := B_Body_tree) (a := a_Body_tree Z.C_Body) (k := 0) T.Body_tree.fn sc_Body_tree (by decide) (fun cdv A outer s H E hr => have sc := sc_Body_tree; by
    unfold a_Body_tree Body_tree_0_0 Body_tree_0_1
    exact (ass_cons (as_set (i := 1) sc.nd rfl (Or.inl rfl) (ae_rdT call_tuple_of (rs_tuple _) rfl T.no_tuple (by decide +kernel) (ae_lc (own := [("term", 2)]) rfl sc.nd (ai_seq (ae_sortedDR rfl (ae_fld T.c_Body.cl T.n_Body_spans (av 0)) rfl T.no_sorted)) (blkOk_by (own := [("term", 2)]) (N := N_Body_tree) (sc := (defScope st_Body_tree)) (by first | decide +kernel | rfl)) gloc_name (fun _ _ _ _ _ => (ag_name 2 sc.nd rfl (Or.inl rfl))) (fun _ _ _ _ _ => ats_nil) (fun _ _ _ _ _ => (ae_tup (aa_consD (av 2) (aa_consD (ae_ix hr (ae_ix hr (ae_fld T.c_Body.cl T.n_Body_spans (av 0)) (av 2)) ae_int) (aa_consD (ae_ix hr (ae_ix hr (ae_fld T.c_Body.cl T.n_Body_spans (av 0)) (av 2)) ae_int) aa_nil))))))))
      (ass_one (as_ret (ae_tup (aa_consD (ae_fld T.c_Body.cl T.n_Body_rows (av 0)) (aa_consD (ae_fld T.c_Body.cl T.n_Body_nots (av 0)) (aa_consD (av 1) (aa_consD (ae_fld T.c_Body.cl T.n_Body_wide (av 0)) aa_nil))))))))) p_Body_tree
abbrev N_law_is_int : List Str := ["thing"]
theorem sc_law_is_int : FnScope N_law_is_int ["thing"] (defScope st_law_is_int) := ⟨rfl, rfl, rfl, by decide +kernel, rfl, by decide +kernel, by decide +kernel⟩
theorem ok_law_is_int (T : Txt K mg Z) : FnOk P w K mg base CX0 1 Z.f_law_is_int Z.fd_law_is_int ["thing"] (toSp K S_law_is_int) :=
  fn_of (N := N_law_is_int) (B := B_law_is_int) (a := a_law_is_int) (k := 0) T.law_is_int.fn sc_law_is_int (by decide) (fun cdv A outer s H E hr => have sc := sc_law_is_int; by
    unfold a_law_is_int law_is_int_0_0
    exact (ass_one (as_ret (ae_and (ae_isi (T := "int") (av 0) rfl T.no_isinstance rfl T.no_int (by decide +kernel)) (ae_one (ae_notB (ae_isi (T := "bool") (av 0) rfl T.no_isinstance rfl T.no_bool (by decide +kernel)))))))) p_law_is_int
abbrev N_law_laid : List Str := ["terms", "names", "term"]
theorem sc_law_laid : FnScope N_law_laid ["terms", "names"] (defScope st_law_laid) := ⟨rfl, rfl, rfl, by decide +kernel, rfl, by decide +kernel, by decide +kernel⟩
theorem ok_law_laid (T : Txt K mg Z) : FnOk P w K mg base CX0 1 Z.f_law_laid Z.fd_law_laid ["terms", "names"] (toSp K S_law_laid) :=
  fn_of (N := N_law_laid) (B := B_law_laid) (a := a_law_laid) (k := 0) T.law_laid.fn sc_law_laid (by decide) (fun cdv A outer s H E hr => have sc := sc_law_laid; by
    unfold a_law_laid law_laid_0_0
    exact (ass_one (as_ret (ae_rdT call_tuple_of (rs_tuple _) rfl T.no_tuple (by decide +kernel) (ae_lc (own := [("term", 2)]) rfl sc.nd (ai_seq (av 0)) (blkOk_by (own := [("term", 2)]) (N := N_law_laid) (sc := (defScope st_law_laid)) (by first | decide +kernel | rfl)) gloc_name (fun _ _ _ _ _ => (ag_name 2 sc.nd rfl (Or.inl rfl))) (fun _ _ _ _ _ => ats_nil) (fun _ _ _ _ _ => (ae_if (at_ge (av 2) ae_int) (av 2) (ae_ix hr (av 1) (av 2))))))))) p_law_laid
abbrev N_law_unlike : List Str := ["row", "told", "thing"]
theorem sc_law_unlike : FnScope N_law_unlike ["row"] (defScope st_law_unlike) := ⟨rfl, rfl, rfl, by decide +kernel, rfl, by decide +kernel, by decide +kernel⟩
theorem ok_law_unlike (T : Txt K mg Z) : FnOk P w K mg base CX0 1 Z.f_law_unlike Z.fd_law_unlike ["row"] (toSp K S_law_unlike) :=
  fn_of (N := N_law_unlike) (B := B_law_unlike) (a := a_law_unlike) (k := 0) T.law_unlike.fn sc_law_unlike (by decide) (fun cdv A outer s H E hr => have sc := sc_law_unlike; by
    unfold a_law_unlike law_unlike_0_0 law_unlike_0_1 law_unlike_0_2 law_unlike_1_0 law_unlike_2_0
    exact (ass_cons (as_set (i := 1) sc.nd rfl (Or.inl rfl) (ae_lst aa_nil))
      (ass_cons (as_for .never rfl (ai_seq (av 0)) (ag_name 2 sc.nd rfl (Or.inl rfl)) (ass_one (as_if (at_notIn hr (av 2) (av 1)) (ass_one (as_expr (ae_mut 1 PySem.F.slot_list_append PySem.F.type_list_append mt_append (ms_append _) (aa_consD (av 2) aa_nil)))) ass_nil)))
      (ass_one (as_ret (av 1)))))) p_law_unlike
abbrev N_law_is_map : List Str := ["case", "other", "names", "images", "term", "rows", "cells", "wide", "row"]
theorem sc_law_is_map : FnScope N_law_is_map ["case", "other", "names"] (defScope st_law_is_map) := ⟨rfl, rfl, rfl, by decide +kernel, rfl, by decide +kernel, by decide +kernel⟩
theorem ok_law_is_map (T : Txt K mg Z) : FnOk P w K mg base CX0 2 Z.f_law_is_map Z.fd_law_is_map ["case", "other", "names"] (toSp K S_law_is_map) :=
  fn_of (N := N_law_is_map) (B := B_law_is_map) (a := a_law_is_map) (k := 1) T.law_is_map.fn sc_law_is_map (by decide) (fun cdv A outer s H E hr => have sc := sc_law_is_map; by
    unfold a_law_is_map law_is_map_0_0 law_is_map_0_1 law_is_map_0_2 law_is_map_0_3 law_is_map_0_4 law_is_map_0_5 law_is_map_4_0 law_is_map_2_0 law_is_map_3_0 law_is_map_1_0
    exact (ass_cons (as_asg (av 0) (ag_tup rfl (ags_cons (ag_name 5 sc.nd rfl (Or.inl rfl)) (ags_cons (ag_name 6 sc.nd rfl (Or.inl rfl)) (ags_cons (ag_name 7 sc.nd rfl (Or.inl rfl)) ags_nil)))))
      (ass_cons (as_setLc (i := 3) (own := [("term", 4)]) rfl sc.nd rfl rfl (sw_true rfl rfl rfl (by decide +kernel)) (ai_seq (av 2)) (blkOk_by (own := [("term", 4)]) (N := N_law_is_map) (sc := (defScope st_law_is_map)) (by first | decide +kernel | rfl)) gloc_name (fun _ _ _ _ _ => (ag_name 4 sc.nd rfl (Or.inl rfl))) (fun _ _ _ _ _ => ats_nil) (fun _ _ _ _ _ => (ae_ix hr (av 2) (av 4))))
      (ass_cons (as_if (at_ne hr (ae_rdB call_len (rs_len _) rfl T.no_len (by decide +kernel) (ae_fn (ok_law_unlike T) (hr.mono (by decide)) rfl T.law_unlike.mg T.law_unlike.kp T.law_unlike.bi (aa_consD (av 3) aa_nil))) (ae_rdB call_len (rs_len _) rfl T.no_len (by decide +kernel) (av 3))) (ass_one (as_ret ae_bl)) ass_nil)
      (ass_cons (as_for .never rfl (ai_seq (av 2)) (ag_name 4 sc.nd rfl (Or.inl rfl)) (ass_one (as_if (AW.at' (aw_or (at_notIn hr (ae_ix hr (av 2) (av 4)) (ae_ix hr (av 1) ae_int)) (aw_or1 (at_ne hr (ae_ix hr (ae_ix hr (av 1) ae_int) (ae_ix hr (av 2) (av 4))) (ae_ix hr (av 6) (av 4)))))) (ass_one (as_ret ae_bl)) ass_nil)))
      (ass_cons (as_if (at_ne hr (ae_fn (ok_law_laid T) (hr.mono (by decide)) rfl T.law_laid.mg T.law_laid.kp T.law_laid.bi (aa_consD (av 7) (aa_consD (av 2) aa_nil))) (ae_ix hr (av 1) ae_int)) (ass_one (as_ret ae_bl)) ass_nil)
      (ass_one (as_ret (ae_eq hr (ae_rdB (cr_sortR hr) (rs_sortD _) rfl T.no_sorted (by decide +kernel) (ae_lc (own := [("row", 8)]) rfl sc.nd (ai_seq (av 5)) (blkOk_by (own := [("row", 8)]) (N := N_law_is_map) (sc := (defScope st_law_is_map)) (by first | decide +kernel | rfl)) gloc_name (fun _ _ _ _ _ => (ag_name 8 sc.nd rfl (Or.inl rfl))) (fun _ _ _ _ _ => ats_nil) (fun _ _ _ _ _ => (ae_tup (aa_consD (ae_ix hr (av 8) ae_int) (aa_consD (ae_fn (ok_law_laid T) (hr.mono (by decide)) rfl T.law_laid.mg T.law_laid.kp T.law_laid.bi (aa_consD (ae_ix hr (av 8) ae_int) (aa_consD (av 2) aa_nil))) aa_nil)))))) (ae_rdB (cr_sortR hr) (rs_sortD _) rfl T.no_sorted (by decide +kernel) (ae_ix hr (av 1) ae_int))))))))))) p_law_is_map
abbrev N_law_variables : List Str := ["rows", "told", "row", "term"]
theorem sc_law_variables : FnScope N_law_variables ["rows"] (defScope st_law_variables) := ⟨rfl, rfl, rfl, by decide +kernel, rfl, by decide +kernel, by decide +kernel⟩
theorem ok_law_variables (T : Txt K mg Z) : FnOk P w K mg base CX0 1 Z.f_law_variables Z.fd_law_variables ["rows"] (toSp K S_law_variables) :=
  fn_of (N := N_law_variables) (B := B_law_variables) (a := a_law_variables) (k := 0) T.law_variables.fn sc_law_variables (by decide) (fun cdv A outer s H E hr => have sc := sc_law_variables; by
    unfold a_law_variables law_variables_0_0 law_variables_0_1 law_variables_0_2 law_variables_1_0 law_variables_2_0 law_variables_3_0
    exact (ass_cons (as_set (i := 1) sc.nd rfl (Or.inl rfl) (ae_lst aa_nil))
      (ass_cons (as_forX 0 (as_for .never rfl (ai_seq (av 0)) (ag_name 2 sc.nd rfl (Or.inl rfl)) (ass_one (as_for .never rfl (ai_seq (ae_ix hr (av 2) ae_int)) (ag_name 3 sc.nd rfl (Or.inl rfl)) (ass_one (as_if (AW.at' (aw_and (at_lt (av 3) ae_int) (aw_and1 (at_notIn hr (av 3) (av 1))))) (ass_one (as_expr (ae_mut 1 PySem.F.slot_list_append PySem.F.type_list_append mt_append (ms_append _) (aa_consD (av 3) aa_nil)))) ass_nil))))) (as_forO 0 .never rfl (ag_name 2 sc.nd rfl (Or.inl rfl)) (ass_one (as_for .never rfl (ai_seq (ae_ix hr (av 2) ae_int)) (ag_name 3 sc.nd rfl (Or.inl rfl)) (ass_one (as_if (AW.at' (aw_and (at_lt (av 3) ae_int) (aw_and1 (at_notIn hr (av 3) (av 1))))) (ass_one (as_expr (ae_mut 1 PySem.F.slot_list_append PySem.F.type_list_append mt_append (ms_append _) (aa_consD (av 3) aa_nil)))) ass_nil))))))
      (ass_one (as_ret (av 1)))))) p_law_variables
abbrev N_law_maps : List Str := ["case", "other", "maps", "term", "mine", "theirs", "more", "names", "taken", "image", "one", "told"]
theorem sc_law_maps : FnScope N_law_maps ["case", "other"] (defScope st_law_maps) := ⟨rfl, rfl, rfl, by decide +kernel, rfl, by decide +kernel, by decide +kernel⟩
theorem ok_law_maps (T : Txt K mg Z) : FnOk P w K mg base CX0 3 Z.f_law_maps Z.fd_law_maps ["case", "other"] (toSp K S_law_maps) :=
  fn_of (N := N_law_maps) (B := B_law_maps) (a := a_law_maps) (k := 2) T.law_maps.fn sc_law_maps (by decide) (fun cdv A outer s H E hr => have sc := sc_law_maps; by
    unfold a_law_maps law_maps_0_0 law_maps_0_1 law_maps_0_2 law_maps_0_3 law_maps_0_4 law_maps_2_0 law_maps_2_1 law_maps_2_2 law_maps_3_0 law_maps_3_1 law_maps_4_0 law_maps_5_0 law_maps_5_1 law_maps_5_2 law_maps_1_0
    exact (ass_cons (as_parN rfl (agn_cons 4 sc.nd rfl (Or.inr rfl) (agn_cons 5 sc.nd rfl (Or.inl rfl) agn_nil)) (an_cons (ae_fn (ok_law_variables T) (hr.mono (by decide)) rfl T.law_variables.mg T.law_variables.kp T.law_variables.bi (aa_consD (ae_ix hr (av 0) ae_int) aa_nil)) (an_cons (ae_fn (ok_law_variables T) (hr.mono (by decide)) rfl T.law_variables.mg T.law_variables.kp T.law_variables.bi (aa_consD (ae_ix hr (av 1) ae_int) aa_nil)) an_nil)))
      (ass_cons (as_if (at_ne hr (ae_rdB call_len (rs_len _) rfl T.no_len (by decide +kernel) (av 4)) (ae_rdB call_len (rs_len _) rfl T.no_len (by decide +kernel) (av 5))) (ass_one (as_ret (ae_lst aa_nil))) ass_nil)
      (ass_cons (as_set (i := 2) sc.nd rfl (Or.inl rfl) (ae_lst (aa_consD ae_newK aa_nil)))
      (ass_cons (as_for .never rfl (ai_seq (av 4)) (ag_name 3 sc.nd rfl (Or.inl rfl)) (ass_cons (as_set (i := 6) sc.nd rfl (Or.inl rfl) (ae_lst aa_nil))
      (ass_cons (as_for .never rfl (ai_seq (av 2)) (ag_name 7 sc.nd rfl (Or.inr rfl)) (ass_cons (as_setLc (i := 8) (own := [("one", 10)]) rfl sc.nd rfl rfl (sw_true rfl rfl rfl (by decide +kernel)) (ai_seq (av 7)) (blkOk_by (own := [("one", 10)]) (N := N_law_maps) (sc := (defScope st_law_maps)) (by first | decide +kernel | rfl)) gloc_name (fun _ _ _ _ _ => (ag_name 10 sc.nd rfl (Or.inl rfl))) (fun _ _ _ _ _ => ats_nil) (fun _ _ _ _ _ => (ae_ix hr (av 7) (av 10))))
      (ass_one (as_for .never rfl (ai_seq (av 5)) (ag_name 9 sc.nd rfl (Or.inl rfl)) (ass_one (as_if (AW.at' (aw_and (at_notIn hr (av 9) (av 8)) (aw_and1 (at_eq hr (ae_ix hr (ae_ix hr (av 1) ae_int) (av 9)) (ae_ix hr (ae_ix hr (av 0) ae_int) (av 3)))))) (ass_cons (as_set (i := 11) sc.nd rfl (Or.inl rfl) (ae_rdT call_dictD (rs_dict _) rfl T.no_dict (by decide +kernel) (av 7)))
      (ass_cons (as_asg (av 9) (ag_sub hr (av 11) (av 3)))
      (ass_one (as_expr (ae_mut 6 PySem.F.slot_list_append PySem.F.type_list_append mt_append (ms_append _) (aa_consD (av 11) aa_nil)))))) ass_nil))))))
      (ass_one (as_set (i := 2) sc.nd rfl (Or.inl rfl) (av 6))))))
      (ass_one (as_ret (ae_lc (own := [("names", 7)]) rfl sc.nd (ai_seq (av 2)) (blkOk_by (own := [("names", 7)]) (N := N_law_maps) (sc := (defScope st_law_maps)) (by first | decide +kernel | rfl)) gloc_name (fun _ _ _ _ _ => (ag_name 7 sc.nd rfl (Or.inl rfl))) (fun _ _ _ _ _ => (ats_one (at_tru (ae_fn (ok_law_is_map T) (hr.mono (by decide)) rfl T.law_is_map.mg T.law_is_map.kp T.law_is_map.bi (aa_consD (av 0) (aa_consD (av 1) (aa_consD (av 7) aa_nil))))))) (fun _ _ _ _ _ => (ae_fn (ok_law_laid T) (hr.mono (by decide)) rfl T.law_laid.mg T.law_laid.kp T.law_laid.bi (aa_consD (av 4) (aa_consD (av 7) aa_nil)))))))))))) p_law_maps
abbrev N_law_draw : List Str := ["d", "many", "told", "cell"]
theorem sc_law_draw : FnScope N_law_draw ["d", "many"] (defScope st_law_draw) := ⟨rfl, rfl, rfl, by decide +kernel, rfl, by decide +kernel, by decide +kernel⟩
theorem ok_law_draw (T : Txt K mg Z) : FnOk P w K mg base CX0 1 Z.f_law_draw Z.fd_law_draw ["d", "many"] (toSp K S_law_draw) :=
  fn_of (N := N_law_draw) (B := B_law_draw) (a := a_law_draw) (k := 0) T.law_draw.fn sc_law_draw (by decide) (fun cdv A outer s H E hr => have sc := sc_law_draw; by
    unfold a_law_draw law_draw_0_0 law_draw_0_1 law_draw_0_2 law_draw_0_3 law_draw_0_4 law_draw_0_5 law_draw_2_0 law_draw_2_1 law_draw_2_2 law_draw_2_3 law_draw_3_0 law_draw_3_1 law_draw_1_0 law_draw_1_1 law_draw_1_2
    exact (ass_cons (as_asg (ae_add (ae_ix hr (av 0) ae_str) ae_int) (ag_sub hr (av 0) ae_str))
      (ass_cons (as_if (at_gt (ae_ix hr (av 0) ae_str) ae_int) (ass_cons (as_set (i := 2) sc.nd rfl (Or.inl rfl) (ae_mod (ae_rdT call_int1 (rs_int _) rfl T.no_int (by decide +kernel) (ae_ix hr (av 0) ae_str)) (av 1)))
      (ass_cons (as_asg (ae_div (ae_ix hr (av 0) ae_str) (av 1)) (ag_sub hr (av 0) ae_str))
      (ass_one (as_ret (av 2))))) ass_nil)
      (ass_cons (as_if (at_lt (ae_ix hr (av 0) ae_str) (ae_rdB call_len (rs_len _) rfl T.no_len (by decide +kernel) (ae_ix hr (av 0) ae_str))) (ass_cons (as_set (i := 3) sc.nd rfl (Or.inl rfl) (ae_ix hr (ae_ix hr (av 0) ae_str) (ae_ix hr (av 0) ae_str)))
      (ass_cons (as_asg (ae_add (ae_ix hr (av 0) ae_str) ae_int) (ag_sub hr (av 0) ae_str))
      (ass_cons (as_if (at_ge (av 3) (ae_pow ae_int ae_int)) (ass_cons (as_asg (ae_div (ae_div (av 3) ae_int) (av 1)) (ag_sub hr (av 0) ae_str))
      (ass_one (as_ret (ae_mod (ae_rdT call_int1 (rs_int _) rfl T.no_int (by decide +kernel) (ae_div (av 3) ae_int)) (av 1))))) ass_nil)
      (ass_one (as_asg (ae_mod (ae_rdT call_int1 (rs_int _) rfl T.no_int (by decide +kernel) (ae_add (ae_add (ae_mul (ae_ix hr (av 0) ae_str) ae_int) (av 3)) ae_int)) ae_int) (ag_sub hr (av 0) ae_str)))))) ass_nil)
      (ass_cons (as_set (i := 2) sc.nd rfl (Or.inl rfl) (ae_mod (ae_rdT call_int1 (rs_int _) rfl T.no_int (by decide +kernel) (ae_add (ae_mul (ae_add (ae_ix hr (av 0) ae_str) (ae_mul (ae_ix hr (av 0) ae_str) ae_int)) ae_int) ae_int)) ae_int))
      (ass_cons (as_set (i := 2) sc.nd rfl (Or.inl rfl) (ae_mod (ae_rdT call_int1 (rs_int _) rfl T.no_int (by decide +kernel) (ae_add (ae_div (av 2) ae_int) (ae_mul (av 2) ae_int))) ae_int))
      (ass_one (as_ret (ae_mod (av 2) (av 1)))))))))) p_law_draw
abbrev N_law_mixed : List Str := ["d", "row", "left", "told", "turn"]
theorem sc_law_mixed : FnScope N_law_mixed ["d", "row"] (defScope st_law_mixed) := ⟨rfl, rfl, rfl, by decide +kernel, rfl, by decide +kernel, by decide +kernel⟩
theorem ok_law_mixed (T : Txt K mg Z) : FnOk P w K mg base CX0 2 Z.f_law_mixed Z.fd_law_mixed ["d", "row"] (toSp K S_law_mixed) :=
  fn_of (N := N_law_mixed) (B := B_law_mixed) (a := a_law_mixed) (k := 1) T.law_mixed.fn sc_law_mixed (by decide) (fun cdv A outer s H E hr => have sc := sc_law_mixed; by
    unfold a_law_mixed law_mixed_0_0 law_mixed_0_1 law_mixed_0_2 law_mixed_0_3 law_mixed_1_0
    exact (ass_cons (as_set (i := 2) sc.nd rfl (Or.inl rfl) (ae_rdT call_list_of (rs_list _) rfl T.no_list (by decide +kernel) (av 1)))
      (ass_cons (as_set (i := 3) sc.nd rfl (Or.inl rfl) (ae_lst aa_nil))
      (ass_cons (as_for .never rfl (ai_range1 rfl T.no_range (aa_consD (ae_rdB call_len (rs_len _) rfl T.no_len (by decide +kernel) (av 1)) aa_nil)) (ag_name 4 sc.nd rfl (Or.inl rfl)) (ass_one (as_expr (ae_mut 3 PySem.F.slot_list_append PySem.F.type_list_append mt_append (ms_append _) (aa_consD (ae_mut 2 PySem.F.slot_list_pop PySem.F.type_list_pop mt_popAt (ms_popAt _) (aa_consD (ae_fn (ok_law_draw T) (hr.mono (by decide)) rfl T.law_draw.mg T.law_draw.kp T.law_draw.bi (aa_cons (av 0) (aa_consD (ae_rdB call_len (rs_len _) rfl T.no_len (by decide +kernel) (av 2)) aa_nil))) aa_nil)) aa_nil)))))
      (ass_one (as_ret (av 3))))))) p_law_mixed
abbrev N_law_reads : List Str := ["case", "other", "images", "mine", "names", "place", "image"]
theorem sc_law_reads : FnScope N_law_reads ["case", "other", "images"] (defScope st_law_reads) := ⟨rfl, rfl, rfl, by decide +kernel, rfl, by decide +kernel, by decide +kernel⟩
theorem ok_law_reads (T : Txt K mg Z) : FnOk P w K mg base CX0 3 Z.f_law_reads Z.fd_law_reads ["case", "other", "images"] (toSp K S_law_reads) :=
  fn_of (N := N_law_reads) (B := B_law_reads) (a := a_law_reads) (k := 2) T.law_reads.fn sc_law_reads (by decide) (fun cdv A outer s H E hr => have sc := sc_law_reads; by
    unfold a_law_reads law_reads_0_0 law_reads_0_1 law_reads_0_2 law_reads_0_3 law_reads_0_4 law_reads_0_5 law_reads_0_6 law_reads_4_0 law_reads_3_0 law_reads_2_0 law_reads_1_0
    exact (ass_cons (as_set (i := 3) sc.nd rfl (Or.inl rfl) (ae_fn (ok_law_variables T) (hr.mono (by decide)) rfl T.law_variables.mg T.law_variables.kp T.law_variables.bi (aa_consD (ae_ix hr (av 0) ae_int) aa_nil)))
      (ass_cons (as_if (AW.at' (aw_or (at_not (at_tru (ae_isi (T := "tuple") (av 2) rfl T.no_isinstance rfl T.no_tuple (by decide +kernel)))) (aw_or1 (at_ne hr (ae_rdB call_len (rs_len _) rfl T.no_len (by decide +kernel) (av 2)) (ae_rdB call_len (rs_len _) rfl T.no_len (by decide +kernel) (av 3)))))) (ass_one (as_ret ae_bl)) ass_nil)
      (ass_cons (as_if (at_not (at_tru (ae_rdB (cr_all rfl) (rs_all _) rfl T.no_all (by decide +kernel) (ae_lc (own := [("image", 6)]) rfl sc.nd (ai_seq (av 2)) (blkOk_by (own := [("image", 6)]) (N := N_law_reads) (sc := (defScope st_law_reads)) (by first | decide +kernel | rfl)) gloc_name (fun _ _ _ _ _ => (ag_name 6 sc.nd rfl (Or.inl rfl))) (fun _ _ _ _ _ => ats_nil) (fun _ _ _ _ _ => (ae_fn (ok_law_is_int T) (hr.mono (by decide)) rfl T.law_is_int.mg T.law_is_int.kp T.law_is_int.bi (aa_consD (av 6) aa_nil))))))) (ass_one (as_ret ae_bl)) ass_nil)
      (ass_cons (as_if (at_ne hr (ae_rdB call_len (rs_len _) rfl T.no_len (by decide +kernel) (ae_fn (ok_law_variables T) (hr.mono (by decide)) rfl T.law_variables.mg T.law_variables.kp T.law_variables.bi (aa_consD (ae_ix hr (av 1) ae_int) aa_nil))) (ae_rdB call_len (rs_len _) rfl T.no_len (by decide +kernel) (av 3))) (ass_one (as_ret ae_bl)) ass_nil)
      (ass_cons (as_set (i := 4) sc.nd rfl (Or.inl rfl) ae_newK)
      (ass_cons (as_for .never rfl (ai_range1 rfl T.no_range (aa_consD (ae_rdB call_len (rs_len _) rfl T.no_len (by decide +kernel) (av 3)) aa_nil)) (ag_name 5 sc.nd rfl (Or.inl rfl)) (ass_one (as_asg (ae_ix hr (av 2) (av 5)) (ag_sub hr (av 4) (ae_ix hr (av 3) (av 5))))))
      (ass_one (as_ret (ae_fn (ok_law_is_map T) (hr.mono (by decide)) rfl T.law_is_map.mg T.law_is_map.kp T.law_is_map.bi (aa_consD (av 0) (aa_consD (av 1) (aa_consD (av 4) aa_nil))))))))))))) p_law_reads
abbrev N_law_pick : List Str := ["d", "row"]
theorem sc_law_pick : FnScope N_law_pick ["d", "row"] (defScope st_law_pick) := ⟨rfl, rfl, rfl, by decide +kernel, rfl, by decide +kernel, by decide +kernel⟩
theorem ok_law_pick (T : Txt K mg Z) : FnOk P w K mg base CX0 2 Z.f_law_pick Z.fd_law_pick ["d", "row"] (toSp K S_law_pick) :=
  fn_of (N := N_law_pick) (B := B_law_pick) (a := a_law_pick) (k := 1) T.law_pick.fn sc_law_pick (by decide) (fun cdv A outer s H E hr => have sc := sc_law_pick; by
    unfold a_law_pick law_pick_0_0
    exact (ass_one (as_ret (ae_ix hr (av 1) (ae_fn (ok_law_draw T) (hr.mono (by decide)) rfl T.law_draw.mg T.law_draw.kp T.law_draw.bi (aa_cons (av 0) (aa_consD (ae_rdB call_len (rs_len _) rfl T.no_len (by decide +kernel) (av 1)) aa_nil))))))) p_law_pick
abbrev N_law_spoilt : List Str := ["d", "images", "theirs", "way", "at"]
theorem sc_law_spoilt : FnScope N_law_spoilt ["d", "images", "theirs"] (defScope st_law_spoilt) := ⟨rfl, rfl, rfl, by decide +kernel, rfl, by decide +kernel, by decide +kernel⟩
theorem ok_law_spoilt (T : Txt K mg Z) : FnOk P w K mg base CX0 3 Z.f_law_spoilt Z.fd_law_spoilt ["d", "images", "theirs"] (toSp K S_law_spoilt) :=
  fn_of (N := N_law_spoilt) (B := B_law_spoilt) (a := a_law_spoilt) (k := 2) T.law_spoilt.fn sc_law_spoilt (by decide) (fun cdv A outer s H E hr => have sc := sc_law_spoilt; by
    unfold a_law_spoilt law_spoilt_0_0 law_spoilt_0_1 law_spoilt_0_2 law_spoilt_0_3 law_spoilt_0_4 law_spoilt_0_5 law_spoilt_0_6 law_spoilt_4_0 law_spoilt_3_0 law_spoilt_2_0 law_spoilt_1_0
    exact (ass_cons (as_set (i := 3) sc.nd rfl (Or.inl rfl) (ae_fn (ok_law_draw T) (hr.mono (by decide)) rfl T.law_draw.mg T.law_draw.kp T.law_draw.bi (aa_cons (av 0) (aa_consD ae_int aa_nil))))
      (ass_cons (as_if (AW.at' (aw_or (at_eq hr (av 3) ae_int) (aw_or1 (at_eq hr (ae_rdB call_len (rs_len _) rfl T.no_len (by decide +kernel) (av 1)) ae_int)))) (ass_one (as_ret (ae_add (av 1) (ae_tup (aa_consD (ae_fn (ok_law_pick T) (hr.mono (by decide)) rfl T.law_pick.mg T.law_pick.kp T.law_pick.bi (aa_cons (av 0) (aa_consD (ae_add (av 2) (ae_lst (aa_consD (ae_neg ae_int) aa_nil))) aa_nil))) aa_nil))))) ass_nil)
      (ass_cons (as_set (i := 4) sc.nd rfl (Or.inl rfl) (ae_fn (ok_law_draw T) (hr.mono (by decide)) rfl T.law_draw.mg T.law_draw.kp T.law_draw.bi (aa_cons (av 0) (aa_consD (ae_rdB call_len (rs_len _) rfl T.no_len (by decide +kernel) (av 1)) aa_nil))))
      (ass_cons (as_if (at_eq hr (av 3) ae_int) (ass_one (as_ret (ae_add (ae_sl (av 1) ao_none (ao_some (av 4))) (ae_sl (av 1) (ao_some (ae_add (av 4) ae_int)) ao_none)))) ass_nil)
      (ass_cons (as_if (at_eq hr (av 3) ae_int) (ass_one (as_ret (ae_add (ae_add (ae_sl (av 1) ao_none (ao_some (av 4))) (ae_tup (aa_consD (ae_fn (ok_law_pick T) (hr.mono (by decide)) rfl T.law_pick.mg T.law_pick.kp T.law_pick.bi (aa_cons (av 0) (aa_consD (ae_lst (aa_consD ae_int (aa_consD (ae_neg ae_int) (aa_consD ae_bl (aa_consD ae_non (aa_consD ae_str aa_nil)))))) aa_nil))) aa_nil))) (ae_sl (av 1) (ao_some (ae_add (av 4) ae_int)) ao_none)))) ass_nil)
      (ass_cons (as_if (at_eq hr (av 3) ae_int) (ass_one (as_ret (ae_rdT call_list_of (rs_list _) rfl T.no_list (by decide +kernel) (av 1)))) ass_nil)
      (ass_one (as_ret (ae_add (ae_add (ae_sl (av 1) ao_none (ao_some (av 4))) (ae_tup (aa_consD (ae_fn (ok_law_pick T) (hr.mono (by decide)) rfl T.law_pick.mg T.law_pick.kp T.law_pick.bi (aa_cons (av 0) (aa_consD (ae_add (av 2) (ae_lst (aa_consD (ae_neg ae_int) aa_nil))) aa_nil))) aa_nil))) (ae_sl (av 1) (ao_some (ae_add (av 4) ae_int)) ao_none))))))))))) p_law_spoilt
abbrev N_Body_variables : List Str := ["self", "told", "row", "term"]
theorem sc_Body_variables : FnScope N_Body_variables ["self"] (defScope st_Body_variables) := ⟨rfl, rfl, rfl, by decide +kernel, rfl, by decide +kernel, by decide +kernel⟩
theorem ok_Body_variables (T : Txt K mg Z) : FnOk P w K mg base CX0 1 Z.f_Body_variables Z.fd_Body_variables ["self"] (toSp K (S_Body_variables Z.C_Body)) :=
  fn_of (N := N_Body_variables) (B := B_Body_variables) (a := a_Body_variables Z.C_Body) (k := 0) T.Body_variables.fn sc_Body_variables (by decide) (fun cdv A outer s H E hr => have sc := sc_Body_variables; by
    unfold a_Body_variables Body_variables_0_0 Body_variables_0_1 Body_variables_0_2 Body_variables_1_0 Body_variables_2_0 Body_variables_3_0
    exact (ass_cons (as_set (i := 1) sc.nd rfl (Or.inl rfl) (ae_lst aa_nil))
      (ass_cons (as_for .never rfl (ai_seq (ae_fld T.c_Body.cl T.n_Body_rows (av 0))) (ag_name 2 sc.nd rfl (Or.inl rfl)) (ass_one (as_for .never rfl (ai_seq (ae_ix hr (av 2) ae_int)) (ag_name 3 sc.nd rfl (Or.inl rfl)) (ass_one (as_if (AW.at' (aw_and (at_lt (av 3) ae_int) (aw_and1 (at_notIn hr (av 3) (av 1))))) (ass_one (as_expr (ae_mut 1 PySem.F.slot_list_append PySem.F.type_list_append mt_append (ms_append _) (aa_consD (av 3) aa_nil)))) ass_nil)))))
      (ass_one (as_ret (av 1)))))) p_Body_variables
abbrev N_Body_span : List Str := ["self", "term"]
theorem sc_Body_span : FnScope N_Body_span ["self", "term"] (defScope st_Body_span) := ⟨rfl, rfl, rfl, by decide +kernel, rfl, by decide +kernel, by decide +kernel⟩
theorem ok_Body_span (T : Txt K mg Z) : FnOk P w K mg base CX0 1 Z.f_Body_span Z.fd_Body_span ["self", "term"] (toSp K (S_Body_span Z.C_Body)) :=
  fn_of (N := N_Body_span) (B := B_Body_span) (a := a_Body_span Z.C_Body) (k := 0) T.Body_span.fn sc_Body_span (by decide) (fun cdv A outer s H E hr => have sc := sc_Body_span; by
    unfold a_Body_span Body_span_0_0 Body_span_0_1 Body_span_1_0
    exact (ass_cons (as_if (at_ge (av 1) ae_int) (ass_one (as_ret (ae_tup (aa_consD (av 1) (aa_consD (ae_add (av 1) ae_int) aa_nil))))) ass_nil)
      (ass_one (as_ret (ae_get hr (ae_fld T.c_Body.cl T.n_Body_spans (av 0)) (av 1) (ae_tup (aa_consD ae_int (aa_consD ae_int aa_nil)))))))) p_Body_span
abbrev N_put_kinds : List Str := ["case", "names", "terms", "other", "images", "term", "image"]
theorem sc_put_kinds : FnScope N_put_kinds ["case", "names", "terms", "other", "images"] (defScope st_put_kinds) := ⟨rfl, rfl, rfl, by decide +kernel, rfl, by decide +kernel, by decide +kernel⟩
theorem ok_put_kinds (T : Txt K mg Z) : FnOk P w K mg base CX0 2 Z.f_put_kinds Z.fd_put_kinds ["case", "names", "terms", "other", "images"] (toSp K (S_put_kinds Z.C_Body)) :=
  fn_of (N := N_put_kinds) (B := B_put_kinds) (a := a_put_kinds Z.C_Body) (k := 1) T.put_kinds.fn sc_put_kinds (by decide) (fun cdv A outer s H E hr => have sc := sc_put_kinds; by
    unfold a_put_kinds put_kinds_0_0 put_kinds_0_1 put_kinds_1_0 put_kinds_1_1 put_kinds_1_2 put_kinds_1_3 put_kinds_1_4 put_kinds_1_5 put_kinds_6_0 put_kinds_4_0 put_kinds_4_1 put_kinds_5_0 put_kinds_3_0 put_kinds_2_0
    exact (ass_cons (as_for .never rfl (ai_zip rfl T.no_zip (aa_consD (av 2) (aa_consD (av 4) aa_nil))) (ag_tup rfl (ags_cons (ag_name 5 sc.nd rfl (Or.inl rfl)) (ags_cons (ag_name 6 sc.nd rfl (Or.inl rfl)) ags_nil))) (ass_cons (as_if (AW.at' (aw_and (AW.at' (aw_or (at_ge (av 5) ae_int) (aw_or1 (at_ge (av 6) ae_int)))) (aw_and1 (at_ne hr (av 5) (av 6))))) (ass_one (as_ret ae_non)) ass_nil)
      (ass_cons (as_if (at_ge (av 5) ae_int) (ass_one as_continue) ass_nil)
      (ass_cons (as_if (at_in hr (av 5) (av 1)) (ass_cons (as_if (at_ne hr (ae_ix hr (av 1) (av 5)) (av 6)) (ass_one (as_ret ae_non)) ass_nil)
      (ass_one as_continue)) ass_nil)
      (ass_cons (as_if (AW.at' (aw_or (at_in hr (av 6) (ae_listVals rfl (av 1) rfl T.no_list)) (aw_or1 (at_ne hr (ae_meth T.c_Body.cl T.Body_span.me (ok_Body_span T) (hr.mono (by decide)) T.Body_span.bi (AE.frz (av 0)) (aa_consD (av 5) aa_nil)) (ae_meth T.c_Body.cl T.Body_span.me (ok_Body_span T) (hr.mono (by decide)) T.Body_span.bi (AE.frz (av 3)) (aa_consD (av 6) aa_nil)))))) (ass_one (as_ret ae_non)) ass_nil)
      (ass_cons (as_set (i := 1) sc.nd rfl (Or.inl rfl) (ae_rdT call_dictD (rs_dict _) rfl T.no_dict (by decide +kernel) (av 1)))
      (ass_one (as_asg (av 6) (ag_sub hr (av 1) (av 5))))))))))
      (ass_one (as_ret (av 1))))) p_put_kinds
abbrev N_matchD : List Str := ["case", "place", "names", "other", "told", "table", "terms", "target", "images", "more"]
theorem sc_matchD : FnScope N_matchD ["case", "place", "names", "other", "told"] (defScope st_matchD) := ⟨rfl, rfl, rfl, by decide +kernel, rfl, by decide +kernel, by decide +kernel⟩
theorem ok_matchD (T : Txt K mg Z) : ∀ n : Nat, FnOk P w K mg base CX0 (n + 3) Z.f_matchD Z.fd_matchD ["case", "place", "names", "other", "told"] (toSp K (S_matchD Z.C_Body n))
  | 0 => fn_deadK (N := N_matchD) T.matchD.fn sc_matchD
  | n + 1 => fn_of (N := N_matchD) (B := B_matchD) (a := a_matchD Z.C_Body (S_matchD Z.C_Body n)) (k := n + 3) T.matchD.fn sc_matchD (by decide) (fun cdv A outer s H E hr => have sc := sc_matchD; by
    unfold a_matchD matchD_0_0 matchD_0_1 matchD_0_2 matchD_0_3 matchD_3_0 matchD_4_0 matchD_4_1 matchD_5_0 matchD_2_0 matchD_2_1 matchD_1_0
    exact (ass_cons (as_if (at_tru (av 4)) (ass_one as_retN) ass_nil)
      (ass_cons (as_if (at_eq hr (av 1) (ae_rdB call_len (rs_len _) rfl T.no_len (by decide +kernel) (ae_fld T.c_Body.cl T.n_Body_rows (av 0)))) (ass_cons (as_expr (ae_mut 4 PySem.F.slot_list_append PySem.F.type_list_append mt_append (ms_append _) (aa_consD (av 2) aa_nil)))
      (ass_one as_retN)) ass_nil)
      (ass_cons (as_asg (ae_ix hr (ae_fld T.c_Body.cl T.n_Body_rows (av 0)) (av 1)) (ag_tup rfl (ags_cons (ag_name 5 sc.nd rfl (Or.inl rfl)) (ags_cons (ag_name 6 sc.nd rfl (Or.inl rfl)) ags_nil))))
      (ass_one (as_for .never rfl (ai_seq (ae_fld T.c_Body.cl T.n_Body_rows (av 3))) (ag_tup rfl (ags_cons (ag_name 7 sc.nd rfl (Or.inl rfl)) (ags_cons (ag_name 8 sc.nd rfl (Or.inl rfl)) ags_nil))) (ass_one (as_if (at_eq hr (av 7) (av 5)) (ass_cons (as_set (i := 9) sc.nd rfl (Or.inl rfl) (ae_fn (ok_put_kinds T) (hr.mono (by omega)) rfl T.put_kinds.mg T.put_kinds.kp T.put_kinds.bi (aa_consD (av 0) (aa_consD (av 2) (aa_consD (av 6) (aa_consD (av 3) (aa_consD (av 8) aa_nil)))))))
      (ass_one (as_if (at_notN (av 9) ae_non) (ass_one (as_expr (ae_fn (ok_matchD T n) (hr.mono (by omega)) rfl T.matchD.mg T.matchD.kp T.matchD.bi (aa_consD (av 0) (aa_consD (ae_add (av 1) ae_int) (aa_consD (av 9) (aa_consD (av 3) (aa_cons (av 4) aa_nil)))))))) ass_nil))) ass_nil)))))))) (p_matchD n)
abbrev N_outline : List Str := ["case", "rows", "table", "terms", "term"]
theorem sc_outline : FnScope N_outline ["case"] (defScope st_outline) := ⟨rfl, rfl, rfl, by decide +kernel, rfl, by decide +kernel, by decide +kernel⟩
theorem ok_outline (T : Txt K mg Z) : FnOk P w K mg base CX0 2 Z.f_outline Z.fd_outline ["case"] (toSp K (S_outline Z.C_Body)) :=
  fn_of (N := N_outline) (B := B_outline) (a := a_outline Z.C_Body) (k := 1) T.outline.fn sc_outline (by decide) (fun cdv A outer s H E hr => have sc := sc_outline; by
    unfold a_outline outline_0_0 outline_0_1
    exact (ass_cons (as_setLc (i := 1) (own := [("table", 2), ("terms", 3)]) rfl sc.nd rfl rfl (sw_true rfl rfl rfl (by decide +kernel)) (ai_seq (ae_fld T.c_Body.cl T.n_Body_rows (av 0))) (blkOk_by (own := [("table", 2), ("terms", 3)]) (N := N_outline) (sc := (defScope st_outline)) (by first | decide +kernel | rfl)) (gloc_tup (gloc_cons gloc_name (gloc_cons gloc_name gloc_nil (gmono_name _) gmono_nil) (gmono_name _) (gmono_cons (gmono_name _) gmono_nil))) (fun _ _ _ _ _ => (ag_tup rfl (ags_cons (ag_name 2 sc.nd rfl (Or.inl rfl)) (ags_cons (ag_name 3 sc.nd rfl (Or.inl rfl)) ags_nil)))) (fun _ _ _ _ _ => ats_nil) (fun _ _ _ _ _ => (ae_tup (aa_consD (av 2) (aa_consD (ae_rdT call_tuple_of (rs_tuple _) rfl T.no_tuple (by decide +kernel) (ae_lc (own := [("term", 4)]) rfl sc.nd (ai_seq (av 3)) (blkOk_by (own := [("term", 4)]) (N := N_outline) (sc := _) (by first | decide +kernel | rfl)) gloc_name (fun _ _ _ _ _ => (ag_name 4 sc.nd rfl (Or.inl rfl))) (fun _ _ _ _ _ => ats_nil) (fun _ _ _ _ _ => (ae_meth T.c_Body.cl T.Body_span.me (ok_Body_span T) (hr.mono (by decide)) T.Body_span.bi (AE.frz (av 0)) (aa_consD (av 4) aa_nil))))) aa_nil)))))
      (ass_one (as_ret (ae_tup (aa_consD (ae_rdT call_tuple_of (rs_tuple _) rfl T.no_tuple (by decide +kernel) (ae_rdB (cr_sortR hr) (rs_sortD _) rfl T.no_sorted (by decide +kernel) (av 1))) (aa_consD (ae_rdT call_tuple_of (rs_tuple _) rfl T.no_tuple (by decide +kernel) (ae_lc (own := [("term", 4)]) rfl sc.nd (ai_seq (ae_fld T.c_Body.cl T.n_Body_wide (av 0))) (blkOk_by (own := [("term", 4)]) (N := N_outline) (sc := (defScope st_outline)) (by first | decide +kernel | rfl)) gloc_name (fun _ _ _ _ _ => (ag_name 4 sc.nd rfl (Or.inl rfl))) (fun _ _ _ _ _ => ats_nil) (fun _ _ _ _ _ => (ae_meth T.c_Body.cl T.Body_span.me (ok_Body_span T) (hr.mono (by decide)) T.Body_span.bi (AE.frz (av 0)) (aa_consD (av 4) aa_nil))))) aa_nil))))))) p_outline
abbrev N_same_kind : List Str := ["case", "other", "names", "told", "term"]
theorem sc_same_kind : FnScope N_same_kind ["case", "other"] (defScope st_same_kind) := ⟨rfl, rfl, rfl, by decide +kernel, rfl, by decide +kernel, by decide +kernel⟩
theorem ok_same_kind (T : Txt K mg Z) : FnOk P w K mg base CX0 21 Z.f_same_kind Z.fd_same_kind ["case", "other"] (toSp K (S_same_kind Z.C_Body)) :=
  fn_of (N := N_same_kind) (B := B_same_kind) (a := a_same_kind Z.C_Body) (k := 20) T.same_kind.fn sc_same_kind (by decide) (fun cdv A outer s H E hr => have sc := sc_same_kind; by
    unfold a_same_kind same_kind_0_0 same_kind_0_1 same_kind_0_2 same_kind_0_3 same_kind_0_4 same_kind_0_5 same_kind_0_6 same_kind_3_0 same_kind_2_0 same_kind_1_0
    exact (ass_cons (as_if (AW.at' (aw_or (at_ne hr (ae_rdB call_len (rs_len _) rfl T.no_len (by decide +kernel) (ae_fld T.c_Body.cl T.n_Body_rows (av 0))) (ae_rdB call_len (rs_len _) rfl T.no_len (by decide +kernel) (ae_fld T.c_Body.cl T.n_Body_rows (av 1)))) (aw_or1 (at_ne hr (ae_fn (ok_outline T) (hr.mono (by decide)) rfl T.outline.mg T.outline.kp T.outline.bi (aa_consD (av 0) aa_nil)) (ae_fn (ok_outline T) (hr.mono (by decide)) rfl T.outline.mg T.outline.kp T.outline.bi (aa_consD (av 1) aa_nil)))))) (ass_one (as_ret ae_non)) ass_nil)
      (ass_cons (as_set (i := 2) sc.nd rfl (Or.inl rfl) (ae_fn (ok_put_kinds T) (hr.mono (by decide)) rfl T.put_kinds.mg T.put_kinds.kp T.put_kinds.bi (aa_consD (av 0) (aa_consD ae_newK (aa_consD (ae_fld T.c_Body.cl T.n_Body_wide (av 0)) (aa_consD (av 1) (aa_consD (ae_fld T.c_Body.cl T.n_Body_wide (av 1)) aa_nil)))))))
      (ass_cons (as_if (at_isN (av 2) ae_non) (ass_one (as_ret ae_non)) ass_nil)
      (ass_cons (as_set (i := 3) sc.nd rfl (Or.inr rfl) (ae_lst aa_nil))
      (ass_cons (as_expr (ae_fn (ok_matchD T 17) (hr.mono (by decide)) rfl T.matchD.mg T.matchD.kp T.matchD.bi (aa_consD (av 0) (aa_consD ae_int (aa_consD (av 2) (aa_consD (av 1) (aa_cons (av 3) aa_nil)))))))
      (ass_cons (as_if (at_not (at_tru (av 3))) (ass_one (as_ret ae_non)) ass_nil)
      (ass_one (as_ret (ae_rdT call_tuple_of (rs_tuple _) rfl T.no_tuple (by decide +kernel) (ae_lc (own := [("term", 4)]) rfl sc.nd (ai_seq (ae_meth0 T.c_Body.cl T.Body_variables.me (ok_Body_variables T) (hr.mono (by decide)) T.Body_variables.bi (AE.frz (av 0)))) (blkOk_by (own := [("term", 4)]) (N := N_same_kind) (sc := (defScope st_same_kind)) (by first | decide +kernel | rfl)) gloc_name (fun _ _ _ _ _ => (ag_name 4 sc.nd rfl (Or.inl rfl))) (fun _ _ _ _ _ => ats_nil) (fun _ _ _ _ _ => (ae_ix hr (ae_ix hr (av 3) ae_int) (av 4)))))))))))))) p_same_kind
abbrev N_laid : List Str := ["terms", "names", "term"]
theorem sc_laid : FnScope N_laid ["terms", "names"] (defScope st_laid) := ⟨rfl, rfl, rfl, by decide +kernel, rfl, by decide +kernel, by decide +kernel⟩
theorem ok_laid (T : Txt K mg Z) : FnOk P w K mg base CX0 1 Z.f_laid Z.fd_laid ["terms", "names"] (toSp K S_laid) :=
  fn_of (N := N_laid) (B := B_laid) (a := a_laid) (k := 0) T.laid.fn sc_laid (by decide) (fun cdv A outer s H E hr => have sc := sc_laid; by
    unfold a_laid laid_0_0
    exact (ass_one (as_ret (ae_rdT call_tuple_of (rs_tuple _) rfl T.no_tuple (by decide +kernel) (ae_lc (own := [("term", 2)]) rfl sc.nd (ai_seq (av 0)) (blkOk_by (own := [("term", 2)]) (N := N_laid) (sc := (defScope st_laid)) (by first | decide +kernel | rfl)) gloc_name (fun _ _ _ _ _ => (ag_name 2 sc.nd rfl (Or.inl rfl))) (fun _ _ _ _ _ => ats_nil) (fun _ _ _ _ _ => (ae_if (at_ge (av 2) ae_int) (av 2) (ae_ix hr (av 1) (av 2))))))))) p_laid
abbrev N_is_whole : List Str := ["value"]
theorem sc_is_whole : FnScope N_is_whole ["value"] (defScope st_is_whole) := ⟨rfl, rfl, rfl, by decide +kernel, rfl, by decide +kernel, by decide +kernel⟩
theorem ok_is_whole (T : Txt K mg Z) : FnOk P w K mg base CX0 1 Z.f_is_whole Z.fd_is_whole ["value"] (toSp K S_is_whole) :=
  fn_of (N := N_is_whole) (B := B_is_whole) (a := a_is_whole) (k := 0) T.is_whole.fn sc_is_whole (by decide) (fun cdv A outer s H E hr => have sc := sc_is_whole; by
    unfold a_is_whole is_whole_0_0
    exact (ass_one (as_ret (ae_and (ae_isi (T := "int") (av 0) rfl T.no_isinstance rfl T.no_int (by decide +kernel)) (ae_one (ae_notB (ae_isi (T := "bool") (av 0) rfl T.no_isinstance rfl T.no_bool (by decide +kernel)))))))) p_is_whole
abbrev N_names_from : List Str := ["body", "images", "variables", "names", "term", "image"]
theorem sc_names_from : FnScope N_names_from ["body", "images"] (defScope st_names_from) := ⟨rfl, rfl, rfl, by decide +kernel, rfl, by decide +kernel, by decide +kernel⟩
theorem ok_names_from (T : Txt K mg Z) : FnOk P w K mg base CX0 2 Z.f_names_from Z.fd_names_from ["body", "images"] (toSp K (S_names_from Z.C_Body)) :=
  fn_of (N := N_names_from) (B := B_names_from) (a := a_names_from Z.C_Body) (k := 1) T.names_from.fn sc_names_from (by decide) (fun cdv A outer s H E hr => have sc := sc_names_from; by
    unfold a_names_from names_from_0_0 names_from_0_1 names_from_0_2 names_from_0_3 names_from_0_4 names_from_2_0 names_from_2_1 names_from_3_0 names_from_1_0
    exact (ass_cons (as_set (i := 2) sc.nd rfl (Or.inl rfl) (ae_meth0 T.c_Body.cl T.Body_variables.me (ok_Body_variables T) (hr.mono (by decide)) T.Body_variables.bi (AE.frz (av 0))))
      (ass_cons (as_if (AW.at' (aw_or (at_not (at_tru (ae_isi (T := "tuple") (av 1) rfl T.no_isinstance rfl T.no_tuple (by decide +kernel)))) (aw_or1 (at_ne hr (ae_rdB call_len (rs_len _) rfl T.no_len (by decide +kernel) (av 1)) (ae_rdB call_len (rs_len _) rfl T.no_len (by decide +kernel) (av 2)))))) (ass_one (as_ret ae_non)) ass_nil)
      (ass_cons (as_set (i := 3) sc.nd rfl (Or.inl rfl) ae_newK)
      (ass_cons (as_for .never rfl (ai_zip rfl T.no_zip (aa_consD (av 2) (aa_consD (av 1) aa_nil))) (ag_tup rfl (ags_cons (ag_name 4 sc.nd rfl (Or.inl rfl)) (ags_cons (ag_name 5 sc.nd rfl (Or.inl rfl)) ags_nil))) (ass_cons (as_if (at_not (at_tru (ae_fn (ok_is_whole T) (hr.mono (by decide)) rfl T.is_whole.mg T.is_whole.kp T.is_whole.bi (aa_consD (av 5) aa_nil)))) (ass_one (as_ret ae_non)) ass_nil)
      (ass_one (as_asg (av 5) (ag_sub hr (av 3) (av 4))))))
      (ass_one (as_ret (av 3)))))))) p_names_from
abbrev N_shows_kind : List Str := ["case", "other", "images", "names", "term", "table", "terms", "image"]
theorem sc_shows_kind : FnScope N_shows_kind ["case", "other", "images"] (defScope st_shows_kind) := ⟨rfl, rfl, rfl, by decide +kernel, rfl, by decide +kernel, by decide +kernel⟩
theorem ok_shows_kind (T : Txt K mg Z) : FnOk P w K mg base CX0 3 Z.f_shows_kind Z.fd_shows_kind ["case", "other", "images"] (toSp K (S_shows_kind Z.C_Body)) :=
  fn_of (N := N_shows_kind) (B := B_shows_kind) (a := a_shows_kind Z.C_Body) (k := 2) T.shows_kind.fn sc_shows_kind (by decide) (fun cdv A outer s H E hr => have sc := sc_shows_kind; by
    unfold a_shows_kind shows_kind_0_0 shows_kind_0_1 shows_kind_0_2 shows_kind_0_3 shows_kind_0_4 shows_kind_0_5 shows_kind_4_0 shows_kind_3_0 shows_kind_2_0 shows_kind_1_0
    exact (ass_cons (as_set (i := 3) sc.nd rfl (Or.inr rfl) (ae_fn (ok_names_from T) (hr.mono (by decide)) rfl T.names_from.mg T.names_from.kp T.names_from.bi (aa_consD (av 0) (aa_consD (av 2) aa_nil))))
      (ass_cons (as_if (AW.at' (aw_or (at_isN (av 3) ae_non) (aw_or (at_ne hr (ae_rdB call_len (rs_len _) rfl T.no_len (by decide +kernel) (ae_fld T.c_Body.cl T.n_Body_rows (av 0))) (ae_rdB call_len (rs_len _) rfl T.no_len (by decide +kernel) (ae_fld T.c_Body.cl T.n_Body_rows (av 1)))) (aw_or1 (at_ne hr (ae_rdB call_len (rs_len _) rfl T.no_len (by decide +kernel) (ae_fld T.c_Body.cl T.n_Body_wide (av 0))) (ae_rdB call_len (rs_len _) rfl T.no_len (by decide +kernel) (ae_fld T.c_Body.cl T.n_Body_wide (av 1)))))))) (ass_one (as_ret ae_bl)) ass_nil)
      (ass_cons (as_if (AW.at' (aw_or (at_ne hr (ae_lenSetT rfl (av 2) rfl T.no_len rfl T.no_set) (ae_rdB call_len (rs_len _) rfl T.no_len (by decide +kernel) (av 2))) (aw_or1 (at_not (at_tru (ae_rdB (cr_all rfl) (rs_all _) rfl T.no_all (by decide +kernel) (ae_lc (own := [("image", 7)]) rfl sc.nd (ai_seq (av 2)) (blkOk_by (own := [("image", 7)]) (N := N_shows_kind) (sc := (defScope st_shows_kind)) (by first | decide +kernel | rfl)) gloc_name (fun _ _ _ _ _ => (ag_name 7 sc.nd rfl (Or.inl rfl))) (fun _ _ _ _ _ => ats_nil) (fun _ _ _ _ _ => (ae_lt (av 7) ae_int))))))))) (ass_one (as_ret ae_bl)) ass_nil)
      (ass_cons (as_if (at_not (at_tru (ae_rdB (cr_all rfl) (rs_all _) rfl T.no_all (by decide +kernel) (ae_lc (own := [("term", 4)]) rfl sc.nd (ai_seq (av 3)) (blkOk_by (own := [("term", 4)]) (N := N_shows_kind) (sc := (defScope st_shows_kind)) (by first | decide +kernel | rfl)) gloc_name (fun _ _ _ _ _ => (ag_name 4 sc.nd rfl (Or.inl rfl))) (fun _ _ _ _ _ => ats_nil) (fun _ _ _ _ _ => (ae_eq hr (ae_meth T.c_Body.cl T.Body_span.me (ok_Body_span T) (hr.mono (by decide)) T.Body_span.bi (AE.frz (av 0)) (aa_consD (av 4) aa_nil)) (ae_meth T.c_Body.cl T.Body_span.me (ok_Body_span T) (hr.mono (by decide)) T.Body_span.bi (AE.frz (av 1)) (aa_consD (ae_ix hr (av 3) (av 4)) aa_nil)))))))) (ass_one (as_ret ae_bl)) ass_nil)
      (ass_cons (as_if (AW.at' (aw_or (at_ne hr (ae_fn (ok_laid T) (hr.mono (by decide)) rfl T.laid.mg T.laid.kp T.laid.bi (aa_consD (ae_fld T.c_Body.cl T.n_Body_wide (av 0)) (aa_consD (av 3) aa_nil))) (ae_fld T.c_Body.cl T.n_Body_wide (av 1))) (aw_or1 (at_ne hr (ae_rdB call_len (rs_len _) rfl T.no_len (by decide +kernel) (ae_meth0 T.c_Body.cl T.Body_variables.me (ok_Body_variables T) (hr.mono (by decide)) T.Body_variables.bi (AE.frz (av 1)))) (ae_rdB call_len (rs_len _) rfl T.no_len (by decide +kernel) (av 2)))))) (ass_one (as_ret ae_bl)) ass_nil)
      (ass_one (as_ret (ae_rdB (cr_all rfl) (rs_all _) rfl T.no_all (by decide +kernel) (ae_lc (own := [("table", 5), ("terms", 6)]) rfl sc.nd (ai_seq (ae_fld T.c_Body.cl T.n_Body_rows (av 0))) (blkOk_by (own := [("table", 5), ("terms", 6)]) (N := N_shows_kind) (sc := (defScope st_shows_kind)) (by first | decide +kernel | rfl)) (gloc_tup (gloc_cons gloc_name (gloc_cons gloc_name gloc_nil (gmono_name _) gmono_nil) (gmono_name _) (gmono_cons (gmono_name _) gmono_nil))) (fun _ _ _ _ _ => (ag_tup rfl (ags_cons (ag_name 5 sc.nd rfl (Or.inl rfl)) (ags_cons (ag_name 6 sc.nd rfl (Or.inl rfl)) ags_nil)))) (fun _ _ _ _ _ => ats_nil) (fun _ _ _ _ _ => (ae_in hr (ae_tup (aa_consD (av 5) (aa_consD (ae_fn (ok_laid T) (hr.mono (by decide)) rfl T.laid.mg T.laid.kp T.laid.bi (aa_consD (av 6) (aa_consD (av 3) aa_nil))) aa_nil))) (ae_fld T.c_Body.cl T.n_Body_rows (av 1)))))))))))))) p_shows_kind
abbrev N_law_agrees : List Str := ["d", "case", "other", "first", "second", "made", "maps", "told", "tries", "theirs", "images", "said", "image"]
theorem sc_law_agrees : FnScope N_law_agrees ["d", "case", "other", "first", "second", "made"] (defScope st_law_agrees) := ⟨rfl, rfl, rfl, by decide +kernel, rfl, by decide +kernel, by decide +kernel⟩
theorem ok_law_agrees (T : Txt K mg Z) : FnOk P w K mg base CX0 22 Z.f_law_agrees Z.fd_law_agrees ["d", "case", "other", "first", "second", "made"] (toSp K (S_law_agrees Z.C_Body)) :=
  fn_of (N := N_law_agrees) (B := B_law_agrees) (a := a_law_agrees Z.C_Body) (k := 21) T.law_agrees.fn sc_law_agrees (by decide) (fun cdv A outer s H E hr => have sc := sc_law_agrees; by
    unfold a_law_agrees law_agrees_0_0 law_agrees_0_1 law_agrees_0_2 law_agrees_0_3 law_agrees_0_4 law_agrees_0_5 law_agrees_0_6 law_agrees_0_7 law_agrees_0_8 law_agrees_0_9 law_agrees_5_0 law_agrees_5_1 law_agrees_6_0 law_agrees_4_0 law_agrees_4_1 law_agrees_3_0 law_agrees_2_0 law_agrees_1_0
    exact (ass_cons (as_set (i := 6) sc.nd rfl (Or.inl rfl) (ae_fn (ok_law_maps T) (hr.mono (by decide)) rfl T.law_maps.mg T.law_maps.kp T.law_maps.bi (aa_consD (av 1) (aa_consD (av 2) aa_nil))))
      (ass_cons (as_set (i := 7) sc.nd rfl (Or.inl rfl) (ae_fn (ok_same_kind T) (hr.mono (by decide)) rfl T.same_kind.mg T.same_kind.kp T.same_kind.bi (aa_consD (av 3) (aa_consD (av 4) aa_nil))))
      (ass_cons (as_if (AW.at' (aw_and (at_not (at_tru (av 6))) (aw_and1 (at_notN (av 7) ae_non)))) (ass_one (as_ret ae_bl)) ass_nil)
      (ass_cons (as_if (AW.at' (aw_and (at_tru (av 6)) (aw_and1 (AW.at' (aw_or (at_not (at_tru (ae_isi (T := "tuple") (av 7) rfl T.no_isinstance rfl T.no_tuple (by decide +kernel)))) (aw_or1 (at_notIn hr (av 7) (av 6)))))))) (ass_one (as_ret ae_bl)) ass_nil)
      (ass_cons (as_if (AW.at' (aw_and (at_tru (av 6)) (aw_and1 (at_not (at_tru (ae_rdB (cr_all rfl) (rs_all _) rfl T.no_all (by decide +kernel) (ae_lc (own := [("image", 12)]) rfl sc.nd (ai_seq (av 7)) (blkOk_by (own := [("image", 12)]) (N := N_law_agrees) (sc := (defScope st_law_agrees)) (by first | decide +kernel | rfl)) gloc_name (fun _ _ _ _ _ => (ag_name 12 sc.nd rfl (Or.inl rfl))) (fun _ _ _ _ _ => ats_nil) (fun _ _ _ _ _ => (ae_fn (ok_law_is_int T) (hr.mono (by decide)) rfl T.law_is_int.mg T.law_is_int.kp T.law_is_int.bi (aa_consD (av 12) aa_nil)))))))))) (ass_one (as_ret ae_bl)) ass_nil)
      (ass_cons (as_set (i := 8) sc.nd rfl (Or.inl rfl) (ae_add (ae_lst (aa_consD (av 5) aa_nil)) (ae_sl (av 6) ao_none (ao_some ae_int))))
      (ass_cons (as_set (i := 9) sc.nd rfl (Or.inl rfl) (ae_fn (ok_law_variables T) (hr.mono (by decide)) rfl T.law_variables.mg T.law_variables.kp T.law_variables.bi (aa_consD (ae_ix hr (av 2) ae_int) aa_nil)))
      (ass_cons (as_for .never rfl (ai_seq (ae_rdT call_list_of (rs_list _) rfl T.no_list (by decide +kernel) (av 8))) (ag_name 10 sc.nd rfl (Or.inl rfl)) (ass_cons (as_expr (ae_mut 8 PySem.F.slot_list_append PySem.F.type_list_append mt_append (ms_append _) (aa_consD (ae_fn (ok_law_spoilt T) (hr.mono (by decide)) rfl T.law_spoilt.mg T.law_spoilt.kp T.law_spoilt.bi (aa_cons (av 0) (aa_consD (av 10) (aa_consD (av 9) aa_nil)))) aa_nil)))
      (ass_one (as_expr (ae_mut 8 PySem.F.slot_list_append PySem.F.type_list_append mt_append (ms_append _) (aa_consD (ae_rdT call_tuple_of (rs_tuple _) rfl T.no_tuple (by decide +kernel) (ae_fn (ok_law_mixed T) (hr.mono (by decide)) rfl T.law_mixed.mg T.law_mixed.kp T.law_mixed.bi (aa_cons (av 0) (aa_consD (ae_rdT call_list_of (rs_list _) rfl T.no_list (by decide +kernel) (av 10)) aa_nil)))) aa_nil))))))
      (ass_cons (as_for .never rfl (ai_seq (ae_add (av 8) (ae_lst (aa_consD ae_non (aa_consD (ae_tup aa_nil) (aa_consD ae_int aa_nil)))))) (ag_name 10 sc.nd rfl (Or.inl rfl)) (ass_cons (as_set (i := 11) sc.nd rfl (Or.inl rfl) (ae_fn (ok_shows_kind T) (hr.mono (by decide)) rfl T.shows_kind.mg T.shows_kind.kp T.shows_kind.bi (aa_consD (av 3) (aa_consD (av 4) (aa_consD (av 10) aa_nil)))))
      (ass_one (as_if (AW.at' (aw_or (at_not (at_tru (ae_isi (T := "bool") (av 11) rfl T.no_isinstance rfl T.no_bool (by decide +kernel)))) (aw_or1 (at_ne hr (av 11) (ae_fn (ok_law_reads T) (hr.mono (by decide)) rfl T.law_reads.mg T.law_reads.kp T.law_reads.bi (aa_consD (av 1) (aa_consD (av 2) (aa_consD (av 10) aa_nil)))))))) (ass_one (as_ret ae_bl)) ass_nil))))
      (ass_one (as_ret ae_bl)))))))))))) p_law_agrees
abbrev N_law_begin : List Str := ["script", "cells", "cell"]
theorem sc_law_begin : FnScope N_law_begin ["script"] (defScope st_law_begin) := ⟨rfl, rfl, rfl, by decide +kernel, rfl, by decide +kernel, by decide +kernel⟩
theorem ok_law_begin (T : Txt K mg Z) : FnOk P w K mg base CX0 1 Z.f_law_begin Z.fd_law_begin ["script"] (toSp K S_law_begin) :=
  fn_of (N := N_law_begin) (B := B_law_begin) (a := a_law_begin) (k := 0) T.law_begin.fn sc_law_begin (by decide) (fun cdv A outer s H E hr => have sc := sc_law_begin; by
    unfold a_law_begin law_begin_0_0 law_begin_0_1 law_begin_0_2 law_begin_1_0
    exact (ass_cons (as_set (i := 1) sc.nd rfl (Or.inl rfl) (ae_lst aa_nil))
      (ass_cons (as_for .never rfl (ai_seq (ae_sl (av 0) ao_none (ao_some ae_int))) (ag_name 2 sc.nd rfl (Or.inl rfl)) (ass_one (as_expr (ae_mut 1 PySem.F.slot_list_append PySem.F.type_list_append mt_append (ms_append _) (aa_consD (ae_if (at_ge (av 2) ae_int) (ae_mul ae_int (av 2)) (ae_add (ae_mul (ae_neg ae_int) (av 2)) ae_int)) aa_nil)))))
      (ass_one (as_ret (ae_disp (aps_cons ae_str (av 1) (aps_cons ae_str ae_int (aps_cons ae_str ae_int (aps_cons ae_str ae_int (aps_cons ae_str ae_int aps_nil))))))))))) p_law_begin
abbrev N_Body_init : List Str := ["self", "rows", "nots", "spans", "wide"]
theorem sc_Body_init : FnScope N_Body_init ["self", "rows", "nots", "spans", "wide"] (defScope st_Body_init) := ⟨rfl, rfl, rfl, by decide +kernel, rfl, by decide +kernel, by decide +kernel⟩
theorem ok_Body_init (T : Txt K mg Z) : FnOk P w K mg base CX0 1 Z.f_Body_init Z.fd_Body_init ["self", "rows", "nots", "spans", "wide"] (toSp K (S_Body_init Z.C_Body)) :=
  fn_of (N := N_Body_init) (B := B_Body_init) (a := a_Body_init Z.C_Body) (k := 0) T.c_Body.fn sc_Body_init (by decide) (fun cdv A outer s H E hr => have sc := sc_Body_init; by
    unfold a_Body_init Body_init_0_0 Body_init_0_1 Body_init_0_2 Body_init_0_3
    exact (ass_cons (as_fldset 0 T.c_Body.cl T.n_Body_rows (av 1))
      (ass_cons (as_fldset 0 T.c_Body.cl T.n_Body_nots (av 2))
      (ass_cons (as_fldset 0 T.c_Body.cl T.n_Body_spans (av 3))
      (ass_one (as_fldset 0 T.c_Body.cl T.n_Body_wide (av 4))))))) p_Body_init
abbrev N_law_body_of : List Str := ["case", "nots"]
theorem sc_law_body_of : FnScope N_law_body_of ["case", "nots"] (defScope st_law_body_of) := ⟨rfl, rfl, rfl, by decide +kernel, rfl, by decide +kernel, by decide +kernel⟩
theorem ok_law_body_of (T : Txt K mg Z) : FnOk P w K mg base CX0 3 Z.f_law_body_of Z.fd_law_body_of ["case", "nots"] (toSp K (S_law_body_of Z.C_Body)) :=
  fn_of (N := N_law_body_of) (B := B_law_body_of) (a := a_law_body_of Z.C_Body) (k := 2) T.law_body_of.fn sc_law_body_of (by decide) (fun cdv A outer s H E hr => have sc := sc_law_body_of; by
    unfold a_law_body_of law_body_of_0_0
    exact (ass_one (as_ret (ae_make T.c_Body.ma (ok_Body_init T) (hr.mono (by decide)) rfl T.c_Body.mg T.c_Body.bi (aa_consD (ae_ix hr (av 0) ae_int) (aa_consD (av 1) (aa_consD (ae_rdT call_dictD (rs_dict _) rfl T.no_dict (by decide +kernel) (ae_ix hr (av 0) ae_int)) (aa_consD (ae_ix hr (av 0) ae_int) aa_nil)))))))) p_law_body_of
abbrev N_law_whole : List Str := ["rows", "cells", "wide", "met", "held", "term"]
theorem sc_law_whole : FnScope N_law_whole ["rows", "cells", "wide"] (defScope st_law_whole) := ⟨rfl, rfl, rfl, by decide +kernel, rfl, by decide +kernel, by decide +kernel⟩
theorem ok_law_whole (T : Txt K mg Z) : FnOk P w K mg base CX0 2 Z.f_law_whole Z.fd_law_whole ["rows", "cells", "wide"] (toSp K S_law_whole) :=
  fn_of (N := N_law_whole) (B := B_law_whole) (a := a_law_whole) (k := 1) T.law_whole.fn sc_law_whole (by decide) (fun cdv A outer s H E hr => have sc := sc_law_whole; by
    unfold a_law_whole law_whole_0_0 law_whole_0_1 law_whole_0_2 law_whole_0_3 law_whole_0_4 law_whole_1_0
    exact (ass_cons (as_set (i := 0) sc.nd rfl (Or.inl rfl) (ae_fn (ok_law_unlike T) (hr.mono (by decide)) rfl T.law_unlike.mg T.law_unlike.kp T.law_unlike.bi (aa_consD (av 0) aa_nil)))
      (ass_cons (as_set (i := 3) sc.nd rfl (Or.inr rfl) (ae_fn (ok_law_variables T) (hr.mono (by decide)) rfl T.law_variables.mg T.law_variables.kp T.law_variables.bi (aa_cons (av 0) aa_nil)))
      (ass_cons (as_set (i := 4) sc.nd rfl (Or.inl rfl) ae_newK)
      (ass_cons (as_for .never rfl (ai_seq (av 3)) (ag_name 5 sc.nd rfl (Or.inl rfl)) (ass_one (as_asg (ae_get hr (av 1) (av 5) (ae_tup (aa_consD ae_int (aa_consD ae_int aa_nil)))) (ag_sub hr (av 4) (av 5)))))
      (ass_one (as_ret (ae_tup (aa_consD (ae_rdT call_tuple_of (rs_tuple _) rfl T.no_tuple (by decide +kernel) (av 0)) (aa_consD (av 4) (aa_consD (ae_rdT call_tuple_of (rs_tuple _) rfl T.no_tuple (by decide +kernel) (ae_lc (own := [("term", 5)]) rfl sc.nd (ai_seq (av 2)) (blkOk_by (own := [("term", 5)]) (N := N_law_whole) (sc := (defScope st_law_whole)) (by first | decide +kernel | rfl)) gloc_name (fun _ _ _ _ _ => (ag_name 5 sc.nd rfl (Or.inl rfl))) (fun _ _ _ _ _ => ats_nil) (fun _ _ _ _ _ => (ae_if (AW.at' (aw_or (at_ge (av 5) ae_int) (aw_or1 (at_in hr (av 5) (av 3))))) (av 5) ae_int)))) aa_nil))))))))))) p_law_whole
abbrev N_law_drawn : List Str := ["d", "tables", "many", "menu", "pool", "rows", "turn", "cells", "term", "longest", "wide", "terms", "place", "name", "width"]
theorem sc_law_drawn : FnScope N_law_drawn ["d", "tables", "many", "menu"] (defScope st_law_drawn) := ⟨rfl, rfl, rfl, by decide +kernel, rfl, by decide +kernel, by decide +kernel⟩
theorem ok_law_drawn (T : Txt K mg Z) : FnOk P w K mg base CX0 3 Z.f_law_drawn Z.fd_law_drawn ["d", "tables", "many", "menu"] (toSp K S_law_drawn) :=
  fn_of (N := N_law_drawn) (B := B_law_drawn) (a := a_law_drawn) (k := 2) T.law_drawn.fn sc_law_drawn (by decide) (fun cdv A outer s H E hr => have sc := sc_law_drawn; by
    unfold a_law_drawn law_drawn_0_0 law_drawn_0_1 law_drawn_0_2 law_drawn_0_3 law_drawn_0_4 law_drawn_0_5 law_drawn_0_6 law_drawn_0_7 law_drawn_3_0 law_drawn_1_0 law_drawn_1_1 law_drawn_1_2 law_drawn_1_3 law_drawn_2_0
    exact (ass_cons (as_set (i := 4) sc.nd rfl (Or.inr rfl) (ae_sl (ae_lst (aa_consD (ae_neg ae_int) (aa_consD (ae_neg ae_int) (aa_consD (ae_neg ae_int) (aa_consD (ae_neg ae_int) (aa_consD (ae_neg ae_int) aa_nil)))))) ao_none (ao_some (ae_add ae_int (ae_fn (ok_law_draw T) (hr.mono (by decide)) rfl T.law_draw.mg T.law_draw.kp T.law_draw.bi (aa_cons (av 0) (aa_consD ae_int aa_nil)))))))
      (ass_cons (as_set (i := 5) sc.nd rfl (Or.inl rfl) (ae_lst aa_nil))
      (ass_cons (as_for .never rfl (ai_range1 rfl T.no_range (aa_consD (av 2) aa_nil)) (ag_name 6 sc.nd rfl (Or.inl rfl)) (ass_cons (as_asg (ae_fn (ok_law_pick T) (hr.mono (by decide)) rfl T.law_pick.mg T.law_pick.kp T.law_pick.bi (aa_cons (av 0) (aa_cons (av 1) aa_nil))) (ag_tup rfl (ags_cons (ag_name 13 sc.nd rfl (Or.inl rfl)) (ags_cons (ag_name 14 sc.nd rfl (Or.inl rfl)) ags_nil))))
      (ass_cons (as_set (i := 11) sc.nd rfl (Or.inl rfl) (ae_lst aa_nil))
      (ass_cons (as_for .never rfl (ai_range1 rfl T.no_range (aa_consD (av 14) aa_nil)) (ag_name 12 sc.nd rfl (Or.inl rfl)) (ass_one (as_expr (ae_mut 11 PySem.F.slot_list_append PySem.F.type_list_append mt_append (ms_append _) (aa_consD (ae_if (at_eq hr (ae_fn (ok_law_draw T) (hr.mono (by decide)) rfl T.law_draw.mg T.law_draw.kp T.law_draw.bi (aa_cons (av 0) (aa_consD ae_int aa_nil))) ae_int) (ae_fn (ok_law_pick T) (hr.mono (by decide)) rfl T.law_pick.mg T.law_pick.kp T.law_pick.bi (aa_cons (av 0) (aa_consD (ae_lst (aa_consD ae_int (aa_consD ae_int aa_nil))) aa_nil))) (ae_fn (ok_law_pick T) (hr.mono (by decide)) rfl T.law_pick.mg T.law_pick.kp T.law_pick.bi (aa_cons (av 0) (aa_cons (av 4) aa_nil)))) aa_nil)))))
      (ass_one (as_expr (ae_mut 5 PySem.F.slot_list_append PySem.F.type_list_append mt_append (ms_append _) (aa_consD (ae_tup (aa_consD (av 13) (aa_consD (ae_rdT call_tuple_of (rs_tuple _) rfl T.no_tuple (by decide +kernel) (av 11)) aa_nil))) aa_nil))))))))
      (ass_cons (as_set (i := 7) sc.nd rfl (Or.inl rfl) ae_newK)
      (ass_cons (as_for .never rfl (ai_seq (av 4)) (ag_name 8 sc.nd rfl (Or.inl rfl)) (ass_one (as_asg (ae_fn (ok_law_pick T) (hr.mono (by decide)) rfl T.law_pick.mg T.law_pick.kp T.law_pick.bi (aa_cons (av 0) (aa_cons (av 3) aa_nil))) (ag_sub hr (av 7) (av 8)))))
      (ass_cons (as_set (i := 9) sc.nd rfl (Or.inl rfl) (ae_callB (call_min2 rfl) (cs_min2 _) rfl T.no_min (by decide +kernel) (aa_consD ae_int (aa_consD (ae_add ae_int (ae_div (av 2) ae_int)) aa_nil))))
      (ass_cons (as_setLc (i := 10) (own := [("turn", 6)]) rfl sc.nd rfl rfl (sw_true rfl rfl rfl (by decide +kernel)) (ai_range1 rfl T.no_range (aa_consD (ae_fn (ok_law_draw T) (hr.mono (by decide)) rfl T.law_draw.mg T.law_draw.kp T.law_draw.bi (aa_cons (av 0) (aa_consD (av 9) aa_nil))) aa_nil)) (blkOk_by (own := [("turn", 6)]) (N := N_law_drawn) (sc := (defScope st_law_drawn)) (by first | decide +kernel | rfl)) gloc_name (fun _ _ _ _ _ => (ag_name 6 sc.nd rfl (Or.inl rfl))) (fun _ _ _ _ _ => ats_nil) (fun _ _ _ _ _ => (ae_if (at_gt (ae_fn (ok_law_draw T) (hr.mono (by decide)) rfl T.law_draw.mg T.law_draw.kp T.law_draw.bi (aa_cons (av 0) (aa_consD ae_int aa_nil))) ae_int) (ae_fn (ok_law_pick T) (hr.mono (by decide)) rfl T.law_pick.mg T.law_pick.kp T.law_pick.bi (aa_cons (av 0) (aa_cons (av 4) aa_nil))) ae_int)))
      (ass_one (as_ret (ae_fn (ok_law_whole T) (hr.mono (by decide)) rfl T.law_whole.mg T.law_whole.kp T.law_whole.bi (aa_consD (av 5) (aa_consD (av 7) (aa_consD (av 10) aa_nil)))))))))))))) p_law_drawn
abbrev N_law_exchanged : List Str := ["d", "case", "names", "told", "term", "mixed", "rows", "cells", "wide", "row"]
theorem sc_law_exchanged : FnScope N_law_exchanged ["d", "case", "names"] (defScope st_law_exchanged) := ⟨rfl, rfl, rfl, by decide +kernel, rfl, by decide +kernel, by decide +kernel⟩
theorem ok_law_exchanged (T : Txt K mg Z) : FnOk P w K mg base CX0 3 Z.f_law_exchanged Z.fd_law_exchanged ["d", "case", "names"] (toSp K S_law_exchanged) :=
  fn_of (N := N_law_exchanged) (B := B_law_exchanged) (a := a_law_exchanged) (k := 2) T.law_exchanged.fn sc_law_exchanged (by decide) (fun cdv A outer s H E hr => have sc := sc_law_exchanged; by
    unfold a_law_exchanged law_exchanged_0_0 law_exchanged_0_1 law_exchanged_0_2 law_exchanged_0_3 law_exchanged_0_4 law_exchanged_1_0
    exact (ass_cons (as_asg (av 1) (ag_tup rfl (ags_cons (ag_name 6 sc.nd rfl (Or.inl rfl)) (ags_cons (ag_name 7 sc.nd rfl (Or.inl rfl)) (ags_cons (ag_name 8 sc.nd rfl (Or.inl rfl)) ags_nil)))))
      (ass_cons (as_set (i := 3) sc.nd rfl (Or.inl rfl) ae_newK)
      (ass_cons (as_for .never rfl (ai_seq (av 7)) (ag_name 4 sc.nd rfl (Or.inl rfl)) (ass_one (as_asg (ae_ix hr (av 7) (av 4)) (ag_sub hr (av 3) (ae_ix hr (av 2) (av 4))))))
      (ass_cons (as_set (i := 5) sc.nd rfl (Or.inl rfl) (ae_fn (ok_law_mixed T) (hr.mono (by decide)) rfl T.law_mixed.mg T.law_mixed.kp T.law_mixed.bi (aa_cons (av 0) (aa_consD (ae_lc (own := [("row", 9)]) rfl sc.nd (ai_seq (av 6)) (blkOk_by (own := [("row", 9)]) (N := N_law_exchanged) (sc := (defScope st_law_exchanged)) (by first | decide +kernel | rfl)) gloc_name (fun _ _ _ _ _ => (ag_name 9 sc.nd rfl (Or.inl rfl))) (fun _ _ _ _ _ => ats_nil) (fun _ _ _ _ _ => (ae_tup (aa_consD (ae_ix hr (av 9) ae_int) (aa_consD (ae_fn (ok_law_laid T) (hr.mono (by decide)) rfl T.law_laid.mg T.law_laid.kp T.law_laid.bi (aa_consD (ae_ix hr (av 9) ae_int) (aa_consD (av 2) aa_nil))) aa_nil))))) aa_nil))))
      (ass_one (as_ret (ae_tup (aa_consD (ae_rdT call_tuple_of (rs_tuple _) rfl T.no_tuple (by decide +kernel) (av 5)) (aa_consD (av 3) (aa_consD (ae_fn (ok_law_laid T) (hr.mono (by decide)) rfl T.law_laid.mg T.law_laid.kp T.law_laid.bi (aa_consD (av 8) (aa_consD (av 2) aa_nil))) aa_nil))))))))))) p_law_exchanged
abbrev N_law_names : List Str := ["d", "many", "letters", "told", "place", "name", "turn"]
theorem sc_law_names : FnScope N_law_names ["d", "many"] (defScope st_law_names) := ⟨rfl, rfl, rfl, by decide +kernel, rfl, by decide +kernel, by decide +kernel⟩
theorem ok_law_names (T : Txt K mg Z) : FnOk P w K mg base CX0 3 Z.f_law_names Z.fd_law_names ["d", "many"] (toSp K S_law_names) :=
  fn_of (N := N_law_names) (B := B_law_names) (a := a_law_names) (k := 2) T.law_names.fn sc_law_names (by decide) (fun cdv A outer s H E hr => have sc := sc_law_names; by
    unfold a_law_names law_names_0_0 law_names_0_1 law_names_0_2 law_names_0_3 law_names_1_0 law_names_1_1
    exact (ass_cons (as_set (i := 2) sc.nd rfl (Or.inr rfl) ae_str)
      (ass_cons (as_set (i := 3) sc.nd rfl (Or.inl rfl) (ae_lst aa_nil))
      (ass_cons (as_for .never rfl (ai_range1 rfl T.no_range (aa_consD (av 1) aa_nil)) (ag_name 4 sc.nd rfl (Or.inl rfl)) (ass_cons (as_set (i := 5) sc.nd rfl (Or.inl rfl) (ae_join (ae_lc (own := [("turn", 6)]) rfl sc.nd (ai_range1 rfl T.no_range (aa_consD (ae_fn (ok_law_draw T) (hr.mono (by decide)) rfl T.law_draw.mg T.law_draw.kp T.law_draw.bi (aa_cons (av 0) (aa_consD ae_int aa_nil))) aa_nil)) (blkOk_by (own := [("turn", 6)]) (N := N_law_names) (sc := (defScope st_law_names)) (by first | decide +kernel | rfl)) gloc_name (fun _ _ _ _ _ => (ag_name 6 sc.nd rfl (Or.inl rfl))) (fun _ _ _ _ _ => ats_nil) (fun _ _ _ _ _ => (ae_fn (ok_law_pick T) (hr.mono (by decide)) rfl T.law_pick.mg T.law_pick.kp T.law_pick.bi (aa_cons (av 0) (aa_cons (av 2) aa_nil)))))))
      (ass_one (as_expr (ae_mut 3 PySem.F.slot_list_append PySem.F.type_list_append mt_append (ms_append _) (aa_consD (ae_add (ae_add (av 5) ae_str) (ae_ix hr (av 2) (ae_mod (av 4) ae_int))) aa_nil))))))
      (ass_one (as_ret (av 3))))))) p_law_names
abbrev N_law_some : List Str := ["d", "row", "least", "told", "thing"]
theorem sc_law_some : FnScope N_law_some ["d", "row", "least"] (defScope st_law_some) := ⟨rfl, rfl, rfl, by decide +kernel, rfl, by decide +kernel, by decide +kernel⟩
theorem ok_law_some (T : Txt K mg Z) : FnOk P w K mg base CX0 2 Z.f_law_some Z.fd_law_some ["d", "row", "least"] (toSp K S_law_some) :=
  fn_of (N := N_law_some) (B := B_law_some) (a := a_law_some) (k := 1) T.law_some.fn sc_law_some (by decide) (fun cdv A outer s H E hr => have sc := sc_law_some; by
    unfold a_law_some law_some_0_0 law_some_0_1 law_some_0_2 law_some_1_0 law_some_2_0
    exact (ass_cons (as_set (i := 3) sc.nd rfl (Or.inr rfl) (ae_lc (own := [("thing", 4)]) rfl sc.nd (ai_seq (av 1)) (blkOk_by (own := [("thing", 4)]) (N := N_law_some) (sc := (defScope st_law_some)) (by first | decide +kernel | rfl)) gloc_name (fun _ _ _ _ _ => (ag_name 4 sc.nd rfl (Or.inl rfl))) (fun _ _ _ _ _ => (ats_one (at_eq hr (ae_fn (ok_law_draw T) (hr.mono (by decide)) rfl T.law_draw.mg T.law_draw.kp T.law_draw.bi (aa_cons (av 0) (aa_consD ae_int aa_nil))) ae_int))) (fun _ _ _ _ _ => (av 4))))
      (ass_cons (as_for .never rfl (ai_seq (av 1)) (ag_name 4 sc.nd rfl (Or.inl rfl)) (ass_one (as_if (AW.at' (aw_and (at_lt (ae_rdB call_len (rs_len _) rfl T.no_len (by decide +kernel) (av 3)) (av 2)) (aw_and1 (at_notIn hr (av 4) (av 3))))) (ass_one (as_expr (ae_mut 3 PySem.F.slot_list_append PySem.F.type_list_append mt_append (ms_append _) (aa_consD (av 4) aa_nil)))) ass_nil)))
      (ass_one (as_ret (ae_lc (own := [("thing", 4)]) rfl sc.nd (ai_seq (av 1)) (blkOk_by (own := [("thing", 4)]) (N := N_law_some) (sc := (defScope st_law_some)) (by first | decide +kernel | rfl)) gloc_name (fun _ _ _ _ _ => (ag_name 4 sc.nd rfl (Or.inl rfl))) (fun _ _ _ _ _ => (ats_one (at_in hr (av 4) (av 3)))) (fun _ _ _ _ _ => (av 4)))))))) p_law_some
abbrev N_law_turned : List Str := ["d", "case", "way", "tables", "menu", "met", "at", "rows", "cells", "wide", "place", "name", "terms", "one", "other", "width"]
theorem sc_law_turned : FnScope N_law_turned ["d", "case", "way", "tables", "menu"] (defScope st_law_turned) := ⟨rfl, rfl, rfl, by decide +kernel, rfl, by decide +kernel, by decide +kernel⟩
theorem ok_law_turned (T : Txt K mg Z) : FnOk P w K mg base CX0 3 Z.f_law_turned Z.fd_law_turned ["d", "case", "way", "tables", "menu"] (toSp K S_law_turned) :=
  fn_of (N := N_law_turned) (B := B_law_turned) (a := a_law_turned) (k := 2) T.law_turned.fn sc_law_turned (by decide) (fun cdv A outer s H E hr => have sc := sc_law_turned; by
    unfold a_law_turned law_turned_0_0 law_turned_0_1 law_turned_0_2 law_turned_0_3 law_turned_0_4 law_turned_2_0 law_turned_4_0 law_turned_6_0 law_turned_8_0 law_turned_10_0 law_turned_11_0 law_turned_9_0 law_turned_9_1 law_turned_7_0 law_turned_5_0 law_turned_5_1 law_turned_3_0 law_turned_3_1 law_turned_1_0 law_turned_1_1 law_turned_1_2
    exact (ass_cons (as_par3 (i := 7) (j := 8) (l := 9) rfl sc.nd rfl rfl rfl rfl rfl rfl (an_cons (ae_rdT call_list_of (rs_list _) rfl T.no_list (by decide +kernel) (ae_ix hr (av 1) ae_int)) (an_cons (ae_rdT call_dictD (rs_dict _) rfl T.no_dict (by decide +kernel) (ae_ix hr (av 1) ae_int)) (an_cons (ae_rdT call_list_of (rs_list _) rfl T.no_list (by decide +kernel) (ae_ix hr (av 1) ae_int)) an_nil))))
      (ass_cons (as_set (i := 5) sc.nd rfl (Or.inr rfl) (ae_add (ae_fn (ok_law_variables T) (hr.mono (by decide)) rfl T.law_variables.mg T.law_variables.kp T.law_variables.bi (aa_cons (av 7) aa_nil)) (ae_lst (aa_consD ae_int aa_nil))))
      (ass_cons (as_set (i := 6) sc.nd rfl (Or.inl rfl) (ae_fn (ok_law_draw T) (hr.mono (by decide)) rfl T.law_draw.mg T.law_draw.kp T.law_draw.bi (aa_cons (av 0) (aa_consD (ae_rdB call_len (rs_len _) rfl T.no_len (by decide +kernel) (av 7)) aa_nil))))
      (ass_cons (as_if (at_eq hr (av 2) ae_int) (ass_cons (as_asg (ae_ix hr (av 7) (av 6)) (ag_tup rfl (ags_cons (ag_name 11 sc.nd rfl (Or.inl rfl)) (ags_cons (ag_name 12 sc.nd rfl (Or.inl rfl)) ags_nil))))
      (ass_cons (as_set (i := 10) sc.nd rfl (Or.inl rfl) (ae_fn (ok_law_draw T) (hr.mono (by decide)) rfl T.law_draw.mg T.law_draw.kp T.law_draw.bi (aa_cons (av 0) (aa_consD (ae_rdB call_len (rs_len _) rfl T.no_len (by decide +kernel) (av 12)) aa_nil))))
      (ass_one (as_asg (ae_tup (aa_consD (av 11) (aa_consD (ae_add (ae_add (ae_sl (av 12) ao_none (ao_some (av 10))) (ae_tup (aa_consD (ae_fn (ok_law_pick T) (hr.mono (by decide)) rfl T.law_pick.mg T.law_pick.kp T.law_pick.bi (aa_cons (av 0) (aa_cons (av 5) aa_nil))) aa_nil))) (ae_sl (av 12) (ao_some (ae_add (av 10) ae_int)) ao_none)) aa_nil))) (ag_sub hr (av 7) (av 6)))))) (ass_one (as_if (AW.at' (aw_and (at_eq hr (av 2) ae_int) (aw_and1 (at_gt (ae_rdB call_len (rs_len _) rfl T.no_len (by decide +kernel) (av 5)) ae_int)))) (ass_cons (as_asg (ae_sl (ae_fn (ok_law_mixed T) (hr.mono (by decide)) rfl T.law_mixed.mg T.law_mixed.kp T.law_mixed.bi (aa_cons (av 0) (aa_consD (ae_sl (av 5) ao_none (ao_some (ae_neg ae_int))) aa_nil))) ao_none (ao_some ae_int)) (ag_tup rfl (ags_cons (ag_name 13 sc.nd rfl (Or.inl rfl)) (ags_cons (ag_name 14 sc.nd rfl (Or.inl rfl)) ags_nil))))
      (ass_one (as_asg (ae_tup (aa_consD (ae_ix hr (av 8) (av 14)) (aa_consD (ae_ix hr (av 8) (av 13)) aa_nil))) (ag_tup rfl (ags_cons (ag_sub hr (av 8) (av 13)) (ags_cons (ag_sub hr (av 8) (av 14)) ags_nil)))))) (ass_one (as_if (at_eq hr (av 2) ae_int) (ass_cons (as_set (i := 10) sc.nd rfl (Or.inl rfl) (ae_fn (ok_law_draw T) (hr.mono (by decide)) rfl T.law_draw.mg T.law_draw.kp T.law_draw.bi (aa_cons (av 0) (aa_consD (ae_add (ae_rdB call_len (rs_len _) rfl T.no_len (by decide +kernel) (av 9)) ae_int) aa_nil))))
      (ass_one (as_set (i := 9) sc.nd rfl (Or.inl rfl) (ae_add (ae_add (ae_sl (av 9) ao_none (ao_some (av 10))) (ae_lst (aa_consD (ae_fn (ok_law_pick T) (hr.mono (by decide)) rfl T.law_pick.mg T.law_pick.kp T.law_pick.bi (aa_cons (av 0) (aa_cons (av 5) aa_nil))) aa_nil))) (ae_sl (av 9) (ao_some (ae_add (av 10) ae_int)) ao_none))))) (ass_one (as_if (AW.at' (aw_and (at_eq hr (av 2) ae_int) (aw_and1 (at_gt (ae_rdB call_len (rs_len _) rfl T.no_len (by decide +kernel) (av 7)) ae_int)))) (ass_one (as_expr (ae_mut 7 PySem.F.slot_list_pop PySem.F.type_list_pop mt_popAt (ms_popAt _) (aa_consD (av 6) aa_nil)))) (ass_one (as_if (at_eq hr (av 2) ae_int) (ass_cons (as_asg (ae_fn (ok_law_pick T) (hr.mono (by decide)) rfl T.law_pick.mg T.law_pick.kp T.law_pick.bi (aa_cons (av 0) (aa_cons (av 3) aa_nil))) (ag_tup rfl (ags_cons (ag_name 11 sc.nd rfl (Or.inl rfl)) (ags_cons (ag_name 15 sc.nd rfl (Or.inl rfl)) ags_nil))))
      (ass_one (as_expr (ae_mut 7 PySem.F.slot_list_append PySem.F.type_list_append mt_append (ms_append _) (aa_consD (ae_tup (aa_consD (av 11) (aa_consD (ae_rdT call_tuple_of (rs_tuple _) rfl T.no_tuple (by decide +kernel) (ae_lc (own := [("place", 10)]) rfl sc.nd (ai_range1 rfl T.no_range (aa_consD (av 15) aa_nil)) (blkOk_by (own := [("place", 10)]) (N := N_law_turned) (sc := (defScope st_law_turned)) (by first | decide +kernel | rfl)) gloc_name (fun _ _ _ _ _ => (ag_name 10 sc.nd rfl (Or.inl rfl))) (fun _ _ _ _ _ => ats_nil) (fun _ _ _ _ _ => (ae_fn (ok_law_pick T) (hr.mono (by decide)) rfl T.law_pick.mg T.law_pick.kp T.law_pick.bi (aa_cons (av 0) (aa_cons (av 5) aa_nil)))))) aa_nil))) aa_nil))))) (ass_one (as_if (at_gt (ae_rdB call_len (rs_len _) rfl T.no_len (by decide +kernel) (av 5)) ae_int) (ass_one (as_asg (ae_fn (ok_law_pick T) (hr.mono (by decide)) rfl T.law_pick.mg T.law_pick.kp T.law_pick.bi (aa_cons (av 0) (aa_cons (av 4) aa_nil))) (ag_sub hr (av 8) (ae_fn (ok_law_pick T) (hr.mono (by decide)) rfl T.law_pick.mg T.law_pick.kp T.law_pick.bi (aa_cons (av 0) (aa_consD (ae_sl (av 5) ao_none (ao_some (ae_neg ae_int))) aa_nil)))))) ass_nil)))))))))))
      (ass_one (as_ret (ae_fn (ok_law_whole T) (hr.mono (by decide)) rfl T.law_whole.mg T.law_whole.kp T.law_whole.bi (aa_consD (av 7) (aa_consD (av 8) (aa_consD (av 9) aa_nil))))))))))) p_law_turned
abbrev N_law : List Str := ["script", "d", "letters", "tables", "menu", "many", "case", "mine", "numbers", "names", "back", "place", "other", "made", "gone", "turned", "nots", "first", "second", "third", "before", "row", "term"]
theorem sc_law : FnScope N_law ["script"] (defScope st_law) := ⟨rfl, rfl, rfl, by decide +kernel, rfl, by decide +kernel, by decide +kernel⟩
theorem ok_law (T : Txt K mg Z) : FnOk P w K mg base CX0 23 Z.f_law Z.fd_law ["script"] (toSp K S_law) :=
  fn_of (N := N_law) (B := B_law) (a := a_law Z.C_Body) (k := 22) T.law.fn sc_law (by decide) (fun cdv A outer s H E hr => have sc := sc_law; by
    unfold a_law law_0_0 law_0_1 law_0_2 law_0_3 law_0_4 law_0_5 law_0_6 law_0_7 law_0_8 law_0_9 law_0_10 law_0_11 law_0_12 law_0_13 law_0_14 law_0_15 law_0_16 law_0_17 law_0_18 law_0_19 law_0_20 law_0_21 law_0_22 law_0_23 law_0_24 law_5_0 law_4_0 law_3_0 law_2_0 law_1_0 law_1_1
    exact (ass_cons (as_set (i := 1) sc.nd rfl (Or.inl rfl) (ae_fn (ok_law_begin T) (hr.mono (by decide)) rfl T.law_begin.mg T.law_begin.kp T.law_begin.bi (aa_consD (av 0) aa_nil)))
      (ass_cons (as_set (i := 2) sc.nd rfl (Or.inl rfl) (ae_fn (ok_law_names T) (hr.mono (by decide)) rfl T.law_names.mg T.law_names.kp T.law_names.bi (aa_cons (av 1) (aa_consD ae_int aa_nil))))
      (ass_cons (as_set (i := 3) sc.nd rfl (Or.inl rfl) (ae_lst (aa_consD (ae_tup (aa_consD (ae_ix hr (av 2) ae_int) (aa_consD (ae_add ae_int (ae_fn (ok_law_draw T) (hr.mono (by decide)) rfl T.law_draw.mg T.law_draw.kp T.law_draw.bi (aa_cons (av 1) (aa_consD ae_int aa_nil)))) aa_nil))) (aa_consD (ae_tup (aa_consD (ae_ix hr (av 2) ae_int) (aa_consD (ae_add ae_int (ae_fn (ok_law_draw T) (hr.mono (by decide)) rfl T.law_draw.mg T.law_draw.kp T.law_draw.bi (aa_cons (av 1) (aa_consD ae_int aa_nil)))) aa_nil))) aa_nil))))
      (ass_cons (as_set (i := 4) sc.nd rfl (Or.inl rfl) (ae_fn (ok_law_pick T) (hr.mono (by decide)) rfl T.law_pick.mg T.law_pick.kp T.law_pick.bi (aa_cons (av 1) (aa_consD (ae_lst (aa_consD (ae_lst (aa_consD (ae_tup (aa_consD ae_int (aa_consD ae_int aa_nil))) aa_nil)) (aa_consD (ae_lst (aa_consD (ae_tup (aa_consD ae_int (aa_consD ae_int aa_nil))) (aa_consD (ae_tup (aa_consD ae_int (aa_consD ae_int aa_nil))) aa_nil))) (aa_consD (ae_lst (aa_consD (ae_tup (aa_consD ae_int (aa_consD ae_int aa_nil))) (aa_consD (ae_tup (aa_consD ae_int (aa_consD ae_int aa_nil))) (aa_consD (ae_tup (aa_consD ae_int (aa_consD ae_int aa_nil))) aa_nil)))) aa_nil)))) aa_nil))))
      (ass_cons (as_set (i := 5) sc.nd rfl (Or.inl rfl) (ae_if (at_eq hr (ae_fn (ok_law_draw T) (hr.mono (by decide)) rfl T.law_draw.mg T.law_draw.kp T.law_draw.bi (aa_cons (av 1) (aa_consD ae_int aa_nil))) ae_int) (ae_add ae_int (ae_fn (ok_law_draw T) (hr.mono (by decide)) rfl T.law_draw.mg T.law_draw.kp T.law_draw.bi (aa_cons (av 1) (aa_consD ae_int aa_nil)))) (ae_add ae_int (ae_fn (ok_law_draw T) (hr.mono (by decide)) rfl T.law_draw.mg T.law_draw.kp T.law_draw.bi (aa_cons (av 1) (aa_consD ae_int aa_nil))))))
      (ass_cons (as_set (i := 6) sc.nd rfl (Or.inl rfl) (ae_fn (ok_law_drawn T) (hr.mono (by decide)) rfl T.law_drawn.mg T.law_drawn.kp T.law_drawn.bi (aa_cons (av 1) (aa_consD (av 3) (aa_consD (av 5) (aa_consD (av 4) aa_nil))))))
      (ass_cons (as_set (i := 7) sc.nd rfl (Or.inl rfl) (ae_fn (ok_law_variables T) (hr.mono (by decide)) rfl T.law_variables.mg T.law_variables.kp T.law_variables.bi (aa_consD (ae_ix hr (av 6) ae_int) aa_nil)))
      (ass_cons (as_set (i := 8) sc.nd rfl (Or.inl rfl) (ae_fn (ok_law_mixed T) (hr.mono (by decide)) rfl T.law_mixed.mg T.law_mixed.kp T.law_mixed.bi (aa_cons (av 1) (aa_consD (ae_lst (aa_consD (ae_neg ae_int) (aa_consD (ae_neg ae_int) (aa_consD (ae_neg ae_int) (aa_consD (ae_neg ae_int) (aa_consD (ae_neg ae_int) (aa_consD (ae_neg ae_int) (aa_consD (ae_neg ae_int) (aa_consD (ae_neg ae_int) aa_nil))))))))) aa_nil))))
      (ass_cons (as_set (i := 9) sc.nd rfl (Or.inl rfl) ae_newK)
      (ass_cons (as_set (i := 10) sc.nd rfl (Or.inl rfl) ae_newK)
      (ass_cons (as_for .never rfl (ai_range1 rfl T.no_range (aa_consD (ae_rdB call_len (rs_len _) rfl T.no_len (by decide +kernel) (av 7)) aa_nil)) (ag_name 11 sc.nd rfl (Or.inl rfl)) (ass_cons (as_asg (ae_ix hr (av 8) (av 11)) (ag_sub hr (av 9) (ae_ix hr (av 7) (av 11))))
      (ass_one (as_asg (ae_ix hr (av 7) (av 11)) (ag_sub hr (av 10) (ae_ix hr (av 8) (av 11)))))))
      (ass_cons (as_set (i := 12) sc.nd rfl (Or.inl rfl) (ae_fn (ok_law_exchanged T) (hr.mono (by decide)) rfl T.law_exchanged.mg T.law_exchanged.kp T.law_exchanged.bi (aa_cons (av 1) (aa_consD (av 6) (aa_consD (av 9) aa_nil)))))
      (ass_cons (as_set (i := 13) sc.nd rfl (Or.inl rfl) (ae_fn (ok_law_laid T) (hr.mono (by decide)) rfl T.law_laid.mg T.law_laid.kp T.law_laid.bi (aa_consD (av 7) (aa_consD (av 9) aa_nil))))
      (ass_cons (as_set (i := 14) sc.nd rfl (Or.inl rfl) (ae_fn (ok_law_laid T) (hr.mono (by decide)) rfl T.law_laid.mg T.law_laid.kp T.law_laid.bi (aa_consD (ae_fn (ok_law_variables T) (hr.mono (by decide)) rfl T.law_variables.mg T.law_variables.kp T.law_variables.bi (aa_consD (ae_ix hr (av 12) ae_int) aa_nil)) (aa_consD (av 10) aa_nil))))
      (ass_cons (as_set (i := 15) sc.nd rfl (Or.inl rfl) (ae_fn (ok_law_turned T) (hr.mono (by decide)) rfl T.law_turned.mg T.law_turned.kp T.law_turned.bi (aa_cons (av 1) (aa_consD (av 12) (aa_consD (ae_fn (ok_law_draw T) (hr.mono (by decide)) rfl T.law_draw.mg T.law_draw.kp T.law_draw.bi (aa_cons (av 1) (aa_consD ae_int aa_nil))) (aa_consD (av 3) (aa_consD (av 4) aa_nil)))))))
      (ass_cons (as_set (i := 16) sc.nd rfl (Or.inl rfl) (ae_rdT call_tuple_of (rs_tuple _) rfl T.no_tuple (by decide +kernel) (ae_sl (ae_fn (ok_law_some T) (hr.mono (by decide)) rfl T.law_some.mg T.law_some.kp T.law_some.bi (aa_cons (av 1) (aa_consD (ae_lc (own := [("row", 21)]) rfl sc.nd (ai_seq (ae_ix hr (av 6) ae_int)) (blkOk_by (own := [("row", 21)]) (N := N_law) (sc := (defScope st_law)) (by first | decide +kernel | rfl)) gloc_name (fun _ _ _ _ _ => (ag_name 21 sc.nd rfl (Or.inl rfl))) (fun _ _ _ _ _ => ats_nil) (fun _ _ _ _ _ => (ae_tup (aa_consD (ae_ix hr (av 21) ae_int) (aa_consD (ae_rdT call_tuple_of (rs_tuple _) rfl T.no_tuple (by decide +kernel) (ae_lc (own := [("term", 22)]) rfl sc.nd (ai_seq (ae_ix hr (av 21) ae_int)) (blkOk_by (own := [("term", 22)]) (N := N_law) (sc := _) (by first | decide +kernel | rfl)) gloc_name (fun _ _ _ _ _ => (ag_name 22 sc.nd rfl (Or.inl rfl))) (fun _ _ _ _ _ => ats_nil) (fun _ _ _ _ _ => ae_int))) aa_nil))))) (aa_consD ae_int aa_nil)))) ao_none (ao_some ae_int))))
      (ass_cons (as_set (i := 17) sc.nd rfl (Or.inl rfl) (ae_fn (ok_law_body_of T) (hr.mono (by decide)) rfl T.law_body_of.mg T.law_body_of.kp T.law_body_of.bi (aa_consD (av 6) (aa_consD (ae_rdT call_tuple_of (rs_tuple _) rfl T.no_tuple (by decide +kernel) (ae_fn (ok_law_unlike T) (hr.mono (by decide)) rfl T.law_unlike.mg T.law_unlike.kp T.law_unlike.bi (aa_consD (av 16) aa_nil))) aa_nil))))
      (ass_cons (as_set (i := 18) sc.nd rfl (Or.inl rfl) (ae_fn (ok_law_body_of T) (hr.mono (by decide)) rfl T.law_body_of.mg T.law_body_of.kp T.law_body_of.bi (aa_consD (av 12) (aa_consD (ae_tup aa_nil) aa_nil))))
      (ass_cons (as_set (i := 19) sc.nd rfl (Or.inl rfl) (ae_fn (ok_law_body_of T) (hr.mono (by decide)) rfl T.law_body_of.mg T.law_body_of.kp T.law_body_of.bi (aa_consD (av 15) (aa_consD (ae_tup aa_nil) aa_nil))))
      (ass_cons (as_set (i := 20) sc.nd rfl (Or.inl rfl) (ae_tup (aa_consD (ae_meth0 T.c_Body.cl T.Body_tree.me (ok_Body_tree T) (hr.mono (by decide)) T.Body_tree.bi (AE.frz (av 17))) (aa_consD (ae_meth0 T.c_Body.cl T.Body_tree.me (ok_Body_tree T) (hr.mono (by decide)) T.Body_tree.bi (AE.frz (av 18))) (aa_consD (ae_meth0 T.c_Body.cl T.Body_tree.me (ok_Body_tree T) (hr.mono (by decide)) T.Body_tree.bi (AE.frz (av 19))) aa_nil)))))
      (ass_cons (as_if (at_not (at_tru (ae_fn (ok_law_agrees T) (hr.mono (by decide)) rfl T.law_agrees.mg T.law_agrees.kp T.law_agrees.bi (aa_cons (av 1) (aa_consD (av 6) (aa_consD (av 12) (aa_consD (av 17) (aa_consD (av 18) (aa_consD (av 13) aa_nil))))))))) (ass_one (as_ret ae_bl)) ass_nil)
      (ass_cons (as_if (at_not (at_tru (ae_fn (ok_law_agrees T) (hr.mono (by decide)) rfl T.law_agrees.mg T.law_agrees.kp T.law_agrees.bi (aa_cons (av 1) (aa_consD (av 6) (aa_consD (av 15) (aa_consD (av 17) (aa_consD (av 19) (aa_consD (av 13) aa_nil))))))))) (ass_one (as_ret ae_bl)) ass_nil)
      (ass_cons (as_if (at_not (at_tru (ae_fn (ok_law_agrees T) (hr.mono (by decide)) rfl T.law_agrees.mg T.law_agrees.kp T.law_agrees.bi (aa_cons (av 1) (aa_consD (av 15) (aa_consD (av 6) (aa_consD (av 19) (aa_consD (av 17) (aa_consD (av 14) aa_nil))))))))) (ass_one (as_ret ae_bl)) ass_nil)
      (ass_cons (as_if (at_not (at_tru (ae_fn (ok_law_agrees T) (hr.mono (by decide)) rfl T.law_agrees.mg T.law_agrees.kp T.law_agrees.bi (aa_cons (av 1) (aa_consD (av 12) (aa_consD (av 6) (aa_consD (av 18) (aa_consD (av 17) (aa_consD (av 14) aa_nil))))))))) (ass_one (as_ret ae_bl)) ass_nil)
      (ass_one (as_ret (ae_eq hr (ae_tup (aa_consD (ae_meth0 T.c_Body.cl T.Body_tree.me (ok_Body_tree T) (hr.mono (by decide)) T.Body_tree.bi (AE.frz (av 17))) (aa_consD (ae_meth0 T.c_Body.cl T.Body_tree.me (ok_Body_tree T) (hr.mono (by decide)) T.Body_tree.bi (AE.frz (av 18))) (aa_consD (ae_meth0 T.c_Body.cl T.Body_tree.me (ok_Body_tree T) (hr.mono (by decide)) T.Body_tree.bi (AE.frz (av 19))) aa_nil)))) (av 20))))))))))))))))))))))))))))) p_law
end
/- order: Body.tree:1 _law_is_int:1 _law_laid:1 _law_unlike:1 _law_is_map:2 _law_variables:1 _law_maps:3 _law_draw:1 _law_mixed:2 _law_reads:3 _law_pick:2 _law_spoilt:3 Body.variables:1 Body.span:1 put_kinds:2 match:20 outline:2 same_kind:21 laid:1 is_whole:1 names_from:2 shows_kind:3 _law_agrees:22 _law_begin:1 Body.__init__:1 _law_body_of:3 _law_whole:2 _law_drawn:3 _law_exchanged:3 _law_names:3 _law_some:2 _law_turned:3 law:23 -/
end AL
namespace AL
open PySem L2
set_option maxHeartbeats 0 in
theorem all_mk {l : PySem.W.OpenLaw} {w : World} {K : PySem.W.Frag} {h : Heap} {mg : Str → Option Value} {fa C_Body f_Body_tree f_law_is_int f_law_laid f_law_unlike f_law_is_map f_law_variables f_law_maps f_law_draw f_law_mixed f_law_reads f_law_pick f_law_spoilt f_Body_variables f_Body_span f_put_kinds f_matchD f_outline f_same_kind f_laid f_is_whole f_names_from f_shows_kind f_law_agrees f_law_begin f_Body_init f_law_body_of f_law_whole f_law_drawn f_law_exchanged f_law_names f_law_some f_law_turned f_law : Addr} (X : K.In h) (G : h.Ns mainGlobals mg) (hfa : mg "law" = some (.ref fa))
    {od_Body_tree an_Body_tree : Option Addr} {sl_Body_tree : Array (Option Value)} {oc_Body_tree kV_Body_tree dc_Body_tree pm_Body_tree cd_Body_tree ct_Body_tree : Value}
    {od_law_is_int an_law_is_int : Option Addr} {sl_law_is_int : Array (Option Value)} {oc_law_is_int kV_law_is_int dc_law_is_int pm_law_is_int cd_law_is_int ct_law_is_int : Value}
    {od_law_laid an_law_laid : Option Addr} {sl_law_laid : Array (Option Value)} {oc_law_laid kV_law_laid dc_law_laid pm_law_laid cd_law_laid ct_law_laid : Value}
    {od_law_unlike an_law_unlike : Option Addr} {sl_law_unlike : Array (Option Value)} {oc_law_unlike kV_law_unlike dc_law_unlike pm_law_unlike cd_law_unlike ct_law_unlike : Value}
    {od_law_is_map an_law_is_map : Option Addr} {sl_law_is_map : Array (Option Value)} {oc_law_is_map kV_law_is_map dc_law_is_map pm_law_is_map cd_law_is_map ct_law_is_map : Value}
    {od_law_variables an_law_variables : Option Addr} {sl_law_variables : Array (Option Value)} {oc_law_variables kV_law_variables dc_law_variables pm_law_variables cd_law_variables ct_law_variables : Value}
    {od_law_maps an_law_maps : Option Addr} {sl_law_maps : Array (Option Value)} {oc_law_maps kV_law_maps dc_law_maps pm_law_maps cd_law_maps ct_law_maps : Value}
    {od_law_draw an_law_draw : Option Addr} {sl_law_draw : Array (Option Value)} {oc_law_draw kV_law_draw dc_law_draw pm_law_draw cd_law_draw ct_law_draw : Value}
    {od_law_mixed an_law_mixed : Option Addr} {sl_law_mixed : Array (Option Value)} {oc_law_mixed kV_law_mixed dc_law_mixed pm_law_mixed cd_law_mixed ct_law_mixed : Value}
    {od_law_reads an_law_reads : Option Addr} {sl_law_reads : Array (Option Value)} {oc_law_reads kV_law_reads dc_law_reads pm_law_reads cd_law_reads ct_law_reads : Value}
    {od_law_pick an_law_pick : Option Addr} {sl_law_pick : Array (Option Value)} {oc_law_pick kV_law_pick dc_law_pick pm_law_pick cd_law_pick ct_law_pick : Value}
    {od_law_spoilt an_law_spoilt : Option Addr} {sl_law_spoilt : Array (Option Value)} {oc_law_spoilt kV_law_spoilt dc_law_spoilt pm_law_spoilt cd_law_spoilt ct_law_spoilt : Value}
    {od_Body_variables an_Body_variables : Option Addr} {sl_Body_variables : Array (Option Value)} {oc_Body_variables kV_Body_variables dc_Body_variables pm_Body_variables cd_Body_variables ct_Body_variables : Value}
    {od_Body_span an_Body_span : Option Addr} {sl_Body_span : Array (Option Value)} {oc_Body_span kV_Body_span dc_Body_span pm_Body_span cd_Body_span ct_Body_span : Value}
    {od_put_kinds an_put_kinds : Option Addr} {sl_put_kinds : Array (Option Value)} {oc_put_kinds kV_put_kinds dc_put_kinds pm_put_kinds cd_put_kinds ct_put_kinds : Value}
    {od_matchD an_matchD : Option Addr} {sl_matchD : Array (Option Value)} {oc_matchD kV_matchD dc_matchD pm_matchD cd_matchD ct_matchD : Value}
    {od_outline an_outline : Option Addr} {sl_outline : Array (Option Value)} {oc_outline kV_outline dc_outline pm_outline cd_outline ct_outline : Value}
    {od_same_kind an_same_kind : Option Addr} {sl_same_kind : Array (Option Value)} {oc_same_kind kV_same_kind dc_same_kind pm_same_kind cd_same_kind ct_same_kind : Value}
    {od_laid an_laid : Option Addr} {sl_laid : Array (Option Value)} {oc_laid kV_laid dc_laid pm_laid cd_laid ct_laid : Value}
    {od_is_whole an_is_whole : Option Addr} {sl_is_whole : Array (Option Value)} {oc_is_whole kV_is_whole dc_is_whole pm_is_whole cd_is_whole ct_is_whole : Value}
    {od_names_from an_names_from : Option Addr} {sl_names_from : Array (Option Value)} {oc_names_from kV_names_from dc_names_from pm_names_from cd_names_from ct_names_from : Value}
    {od_shows_kind an_shows_kind : Option Addr} {sl_shows_kind : Array (Option Value)} {oc_shows_kind kV_shows_kind dc_shows_kind pm_shows_kind cd_shows_kind ct_shows_kind : Value}
    {od_law_agrees an_law_agrees : Option Addr} {sl_law_agrees : Array (Option Value)} {oc_law_agrees kV_law_agrees dc_law_agrees pm_law_agrees cd_law_agrees ct_law_agrees : Value}
    {od_law_begin an_law_begin : Option Addr} {sl_law_begin : Array (Option Value)} {oc_law_begin kV_law_begin dc_law_begin pm_law_begin cd_law_begin ct_law_begin : Value}
    {od_Body_init an_Body_init : Option Addr} {sl_Body_init : Array (Option Value)} {oc_Body_init kV_Body_init dc_Body_init pm_Body_init cd_Body_init ct_Body_init : Value}
    {od_law_body_of an_law_body_of : Option Addr} {sl_law_body_of : Array (Option Value)} {oc_law_body_of kV_law_body_of dc_law_body_of pm_law_body_of cd_law_body_of ct_law_body_of : Value}
    {od_law_whole an_law_whole : Option Addr} {sl_law_whole : Array (Option Value)} {oc_law_whole kV_law_whole dc_law_whole pm_law_whole cd_law_whole ct_law_whole : Value}
    {od_law_drawn an_law_drawn : Option Addr} {sl_law_drawn : Array (Option Value)} {oc_law_drawn kV_law_drawn dc_law_drawn pm_law_drawn cd_law_drawn ct_law_drawn : Value}
    {od_law_exchanged an_law_exchanged : Option Addr} {sl_law_exchanged : Array (Option Value)} {oc_law_exchanged kV_law_exchanged dc_law_exchanged pm_law_exchanged cd_law_exchanged ct_law_exchanged : Value}
    {od_law_names an_law_names : Option Addr} {sl_law_names : Array (Option Value)} {oc_law_names kV_law_names dc_law_names pm_law_names cd_law_names ct_law_names : Value}
    {od_law_some an_law_some : Option Addr} {sl_law_some : Array (Option Value)} {oc_law_some kV_law_some dc_law_some pm_law_some cd_law_some ct_law_some : Value}
    {od_law_turned an_law_turned : Option Addr} {sl_law_turned : Array (Option Value)} {oc_law_turned kV_law_turned dc_law_turned pm_law_turned cd_law_turned ct_law_turned : Value}
    {od_law an_law : Option Addr} {sl_law : Array (Option Value)} {oc_law kV_law dc_law pm_law cd_law ct_law : Value}
    (aCBody : PySem.W.nsIn K mainGlobals "Body" = some (some (.ref C_Body)))
    (pgBody : PySem.W.plainGet K C_Body Str.empty = true)
    (hdBody : PySem.W.hasDictIn K C_Body = true)
    (poBody : PySem.W.plainOver K C_Body = true)
    (saBody : PySem.W.findIn K (.ref C_Body) "__setattr__" = some (some (.builtin "object.__setattr__")))
    (mkBody : PySem.W.makesIn K C_Body = true)
    (kcBody : PySem.W.keepIn K (.ref C_Body) = true)
    (a_Body_tree : PySem.W.findIn K (.ref C_Body) "tree" = some (some (.ref f_Body_tree)))
    (i_Body_tree : PySem.W.isFn K (.ref f_Body_tree) = true)
    (l_Body_tree : K.lookup f_Body_tree = some ⟨oc_Body_tree, od_Body_tree, .func (PySem.W.fnOf "tree" "Body.tree" (defArgs st_Body_tree) (defBody st_Body_tree) (defScope st_Body_tree) .none kV_Body_tree dc_Body_tree pm_Body_tree an_Body_tree cd_Body_tree ct_Body_tree), sl_Body_tree⟩)
    (c_Body_tree : PySem.W.codeIn K cd_Body_tree "Body.tree" = true)
    (k_Body_tree : PySem.W.keepIn K (.ref f_Body_tree) = true)
    (a_law_is_int : PySem.W.nsIn K mainGlobals "_law_is_int" = some (some (.ref f_law_is_int)))
    (l_law_is_int : K.lookup f_law_is_int = some ⟨oc_law_is_int, od_law_is_int, .func (PySem.W.fnOf "_law_is_int" "_law_is_int" (defArgs st_law_is_int) (defBody st_law_is_int) (defScope st_law_is_int) .none kV_law_is_int dc_law_is_int pm_law_is_int an_law_is_int cd_law_is_int ct_law_is_int), sl_law_is_int⟩)
    (c_law_is_int : PySem.W.codeIn K cd_law_is_int "_law_is_int" = true)
    (k_law_is_int : PySem.W.keepIn K (.ref f_law_is_int) = true)
    (a_law_laid : PySem.W.nsIn K mainGlobals "_law_laid" = some (some (.ref f_law_laid)))
    (l_law_laid : K.lookup f_law_laid = some ⟨oc_law_laid, od_law_laid, .func (PySem.W.fnOf "_law_laid" "_law_laid" (defArgs st_law_laid) (defBody st_law_laid) (defScope st_law_laid) .none kV_law_laid dc_law_laid pm_law_laid an_law_laid cd_law_laid ct_law_laid), sl_law_laid⟩)
    (c_law_laid : PySem.W.codeIn K cd_law_laid "_law_laid" = true)
    (k_law_laid : PySem.W.keepIn K (.ref f_law_laid) = true)
    (a_law_unlike : PySem.W.nsIn K mainGlobals "_law_unlike" = some (some (.ref f_law_unlike)))
    (l_law_unlike : K.lookup f_law_unlike = some ⟨oc_law_unlike, od_law_unlike, .func (PySem.W.fnOf "_law_unlike" "_law_unlike" (defArgs st_law_unlike) (defBody st_law_unlike) (defScope st_law_unlike) .none kV_law_unlike dc_law_unlike pm_law_unlike an_law_unlike cd_law_unlike ct_law_unlike), sl_law_unlike⟩)
    (c_law_unlike : PySem.W.codeIn K cd_law_unlike "_law_unlike" = true)
    (k_law_unlike : PySem.W.keepIn K (.ref f_law_unlike) = true)
    (a_law_is_map : PySem.W.nsIn K mainGlobals "_law_is_map" = some (some (.ref f_law_is_map)))
    (l_law_is_map : K.lookup f_law_is_map = some ⟨oc_law_is_map, od_law_is_map, .func (PySem.W.fnOf "_law_is_map" "_law_is_map" (defArgs st_law_is_map) (defBody st_law_is_map) (defScope st_law_is_map) .none kV_law_is_map dc_law_is_map pm_law_is_map an_law_is_map cd_law_is_map ct_law_is_map), sl_law_is_map⟩)
    (c_law_is_map : PySem.W.codeIn K cd_law_is_map "_law_is_map" = true)
    (k_law_is_map : PySem.W.keepIn K (.ref f_law_is_map) = true)
    (a_law_variables : PySem.W.nsIn K mainGlobals "_law_variables" = some (some (.ref f_law_variables)))
    (l_law_variables : K.lookup f_law_variables = some ⟨oc_law_variables, od_law_variables, .func (PySem.W.fnOf "_law_variables" "_law_variables" (defArgs st_law_variables) (defBody st_law_variables) (defScope st_law_variables) .none kV_law_variables dc_law_variables pm_law_variables an_law_variables cd_law_variables ct_law_variables), sl_law_variables⟩)
    (c_law_variables : PySem.W.codeIn K cd_law_variables "_law_variables" = true)
    (k_law_variables : PySem.W.keepIn K (.ref f_law_variables) = true)
    (a_law_maps : PySem.W.nsIn K mainGlobals "_law_maps" = some (some (.ref f_law_maps)))
    (l_law_maps : K.lookup f_law_maps = some ⟨oc_law_maps, od_law_maps, .func (PySem.W.fnOf "_law_maps" "_law_maps" (defArgs st_law_maps) (defBody st_law_maps) (defScope st_law_maps) .none kV_law_maps dc_law_maps pm_law_maps an_law_maps cd_law_maps ct_law_maps), sl_law_maps⟩)
    (c_law_maps : PySem.W.codeIn K cd_law_maps "_law_maps" = true)
    (k_law_maps : PySem.W.keepIn K (.ref f_law_maps) = true)
    (a_law_draw : PySem.W.nsIn K mainGlobals "_law_draw" = some (some (.ref f_law_draw)))
    (l_law_draw : K.lookup f_law_draw = some ⟨oc_law_draw, od_law_draw, .func (PySem.W.fnOf "_law_draw" "_law_draw" (defArgs st_law_draw) (defBody st_law_draw) (defScope st_law_draw) .none kV_law_draw dc_law_draw pm_law_draw an_law_draw cd_law_draw ct_law_draw), sl_law_draw⟩)
    (c_law_draw : PySem.W.codeIn K cd_law_draw "_law_draw" = true)
    (k_law_draw : PySem.W.keepIn K (.ref f_law_draw) = true)
    (a_law_mixed : PySem.W.nsIn K mainGlobals "_law_mixed" = some (some (.ref f_law_mixed)))
    (l_law_mixed : K.lookup f_law_mixed = some ⟨oc_law_mixed, od_law_mixed, .func (PySem.W.fnOf "_law_mixed" "_law_mixed" (defArgs st_law_mixed) (defBody st_law_mixed) (defScope st_law_mixed) .none kV_law_mixed dc_law_mixed pm_law_mixed an_law_mixed cd_law_mixed ct_law_mixed), sl_law_mixed⟩)
    (c_law_mixed : PySem.W.codeIn K cd_law_mixed "_law_mixed" = true)
    (k_law_mixed : PySem.W.keepIn K (.ref f_law_mixed) = true)
    (a_law_reads : PySem.W.nsIn K mainGlobals "_law_reads" = some (some (.ref f_law_reads)))
    (l_law_reads : K.lookup f_law_reads = some ⟨oc_law_reads, od_law_reads, .func (PySem.W.fnOf "_law_reads" "_law_reads" (defArgs st_law_reads) (defBody st_law_reads) (defScope st_law_reads) .none kV_law_reads dc_law_reads pm_law_reads an_law_reads cd_law_reads ct_law_reads), sl_law_reads⟩)
    (c_law_reads : PySem.W.codeIn K cd_law_reads "_law_reads" = true)
    (k_law_reads : PySem.W.keepIn K (.ref f_law_reads) = true)
    (a_law_pick : PySem.W.nsIn K mainGlobals "_law_pick" = some (some (.ref f_law_pick)))
    (l_law_pick : K.lookup f_law_pick = some ⟨oc_law_pick, od_law_pick, .func (PySem.W.fnOf "_law_pick" "_law_pick" (defArgs st_law_pick) (defBody st_law_pick) (defScope st_law_pick) .none kV_law_pick dc_law_pick pm_law_pick an_law_pick cd_law_pick ct_law_pick), sl_law_pick⟩)
    (c_law_pick : PySem.W.codeIn K cd_law_pick "_law_pick" = true)
    (k_law_pick : PySem.W.keepIn K (.ref f_law_pick) = true)
    (a_law_spoilt : PySem.W.nsIn K mainGlobals "_law_spoilt" = some (some (.ref f_law_spoilt)))
    (l_law_spoilt : K.lookup f_law_spoilt = some ⟨oc_law_spoilt, od_law_spoilt, .func (PySem.W.fnOf "_law_spoilt" "_law_spoilt" (defArgs st_law_spoilt) (defBody st_law_spoilt) (defScope st_law_spoilt) .none kV_law_spoilt dc_law_spoilt pm_law_spoilt an_law_spoilt cd_law_spoilt ct_law_spoilt), sl_law_spoilt⟩)
    (c_law_spoilt : PySem.W.codeIn K cd_law_spoilt "_law_spoilt" = true)
    (k_law_spoilt : PySem.W.keepIn K (.ref f_law_spoilt) = true)
    (a_Body_variables : PySem.W.findIn K (.ref C_Body) "variables" = some (some (.ref f_Body_variables)))
    (i_Body_variables : PySem.W.isFn K (.ref f_Body_variables) = true)
    (l_Body_variables : K.lookup f_Body_variables = some ⟨oc_Body_variables, od_Body_variables, .func (PySem.W.fnOf "variables" "Body.variables" (defArgs st_Body_variables) (defBody st_Body_variables) (defScope st_Body_variables) .none kV_Body_variables dc_Body_variables pm_Body_variables an_Body_variables cd_Body_variables ct_Body_variables), sl_Body_variables⟩)
    (c_Body_variables : PySem.W.codeIn K cd_Body_variables "Body.variables" = true)
    (k_Body_variables : PySem.W.keepIn K (.ref f_Body_variables) = true)
    (a_Body_span : PySem.W.findIn K (.ref C_Body) "span" = some (some (.ref f_Body_span)))
    (i_Body_span : PySem.W.isFn K (.ref f_Body_span) = true)
    (l_Body_span : K.lookup f_Body_span = some ⟨oc_Body_span, od_Body_span, .func (PySem.W.fnOf "span" "Body.span" (defArgs st_Body_span) (defBody st_Body_span) (defScope st_Body_span) .none kV_Body_span dc_Body_span pm_Body_span an_Body_span cd_Body_span ct_Body_span), sl_Body_span⟩)
    (c_Body_span : PySem.W.codeIn K cd_Body_span "Body.span" = true)
    (k_Body_span : PySem.W.keepIn K (.ref f_Body_span) = true)
    (a_put_kinds : PySem.W.nsIn K mainGlobals "put_kinds" = some (some (.ref f_put_kinds)))
    (l_put_kinds : K.lookup f_put_kinds = some ⟨oc_put_kinds, od_put_kinds, .func (PySem.W.fnOf "put_kinds" "put_kinds" (defArgs st_put_kinds) (defBody st_put_kinds) (defScope st_put_kinds) .none kV_put_kinds dc_put_kinds pm_put_kinds an_put_kinds cd_put_kinds ct_put_kinds), sl_put_kinds⟩)
    (c_put_kinds : PySem.W.codeIn K cd_put_kinds "put_kinds" = true)
    (k_put_kinds : PySem.W.keepIn K (.ref f_put_kinds) = true)
    (a_matchD : PySem.W.nsIn K mainGlobals "match" = some (some (.ref f_matchD)))
    (l_matchD : K.lookup f_matchD = some ⟨oc_matchD, od_matchD, .func (PySem.W.fnOf "match" "match" (defArgs st_matchD) (defBody st_matchD) (defScope st_matchD) .none kV_matchD dc_matchD pm_matchD an_matchD cd_matchD ct_matchD), sl_matchD⟩)
    (c_matchD : PySem.W.codeIn K cd_matchD "match" = true)
    (k_matchD : PySem.W.keepIn K (.ref f_matchD) = true)
    (a_outline : PySem.W.nsIn K mainGlobals "outline" = some (some (.ref f_outline)))
    (l_outline : K.lookup f_outline = some ⟨oc_outline, od_outline, .func (PySem.W.fnOf "outline" "outline" (defArgs st_outline) (defBody st_outline) (defScope st_outline) .none kV_outline dc_outline pm_outline an_outline cd_outline ct_outline), sl_outline⟩)
    (c_outline : PySem.W.codeIn K cd_outline "outline" = true)
    (k_outline : PySem.W.keepIn K (.ref f_outline) = true)
    (a_same_kind : PySem.W.nsIn K mainGlobals "same_kind" = some (some (.ref f_same_kind)))
    (l_same_kind : K.lookup f_same_kind = some ⟨oc_same_kind, od_same_kind, .func (PySem.W.fnOf "same_kind" "same_kind" (defArgs st_same_kind) (defBody st_same_kind) (defScope st_same_kind) .none kV_same_kind dc_same_kind pm_same_kind an_same_kind cd_same_kind ct_same_kind), sl_same_kind⟩)
    (c_same_kind : PySem.W.codeIn K cd_same_kind "same_kind" = true)
    (k_same_kind : PySem.W.keepIn K (.ref f_same_kind) = true)
    (a_laid : PySem.W.nsIn K mainGlobals "laid" = some (some (.ref f_laid)))
    (l_laid : K.lookup f_laid = some ⟨oc_laid, od_laid, .func (PySem.W.fnOf "laid" "laid" (defArgs st_laid) (defBody st_laid) (defScope st_laid) .none kV_laid dc_laid pm_laid an_laid cd_laid ct_laid), sl_laid⟩)
    (c_laid : PySem.W.codeIn K cd_laid "laid" = true)
    (k_laid : PySem.W.keepIn K (.ref f_laid) = true)
    (a_is_whole : PySem.W.nsIn K mainGlobals "is_whole" = some (some (.ref f_is_whole)))
    (l_is_whole : K.lookup f_is_whole = some ⟨oc_is_whole, od_is_whole, .func (PySem.W.fnOf "is_whole" "is_whole" (defArgs st_is_whole) (defBody st_is_whole) (defScope st_is_whole) .none kV_is_whole dc_is_whole pm_is_whole an_is_whole cd_is_whole ct_is_whole), sl_is_whole⟩)
    (c_is_whole : PySem.W.codeIn K cd_is_whole "is_whole" = true)
    (k_is_whole : PySem.W.keepIn K (.ref f_is_whole) = true)
    (a_names_from : PySem.W.nsIn K mainGlobals "names_from" = some (some (.ref f_names_from)))
    (l_names_from : K.lookup f_names_from = some ⟨oc_names_from, od_names_from, .func (PySem.W.fnOf "names_from" "names_from" (defArgs st_names_from) (defBody st_names_from) (defScope st_names_from) .none kV_names_from dc_names_from pm_names_from an_names_from cd_names_from ct_names_from), sl_names_from⟩)
    (c_names_from : PySem.W.codeIn K cd_names_from "names_from" = true)
    (k_names_from : PySem.W.keepIn K (.ref f_names_from) = true)
    (a_shows_kind : PySem.W.nsIn K mainGlobals "shows_kind" = some (some (.ref f_shows_kind)))
    (l_shows_kind : K.lookup f_shows_kind = some ⟨oc_shows_kind, od_shows_kind, .func (PySem.W.fnOf "shows_kind" "shows_kind" (defArgs st_shows_kind) (defBody st_shows_kind) (defScope st_shows_kind) .none kV_shows_kind dc_shows_kind pm_shows_kind an_shows_kind cd_shows_kind ct_shows_kind), sl_shows_kind⟩)
    (c_shows_kind : PySem.W.codeIn K cd_shows_kind "shows_kind" = true)
    (k_shows_kind : PySem.W.keepIn K (.ref f_shows_kind) = true)
    (a_law_agrees : PySem.W.nsIn K mainGlobals "_law_agrees" = some (some (.ref f_law_agrees)))
    (l_law_agrees : K.lookup f_law_agrees = some ⟨oc_law_agrees, od_law_agrees, .func (PySem.W.fnOf "_law_agrees" "_law_agrees" (defArgs st_law_agrees) (defBody st_law_agrees) (defScope st_law_agrees) .none kV_law_agrees dc_law_agrees pm_law_agrees an_law_agrees cd_law_agrees ct_law_agrees), sl_law_agrees⟩)
    (c_law_agrees : PySem.W.codeIn K cd_law_agrees "_law_agrees" = true)
    (k_law_agrees : PySem.W.keepIn K (.ref f_law_agrees) = true)
    (a_law_begin : PySem.W.nsIn K mainGlobals "_law_begin" = some (some (.ref f_law_begin)))
    (l_law_begin : K.lookup f_law_begin = some ⟨oc_law_begin, od_law_begin, .func (PySem.W.fnOf "_law_begin" "_law_begin" (defArgs st_law_begin) (defBody st_law_begin) (defScope st_law_begin) .none kV_law_begin dc_law_begin pm_law_begin an_law_begin cd_law_begin ct_law_begin), sl_law_begin⟩)
    (c_law_begin : PySem.W.codeIn K cd_law_begin "_law_begin" = true)
    (k_law_begin : PySem.W.keepIn K (.ref f_law_begin) = true)
    (a_Body_init : PySem.W.findIn K (.ref C_Body) "__init__" = some (some (.ref f_Body_init)))
    (i_Body_init : PySem.W.isFn K (.ref f_Body_init) = true)
    (l_Body_init : K.lookup f_Body_init = some ⟨oc_Body_init, od_Body_init, .func (PySem.W.fnOf "__init__" "Body.__init__" (defArgs st_Body_init) (defBody st_Body_init) (defScope st_Body_init) .none kV_Body_init dc_Body_init pm_Body_init an_Body_init cd_Body_init ct_Body_init), sl_Body_init⟩)
    (c_Body_init : PySem.W.codeIn K cd_Body_init "Body.__init__" = true)
    (k_Body_init : PySem.W.keepIn K (.ref f_Body_init) = true)
    (a_law_body_of : PySem.W.nsIn K mainGlobals "_law_body_of" = some (some (.ref f_law_body_of)))
    (l_law_body_of : K.lookup f_law_body_of = some ⟨oc_law_body_of, od_law_body_of, .func (PySem.W.fnOf "_law_body_of" "_law_body_of" (defArgs st_law_body_of) (defBody st_law_body_of) (defScope st_law_body_of) .none kV_law_body_of dc_law_body_of pm_law_body_of an_law_body_of cd_law_body_of ct_law_body_of), sl_law_body_of⟩)
    (c_law_body_of : PySem.W.codeIn K cd_law_body_of "_law_body_of" = true)
    (k_law_body_of : PySem.W.keepIn K (.ref f_law_body_of) = true)
    (a_law_whole : PySem.W.nsIn K mainGlobals "_law_whole" = some (some (.ref f_law_whole)))
    (l_law_whole : K.lookup f_law_whole = some ⟨oc_law_whole, od_law_whole, .func (PySem.W.fnOf "_law_whole" "_law_whole" (defArgs st_law_whole) (defBody st_law_whole) (defScope st_law_whole) .none kV_law_whole dc_law_whole pm_law_whole an_law_whole cd_law_whole ct_law_whole), sl_law_whole⟩)
    (c_law_whole : PySem.W.codeIn K cd_law_whole "_law_whole" = true)
    (k_law_whole : PySem.W.keepIn K (.ref f_law_whole) = true)
    (a_law_drawn : PySem.W.nsIn K mainGlobals "_law_drawn" = some (some (.ref f_law_drawn)))
    (l_law_drawn : K.lookup f_law_drawn = some ⟨oc_law_drawn, od_law_drawn, .func (PySem.W.fnOf "_law_drawn" "_law_drawn" (defArgs st_law_drawn) (defBody st_law_drawn) (defScope st_law_drawn) .none kV_law_drawn dc_law_drawn pm_law_drawn an_law_drawn cd_law_drawn ct_law_drawn), sl_law_drawn⟩)
    (c_law_drawn : PySem.W.codeIn K cd_law_drawn "_law_drawn" = true)
    (k_law_drawn : PySem.W.keepIn K (.ref f_law_drawn) = true)
    (a_law_exchanged : PySem.W.nsIn K mainGlobals "_law_exchanged" = some (some (.ref f_law_exchanged)))
    (l_law_exchanged : K.lookup f_law_exchanged = some ⟨oc_law_exchanged, od_law_exchanged, .func (PySem.W.fnOf "_law_exchanged" "_law_exchanged" (defArgs st_law_exchanged) (defBody st_law_exchanged) (defScope st_law_exchanged) .none kV_law_exchanged dc_law_exchanged pm_law_exchanged an_law_exchanged cd_law_exchanged ct_law_exchanged), sl_law_exchanged⟩)
    (c_law_exchanged : PySem.W.codeIn K cd_law_exchanged "_law_exchanged" = true)
    (k_law_exchanged : PySem.W.keepIn K (.ref f_law_exchanged) = true)
    (a_law_names : PySem.W.nsIn K mainGlobals "_law_names" = some (some (.ref f_law_names)))
    (l_law_names : K.lookup f_law_names = some ⟨oc_law_names, od_law_names, .func (PySem.W.fnOf "_law_names" "_law_names" (defArgs st_law_names) (defBody st_law_names) (defScope st_law_names) .none kV_law_names dc_law_names pm_law_names an_law_names cd_law_names ct_law_names), sl_law_names⟩)
    (c_law_names : PySem.W.codeIn K cd_law_names "_law_names" = true)
    (k_law_names : PySem.W.keepIn K (.ref f_law_names) = true)
    (a_law_some : PySem.W.nsIn K mainGlobals "_law_some" = some (some (.ref f_law_some)))
    (l_law_some : K.lookup f_law_some = some ⟨oc_law_some, od_law_some, .func (PySem.W.fnOf "_law_some" "_law_some" (defArgs st_law_some) (defBody st_law_some) (defScope st_law_some) .none kV_law_some dc_law_some pm_law_some an_law_some cd_law_some ct_law_some), sl_law_some⟩)
    (c_law_some : PySem.W.codeIn K cd_law_some "_law_some" = true)
    (k_law_some : PySem.W.keepIn K (.ref f_law_some) = true)
    (a_law_turned : PySem.W.nsIn K mainGlobals "_law_turned" = some (some (.ref f_law_turned)))
    (l_law_turned : K.lookup f_law_turned = some ⟨oc_law_turned, od_law_turned, .func (PySem.W.fnOf "_law_turned" "_law_turned" (defArgs st_law_turned) (defBody st_law_turned) (defScope st_law_turned) .none kV_law_turned dc_law_turned pm_law_turned an_law_turned cd_law_turned ct_law_turned), sl_law_turned⟩)
    (c_law_turned : PySem.W.codeIn K cd_law_turned "_law_turned" = true)
    (k_law_turned : PySem.W.keepIn K (.ref f_law_turned) = true)
    (a_law : PySem.W.nsIn K mainGlobals "law" = some (some (.ref f_law)))
    (l_law : K.lookup f_law = some ⟨oc_law, od_law, .func (PySem.W.fnOf "law" "law" (defArgs st_law) (defBody st_law) (defScope st_law) .none kV_law dc_law pm_law an_law cd_law ct_law), sl_law⟩)
    (c_law : PySem.W.codeIn K cd_law "law" = true)
    (k_law : PySem.W.keepIn K (.ref f_law) = true)
    (n_Body_nots : PySem.W.findIn K (.ref C_Body) "nots" = some none)
    (n_Body_rows : PySem.W.findIn K (.ref C_Body) "rows" = some none)
    (n_Body_spans : PySem.W.findIn K (.ref C_Body) "spans" = some none)
    (n_Body_wide : PySem.W.findIn K (.ref C_Body) "wide" = some none)
    (no_all : PySem.W.nsIn K mainGlobals "all" = some none)
    (no_bool : PySem.W.nsIn K mainGlobals "bool" = some none)
    (no_dict : PySem.W.nsIn K mainGlobals "dict" = some none)
    (no_int : PySem.W.nsIn K mainGlobals "int" = some none)
    (no_isinstance : PySem.W.nsIn K mainGlobals "isinstance" = some none)
    (no_len : PySem.W.nsIn K mainGlobals "len" = some none)
    (no_list : PySem.W.nsIn K mainGlobals "list" = some none)
    (no_min : PySem.W.nsIn K mainGlobals "min" = some none)
    (no_range : PySem.W.nsIn K mainGlobals "range" = some none)
    (no_set : PySem.W.nsIn K mainGlobals "set" = some none)
    (no_sorted : PySem.W.nsIn K mainGlobals "sorted" = some none)
    (no_tuple : PySem.W.nsIn K mainGlobals "tuple" = some none)
    (no_zip : PySem.W.nsIn K mainGlobals "zip" = some none)
    : ∃ fd : FuncData, (∀ (s : Shared) (v : Value), BindsTo s fd ⟨[v], []⟩ [("script", v)]) ∧ ∀ base : Heap, K.In base → base.Ns mainGlobals mg → FnOk l.prog w K mg base CX0 23 fa fd ["script"] (toSp K S_law) := by
  have e := hfa.symm.trans (PySem.W.mg_of X G a_law)
  cases e
  have F_Body_tree := fun_mk (x := "tree") (qual := "Body.tree") (st := st_Body_tree) l_Body_tree c_Body_tree k_Body_tree
  have b_Body_tree := F_Body_tree.binds (ps := ["self"]) fun _ _ _ _ _ _ us hl => match us, hl with | [_], _ => rfl
  have F_law_is_int := fun_mk (x := "_law_is_int") (qual := "_law_is_int") (st := st_law_is_int) l_law_is_int c_law_is_int k_law_is_int
  have b_law_is_int := F_law_is_int.binds (ps := ["thing"]) fun _ _ _ _ _ _ us hl => match us, hl with | [_], _ => rfl
  have F_law_laid := fun_mk (x := "_law_laid") (qual := "_law_laid") (st := st_law_laid) l_law_laid c_law_laid k_law_laid
  have b_law_laid := F_law_laid.binds (ps := ["terms", "names"]) fun _ _ _ _ _ _ us hl => match us, hl with | [_, _], _ => rfl
  have F_law_unlike := fun_mk (x := "_law_unlike") (qual := "_law_unlike") (st := st_law_unlike) l_law_unlike c_law_unlike k_law_unlike
  have b_law_unlike := F_law_unlike.binds (ps := ["row"]) fun _ _ _ _ _ _ us hl => match us, hl with | [_], _ => rfl
  have F_law_is_map := fun_mk (x := "_law_is_map") (qual := "_law_is_map") (st := st_law_is_map) l_law_is_map c_law_is_map k_law_is_map
  have b_law_is_map := F_law_is_map.binds (ps := ["case", "other", "names"]) fun _ _ _ _ _ _ us hl => match us, hl with | [_, _, _], _ => rfl
  have F_law_variables := fun_mk (x := "_law_variables") (qual := "_law_variables") (st := st_law_variables) l_law_variables c_law_variables k_law_variables
  have b_law_variables := F_law_variables.binds (ps := ["rows"]) fun _ _ _ _ _ _ us hl => match us, hl with | [_], _ => rfl
  have F_law_maps := fun_mk (x := "_law_maps") (qual := "_law_maps") (st := st_law_maps) l_law_maps c_law_maps k_law_maps
  have b_law_maps := F_law_maps.binds (ps := ["case", "other"]) fun _ _ _ _ _ _ us hl => match us, hl with | [_, _], _ => rfl
  have F_law_draw := fun_mk (x := "_law_draw") (qual := "_law_draw") (st := st_law_draw) l_law_draw c_law_draw k_law_draw
  have b_law_draw := F_law_draw.binds (ps := ["d", "many"]) fun _ _ _ _ _ _ us hl => match us, hl with | [_, _], _ => rfl
  have F_law_mixed := fun_mk (x := "_law_mixed") (qual := "_law_mixed") (st := st_law_mixed) l_law_mixed c_law_mixed k_law_mixed
  have b_law_mixed := F_law_mixed.binds (ps := ["d", "row"]) fun _ _ _ _ _ _ us hl => match us, hl with | [_, _], _ => rfl
  have F_law_reads := fun_mk (x := "_law_reads") (qual := "_law_reads") (st := st_law_reads) l_law_reads c_law_reads k_law_reads
  have b_law_reads := F_law_reads.binds (ps := ["case", "other", "images"]) fun _ _ _ _ _ _ us hl => match us, hl with | [_, _, _], _ => rfl
  have F_law_pick := fun_mk (x := "_law_pick") (qual := "_law_pick") (st := st_law_pick) l_law_pick c_law_pick k_law_pick
  have b_law_pick := F_law_pick.binds (ps := ["d", "row"]) fun _ _ _ _ _ _ us hl => match us, hl with | [_, _], _ => rfl
  have F_law_spoilt := fun_mk (x := "_law_spoilt") (qual := "_law_spoilt") (st := st_law_spoilt) l_law_spoilt c_law_spoilt k_law_spoilt
  have b_law_spoilt := F_law_spoilt.binds (ps := ["d", "images", "theirs"]) fun _ _ _ _ _ _ us hl => match us, hl with | [_, _, _], _ => rfl
  have F_Body_variables := fun_mk (x := "variables") (qual := "Body.variables") (st := st_Body_variables) l_Body_variables c_Body_variables k_Body_variables
  have b_Body_variables := F_Body_variables.binds (ps := ["self"]) fun _ _ _ _ _ _ us hl => match us, hl with | [_], _ => rfl
  have F_Body_span := fun_mk (x := "span") (qual := "Body.span") (st := st_Body_span) l_Body_span c_Body_span k_Body_span
  have b_Body_span := F_Body_span.binds (ps := ["self", "term"]) fun _ _ _ _ _ _ us hl => match us, hl with | [_, _], _ => rfl
  have F_put_kinds := fun_mk (x := "put_kinds") (qual := "put_kinds") (st := st_put_kinds) l_put_kinds c_put_kinds k_put_kinds
  have b_put_kinds := F_put_kinds.binds (ps := ["case", "names", "terms", "other", "images"]) fun _ _ _ _ _ _ us hl => match us, hl with | [_, _, _, _, _], _ => rfl
  have F_matchD := fun_mk (x := "match") (qual := "match") (st := st_matchD) l_matchD c_matchD k_matchD
  have b_matchD := F_matchD.binds (ps := ["case", "place", "names", "other", "told"]) fun _ _ _ _ _ _ us hl => match us, hl with | [_, _, _, _, _], _ => rfl
  have F_outline := fun_mk (x := "outline") (qual := "outline") (st := st_outline) l_outline c_outline k_outline
  have b_outline := F_outline.binds (ps := ["case"]) fun _ _ _ _ _ _ us hl => match us, hl with | [_], _ => rfl
  have F_same_kind := fun_mk (x := "same_kind") (qual := "same_kind") (st := st_same_kind) l_same_kind c_same_kind k_same_kind
  have b_same_kind := F_same_kind.binds (ps := ["case", "other"]) fun _ _ _ _ _ _ us hl => match us, hl with | [_, _], _ => rfl
  have F_laid := fun_mk (x := "laid") (qual := "laid") (st := st_laid) l_laid c_laid k_laid
  have b_laid := F_laid.binds (ps := ["terms", "names"]) fun _ _ _ _ _ _ us hl => match us, hl with | [_, _], _ => rfl
  have F_is_whole := fun_mk (x := "is_whole") (qual := "is_whole") (st := st_is_whole) l_is_whole c_is_whole k_is_whole
  have b_is_whole := F_is_whole.binds (ps := ["value"]) fun _ _ _ _ _ _ us hl => match us, hl with | [_], _ => rfl
  have F_names_from := fun_mk (x := "names_from") (qual := "names_from") (st := st_names_from) l_names_from c_names_from k_names_from
  have b_names_from := F_names_from.binds (ps := ["body", "images"]) fun _ _ _ _ _ _ us hl => match us, hl with | [_, _], _ => rfl
  have F_shows_kind := fun_mk (x := "shows_kind") (qual := "shows_kind") (st := st_shows_kind) l_shows_kind c_shows_kind k_shows_kind
  have b_shows_kind := F_shows_kind.binds (ps := ["case", "other", "images"]) fun _ _ _ _ _ _ us hl => match us, hl with | [_, _, _], _ => rfl
  have F_law_agrees := fun_mk (x := "_law_agrees") (qual := "_law_agrees") (st := st_law_agrees) l_law_agrees c_law_agrees k_law_agrees
  have b_law_agrees := F_law_agrees.binds (ps := ["d", "case", "other", "first", "second", "made"]) fun _ _ _ _ _ _ us hl => match us, hl with | [_, _, _, _, _, _], _ => rfl
  have F_law_begin := fun_mk (x := "_law_begin") (qual := "_law_begin") (st := st_law_begin) l_law_begin c_law_begin k_law_begin
  have b_law_begin := F_law_begin.binds (ps := ["script"]) fun _ _ _ _ _ _ us hl => match us, hl with | [_], _ => rfl
  have F_Body_init := fun_mk (x := "__init__") (qual := "Body.__init__") (st := st_Body_init) l_Body_init c_Body_init k_Body_init
  have b_Body_init := F_Body_init.binds (ps := ["self", "rows", "nots", "spans", "wide"]) fun _ _ _ _ _ _ us hl => match us, hl with | [_, _, _, _, _], _ => rfl
  have F_law_body_of := fun_mk (x := "_law_body_of") (qual := "_law_body_of") (st := st_law_body_of) l_law_body_of c_law_body_of k_law_body_of
  have b_law_body_of := F_law_body_of.binds (ps := ["case", "nots"]) fun _ _ _ _ _ _ us hl => match us, hl with | [_, _], _ => rfl
  have F_law_whole := fun_mk (x := "_law_whole") (qual := "_law_whole") (st := st_law_whole) l_law_whole c_law_whole k_law_whole
  have b_law_whole := F_law_whole.binds (ps := ["rows", "cells", "wide"]) fun _ _ _ _ _ _ us hl => match us, hl with | [_, _, _], _ => rfl
  have F_law_drawn := fun_mk (x := "_law_drawn") (qual := "_law_drawn") (st := st_law_drawn) l_law_drawn c_law_drawn k_law_drawn
  have b_law_drawn := F_law_drawn.binds (ps := ["d", "tables", "many", "menu"]) fun _ _ _ _ _ _ us hl => match us, hl with | [_, _, _, _], _ => rfl
  have F_law_exchanged := fun_mk (x := "_law_exchanged") (qual := "_law_exchanged") (st := st_law_exchanged) l_law_exchanged c_law_exchanged k_law_exchanged
  have b_law_exchanged := F_law_exchanged.binds (ps := ["d", "case", "names"]) fun _ _ _ _ _ _ us hl => match us, hl with | [_, _, _], _ => rfl
  have F_law_names := fun_mk (x := "_law_names") (qual := "_law_names") (st := st_law_names) l_law_names c_law_names k_law_names
  have b_law_names := F_law_names.binds (ps := ["d", "many"]) fun _ _ _ _ _ _ us hl => match us, hl with | [_, _], _ => rfl
  have F_law_some := fun_mk (x := "_law_some") (qual := "_law_some") (st := st_law_some) l_law_some c_law_some k_law_some
  have b_law_some := F_law_some.binds (ps := ["d", "row", "least"]) fun _ _ _ _ _ _ us hl => match us, hl with | [_, _, _], _ => rfl
  have F_law_turned := fun_mk (x := "_law_turned") (qual := "_law_turned") (st := st_law_turned) l_law_turned c_law_turned k_law_turned
  have b_law_turned := F_law_turned.binds (ps := ["d", "case", "way", "tables", "menu"]) fun _ _ _ _ _ _ us hl => match us, hl with | [_, _, _, _, _], _ => rfl
  have F_law := fun_mk (x := "law") (qual := "law") (st := st_law) l_law c_law k_law
  have b_law := F_law.binds (ps := ["script"]) fun _ _ _ _ _ _ us hl => match us, hl with | [_], _ => rfl
  have T : Txt K mg ⟨C_Body, f_Body_tree, (PySem.W.fnOf "tree" "Body.tree" (defArgs st_Body_tree) (defBody st_Body_tree) (defScope st_Body_tree) .none kV_Body_tree dc_Body_tree pm_Body_tree an_Body_tree cd_Body_tree ct_Body_tree), f_law_is_int, (PySem.W.fnOf "_law_is_int" "_law_is_int" (defArgs st_law_is_int) (defBody st_law_is_int) (defScope st_law_is_int) .none kV_law_is_int dc_law_is_int pm_law_is_int an_law_is_int cd_law_is_int ct_law_is_int), f_law_laid, (PySem.W.fnOf "_law_laid" "_law_laid" (defArgs st_law_laid) (defBody st_law_laid) (defScope st_law_laid) .none kV_law_laid dc_law_laid pm_law_laid an_law_laid cd_law_laid ct_law_laid), f_law_unlike, (PySem.W.fnOf "_law_unlike" "_law_unlike" (defArgs st_law_unlike) (defBody st_law_unlike) (defScope st_law_unlike) .none kV_law_unlike dc_law_unlike pm_law_unlike an_law_unlike cd_law_unlike ct_law_unlike), f_law_is_map, (PySem.W.fnOf "_law_is_map" "_law_is_map" (defArgs st_law_is_map) (defBody st_law_is_map) (defScope st_law_is_map) .none kV_law_is_map dc_law_is_map pm_law_is_map an_law_is_map cd_law_is_map ct_law_is_map), f_law_variables, (PySem.W.fnOf "_law_variables" "_law_variables" (defArgs st_law_variables) (defBody st_law_variables) (defScope st_law_variables) .none kV_law_variables dc_law_variables pm_law_variables an_law_variables cd_law_variables ct_law_variables), f_law_maps, (PySem.W.fnOf "_law_maps" "_law_maps" (defArgs st_law_maps) (defBody st_law_maps) (defScope st_law_maps) .none kV_law_maps dc_law_maps pm_law_maps an_law_maps cd_law_maps ct_law_maps), f_law_draw, (PySem.W.fnOf "_law_draw" "_law_draw" (defArgs st_law_draw) (defBody st_law_draw) (defScope st_law_draw) .none kV_law_draw dc_law_draw pm_law_draw an_law_draw cd_law_draw ct_law_draw), f_law_mixed, (PySem.W.fnOf "_law_mixed" "_law_mixed" (defArgs st_law_mixed) (defBody st_law_mixed) (defScope st_law_mixed) .none kV_law_mixed dc_law_mixed pm_law_mixed an_law_mixed cd_law_mixed ct_law_mixed), f_law_reads, (PySem.W.fnOf "_law_reads" "_law_reads" (defArgs st_law_reads) (defBody st_law_reads) (defScope st_law_reads) .none kV_law_reads dc_law_reads pm_law_reads an_law_reads cd_law_reads ct_law_reads), f_law_pick, (PySem.W.fnOf "_law_pick" "_law_pick" (defArgs st_law_pick) (defBody st_law_pick) (defScope st_law_pick) .none kV_law_pick dc_law_pick pm_law_pick an_law_pick cd_law_pick ct_law_pick), f_law_spoilt, (PySem.W.fnOf "_law_spoilt" "_law_spoilt" (defArgs st_law_spoilt) (defBody st_law_spoilt) (defScope st_law_spoilt) .none kV_law_spoilt dc_law_spoilt pm_law_spoilt an_law_spoilt cd_law_spoilt ct_law_spoilt), f_Body_variables, (PySem.W.fnOf "variables" "Body.variables" (defArgs st_Body_variables) (defBody st_Body_variables) (defScope st_Body_variables) .none kV_Body_variables dc_Body_variables pm_Body_variables an_Body_variables cd_Body_variables ct_Body_variables), f_Body_span, (PySem.W.fnOf "span" "Body.span" (defArgs st_Body_span) (defBody st_Body_span) (defScope st_Body_span) .none kV_Body_span dc_Body_span pm_Body_span an_Body_span cd_Body_span ct_Body_span), f_put_kinds, (PySem.W.fnOf "put_kinds" "put_kinds" (defArgs st_put_kinds) (defBody st_put_kinds) (defScope st_put_kinds) .none kV_put_kinds dc_put_kinds pm_put_kinds an_put_kinds cd_put_kinds ct_put_kinds), f_matchD, (PySem.W.fnOf "match" "match" (defArgs st_matchD) (defBody st_matchD) (defScope st_matchD) .none kV_matchD dc_matchD pm_matchD an_matchD cd_matchD ct_matchD), f_outline, (PySem.W.fnOf "outline" "outline" (defArgs st_outline) (defBody st_outline) (defScope st_outline) .none kV_outline dc_outline pm_outline an_outline cd_outline ct_outline), f_same_kind, (PySem.W.fnOf "same_kind" "same_kind" (defArgs st_same_kind) (defBody st_same_kind) (defScope st_same_kind) .none kV_same_kind dc_same_kind pm_same_kind an_same_kind cd_same_kind ct_same_kind), f_laid, (PySem.W.fnOf "laid" "laid" (defArgs st_laid) (defBody st_laid) (defScope st_laid) .none kV_laid dc_laid pm_laid an_laid cd_laid ct_laid), f_is_whole, (PySem.W.fnOf "is_whole" "is_whole" (defArgs st_is_whole) (defBody st_is_whole) (defScope st_is_whole) .none kV_is_whole dc_is_whole pm_is_whole an_is_whole cd_is_whole ct_is_whole), f_names_from, (PySem.W.fnOf "names_from" "names_from" (defArgs st_names_from) (defBody st_names_from) (defScope st_names_from) .none kV_names_from dc_names_from pm_names_from an_names_from cd_names_from ct_names_from), f_shows_kind, (PySem.W.fnOf "shows_kind" "shows_kind" (defArgs st_shows_kind) (defBody st_shows_kind) (defScope st_shows_kind) .none kV_shows_kind dc_shows_kind pm_shows_kind an_shows_kind cd_shows_kind ct_shows_kind), f_law_agrees, (PySem.W.fnOf "_law_agrees" "_law_agrees" (defArgs st_law_agrees) (defBody st_law_agrees) (defScope st_law_agrees) .none kV_law_agrees dc_law_agrees pm_law_agrees an_law_agrees cd_law_agrees ct_law_agrees), f_law_begin, (PySem.W.fnOf "_law_begin" "_law_begin" (defArgs st_law_begin) (defBody st_law_begin) (defScope st_law_begin) .none kV_law_begin dc_law_begin pm_law_begin an_law_begin cd_law_begin ct_law_begin), f_Body_init, (PySem.W.fnOf "__init__" "Body.__init__" (defArgs st_Body_init) (defBody st_Body_init) (defScope st_Body_init) .none kV_Body_init dc_Body_init pm_Body_init an_Body_init cd_Body_init ct_Body_init), f_law_body_of, (PySem.W.fnOf "_law_body_of" "_law_body_of" (defArgs st_law_body_of) (defBody st_law_body_of) (defScope st_law_body_of) .none kV_law_body_of dc_law_body_of pm_law_body_of an_law_body_of cd_law_body_of ct_law_body_of), f_law_whole, (PySem.W.fnOf "_law_whole" "_law_whole" (defArgs st_law_whole) (defBody st_law_whole) (defScope st_law_whole) .none kV_law_whole dc_law_whole pm_law_whole an_law_whole cd_law_whole ct_law_whole), f_law_drawn, (PySem.W.fnOf "_law_drawn" "_law_drawn" (defArgs st_law_drawn) (defBody st_law_drawn) (defScope st_law_drawn) .none kV_law_drawn dc_law_drawn pm_law_drawn an_law_drawn cd_law_drawn ct_law_drawn), f_law_exchanged, (PySem.W.fnOf "_law_exchanged" "_law_exchanged" (defArgs st_law_exchanged) (defBody st_law_exchanged) (defScope st_law_exchanged) .none kV_law_exchanged dc_law_exchanged pm_law_exchanged an_law_exchanged cd_law_exchanged ct_law_exchanged), f_law_names, (PySem.W.fnOf "_law_names" "_law_names" (defArgs st_law_names) (defBody st_law_names) (defScope st_law_names) .none kV_law_names dc_law_names pm_law_names an_law_names cd_law_names ct_law_names), f_law_some, (PySem.W.fnOf "_law_some" "_law_some" (defArgs st_law_some) (defBody st_law_some) (defScope st_law_some) .none kV_law_some dc_law_some pm_law_some an_law_some cd_law_some ct_law_some), f_law_turned, (PySem.W.fnOf "_law_turned" "_law_turned" (defArgs st_law_turned) (defBody st_law_turned) (defScope st_law_turned) .none kV_law_turned dc_law_turned pm_law_turned an_law_turned cd_law_turned ct_law_turned), fa, (PySem.W.fnOf "law" "law" (defArgs st_law) (defBody st_law) (defScope st_law) .none kV_law dc_law pm_law an_law cd_law ct_law)⟩ :=
    { c_Body := ⟨⟨pgBody, hdBody, poBody, saBody⟩, ⟨mkBody, a_Body_init, i_Body_init, kcBody⟩, PySem.W.mg_of X G aCBody, F_Body_init, b_Body_init⟩
      Body_tree := ⟨F_Body_tree, ⟨a_Body_tree, i_Body_tree, k_Body_tree⟩, b_Body_tree⟩
      law_is_int := ⟨F_law_is_int, PySem.W.mg_of X G a_law_is_int, k_law_is_int, b_law_is_int⟩
      law_laid := ⟨F_law_laid, PySem.W.mg_of X G a_law_laid, k_law_laid, b_law_laid⟩
      law_unlike := ⟨F_law_unlike, PySem.W.mg_of X G a_law_unlike, k_law_unlike, b_law_unlike⟩
      law_is_map := ⟨F_law_is_map, PySem.W.mg_of X G a_law_is_map, k_law_is_map, b_law_is_map⟩
      law_variables := ⟨F_law_variables, PySem.W.mg_of X G a_law_variables, k_law_variables, b_law_variables⟩
      law_maps := ⟨F_law_maps, PySem.W.mg_of X G a_law_maps, k_law_maps, b_law_maps⟩
      law_draw := ⟨F_law_draw, PySem.W.mg_of X G a_law_draw, k_law_draw, b_law_draw⟩
      law_mixed := ⟨F_law_mixed, PySem.W.mg_of X G a_law_mixed, k_law_mixed, b_law_mixed⟩
      law_reads := ⟨F_law_reads, PySem.W.mg_of X G a_law_reads, k_law_reads, b_law_reads⟩
      law_pick := ⟨F_law_pick, PySem.W.mg_of X G a_law_pick, k_law_pick, b_law_pick⟩
      law_spoilt := ⟨F_law_spoilt, PySem.W.mg_of X G a_law_spoilt, k_law_spoilt, b_law_spoilt⟩
      Body_variables := ⟨F_Body_variables, ⟨a_Body_variables, i_Body_variables, k_Body_variables⟩, b_Body_variables⟩
      Body_span := ⟨F_Body_span, ⟨a_Body_span, i_Body_span, k_Body_span⟩, b_Body_span⟩
      put_kinds := ⟨F_put_kinds, PySem.W.mg_of X G a_put_kinds, k_put_kinds, b_put_kinds⟩
      matchD := ⟨F_matchD, PySem.W.mg_of X G a_matchD, k_matchD, b_matchD⟩
      outline := ⟨F_outline, PySem.W.mg_of X G a_outline, k_outline, b_outline⟩
      same_kind := ⟨F_same_kind, PySem.W.mg_of X G a_same_kind, k_same_kind, b_same_kind⟩
      laid := ⟨F_laid, PySem.W.mg_of X G a_laid, k_laid, b_laid⟩
      is_whole := ⟨F_is_whole, PySem.W.mg_of X G a_is_whole, k_is_whole, b_is_whole⟩
      names_from := ⟨F_names_from, PySem.W.mg_of X G a_names_from, k_names_from, b_names_from⟩
      shows_kind := ⟨F_shows_kind, PySem.W.mg_of X G a_shows_kind, k_shows_kind, b_shows_kind⟩
      law_agrees := ⟨F_law_agrees, PySem.W.mg_of X G a_law_agrees, k_law_agrees, b_law_agrees⟩
      law_begin := ⟨F_law_begin, PySem.W.mg_of X G a_law_begin, k_law_begin, b_law_begin⟩
      law_body_of := ⟨F_law_body_of, PySem.W.mg_of X G a_law_body_of, k_law_body_of, b_law_body_of⟩
      law_whole := ⟨F_law_whole, PySem.W.mg_of X G a_law_whole, k_law_whole, b_law_whole⟩
      law_drawn := ⟨F_law_drawn, PySem.W.mg_of X G a_law_drawn, k_law_drawn, b_law_drawn⟩
      law_exchanged := ⟨F_law_exchanged, PySem.W.mg_of X G a_law_exchanged, k_law_exchanged, b_law_exchanged⟩
      law_names := ⟨F_law_names, PySem.W.mg_of X G a_law_names, k_law_names, b_law_names⟩
      law_some := ⟨F_law_some, PySem.W.mg_of X G a_law_some, k_law_some, b_law_some⟩
      law_turned := ⟨F_law_turned, PySem.W.mg_of X G a_law_turned, k_law_turned, b_law_turned⟩
      law := ⟨F_law, PySem.W.mg_of X G a_law, k_law, b_law⟩
      n_Body_nots := n_Body_nots
      n_Body_rows := n_Body_rows
      n_Body_spans := n_Body_spans
      n_Body_wide := n_Body_wide
      no_all := PySem.W.mg_none_of X G no_all
      no_bool := PySem.W.mg_none_of X G no_bool
      no_dict := PySem.W.mg_none_of X G no_dict
      no_int := PySem.W.mg_none_of X G no_int
      no_isinstance := PySem.W.mg_none_of X G no_isinstance
      no_len := PySem.W.mg_none_of X G no_len
      no_list := PySem.W.mg_none_of X G no_list
      no_min := PySem.W.mg_none_of X G no_min
      no_range := PySem.W.mg_none_of X G no_range
      no_set := PySem.W.mg_none_of X G no_set
      no_sorted := PySem.W.mg_none_of X G no_sorted
      no_tuple := PySem.W.mg_none_of X G no_tuple
      no_zip := PySem.W.mg_none_of X G no_zip }
  exact ⟨PySem.W.fnOf "law" "law" (defArgs st_law) (defBody st_law) (defScope st_law) .none kV_law dc_law pm_law an_law cd_law ct_law, fun s v => .of_eq rfl, fun base _ _ => ok_law T⟩
theorem law_start {K : PySem.W.Frag} {H : Hp} {a : Addr} {ns : List Int} (hl : ns.length ≤ 63) (hS : SqL K H a (ns.map V.int)) : toSp K S_law [.ref a] H (fun v _ => v = .bl true) fun _ _ _ => False := by
  have no : ∀ b, ¬ Pw (fun _ => False) [some (.ref a)] [.dat (.scr (ns.map D.int))] b := fun b z => by
    rcases z with z | ⟨i, d, e, _⟩
    · exact z
    · match i, e with
      | 0, e => cases e
      | i + 1, e => cases e
  refine ⟨fun _ => False, [.dat (.scr (ns.map D.int))], fun r _ => r = .dat (.bl true), ⟨rfl, fun i d e => ?_, fun i d e => ?_, fun b z => z.elim, fun i j d e p q1 => ?_⟩, ⟨ns, rfl, rfl⟩, fun v H' r avs' Y' _ _ _ ok _ e => ?_⟩
  · match i, e with
    | 0, e =>
      cases e
      refine ⟨_, rfl, .scr ⟨?_, ?_⟩ (RDs.ints ns)⟩
      · rw [List.length_map, PySem.sizeLine_eq]; omega
      · exact hS.imp (fun h => ⟨h, no _⟩) id
    | i + 1, e => cases e
  · match i, e with
    | 0, e => cases e
    | i + 1, e => cases e
  · match i, q1 with
    | 0, q1 => cases q1
    | i + 1, q1 => cases q1
  · subst e
    obtain ⟨_, rd⟩ := ok
    cases rd
    rfl
theorem walk {l : PySem.W.OpenLaw} {q : Program} {loose : List Str} {XP : (Str → Option Value) → Heap → Prop} {YP : World → Heap → Prop} {d : DefRec} {K : Params → PySem.W.Frag} (hn : l.most = some 63) (hdf : d.params.defaults = [])
    (hY : ∀ (w : World) (h : Heap), YP w h → (K w.params).In h)
    (F : ∀ (w : World) (mg : Str → Option Value) (fa : Addr) (h : Heap), (K w.params).In h → h.Ns mainGlobals mg → mg d.name = some (.ref fa) →
      ∃ fd : FuncData, (∀ (s : Shared) (u : Value), BindsTo s fd ⟨[u], []⟩ [("script", u)]) ∧ ∀ base : Heap, (K w.params).In base → base.Ns mainGlobals mg → FnOk l.prog w (K w.params) mg base CX0 23 fa fd ["script"] (toSp (K w.params) S_law)) :
    PySem.W.WalkO q loose XP YP l.row.toRowW d [] (fun f vs => PySem.call f vs) :=
  L2.walk_of (n := 63) (k := 23) (x := "script") (CX := fun _ => CX0) (sp := fun w => toSp (K w.params) S_law) hn (by decide) hdf ⟨rfl, by decide, by decide⟩ hY F (fun _ _ a ns hl _ hS => law_start hl hS) fun _ _ _ _ _ z => z
end AL
open PySem PySem.W PyProof.Rows
set_option maxRecDepth 100000 in
set_option maxHeartbeats 0 in
theorem PySem.Challenge.cw_planassize_k41_kinds_exactly_by_own_maps_holds : PySem.Challenge.rw_planassize_k41_kinds_exactly_by_own_maps.Holds := by
  w_on; o_law; k_head; (case hw => w_witness2)
  k_fill
  refine AL.walk (l := PySem.Challenge.rw_planassize_k41_kinds_exactly_by_own_maps) rfl rfl (fun w h Y => PySem.W.kIn_of Y) ?F
  case F =>
    intro w mg fa h KX G hmg
    refine' AL.all_mk KX G hmg ?aCBody ?pgBody ?hdBody ?poBody ?saBody ?mkBody ?kcBody ?a_Body_tree ?i_Body_tree ?l_Body_tree ?c_Body_tree ?k_Body_tree ?a_law_is_int ?l_law_is_int ?c_law_is_int ?k_law_is_int ?a_law_laid ?l_law_laid ?c_law_laid ?k_law_laid ?a_law_unlike ?l_law_unlike ?c_law_unlike ?k_law_unlike ?a_law_is_map ?l_law_is_map ?c_law_is_map ?k_law_is_map ?a_law_variables ?l_law_variables ?c_law_variables ?k_law_variables ?a_law_maps ?l_law_maps ?c_law_maps ?k_law_maps ?a_law_draw ?l_law_draw ?c_law_draw ?k_law_draw ?a_law_mixed ?l_law_mixed ?c_law_mixed ?k_law_mixed ?a_law_reads ?l_law_reads ?c_law_reads ?k_law_reads ?a_law_pick ?l_law_pick ?c_law_pick ?k_law_pick ?a_law_spoilt ?l_law_spoilt ?c_law_spoilt ?k_law_spoilt ?a_Body_variables ?i_Body_variables ?l_Body_variables ?c_Body_variables ?k_Body_variables ?a_Body_span ?i_Body_span ?l_Body_span ?c_Body_span ?k_Body_span ?a_put_kinds ?l_put_kinds ?c_put_kinds ?k_put_kinds ?a_matchD ?l_matchD ?c_matchD ?k_matchD ?a_outline ?l_outline ?c_outline ?k_outline ?a_same_kind ?l_same_kind ?c_same_kind ?k_same_kind ?a_laid ?l_laid ?c_laid ?k_laid ?a_is_whole ?l_is_whole ?c_is_whole ?k_is_whole ?a_names_from ?l_names_from ?c_names_from ?k_names_from ?a_shows_kind ?l_shows_kind ?c_shows_kind ?k_shows_kind ?a_law_agrees ?l_law_agrees ?c_law_agrees ?k_law_agrees ?a_law_begin ?l_law_begin ?c_law_begin ?k_law_begin ?a_Body_init ?i_Body_init ?l_Body_init ?c_Body_init ?k_Body_init ?a_law_body_of ?l_law_body_of ?c_law_body_of ?k_law_body_of ?a_law_whole ?l_law_whole ?c_law_whole ?k_law_whole ?a_law_drawn ?l_law_drawn ?c_law_drawn ?k_law_drawn ?a_law_exchanged ?l_law_exchanged ?c_law_exchanged ?k_law_exchanged ?a_law_names ?l_law_names ?c_law_names ?k_law_names ?a_law_some ?l_law_some ?c_law_some ?k_law_some ?a_law_turned ?l_law_turned ?c_law_turned ?k_law_turned ?a_law ?l_law ?c_law ?k_law ?n_Body_nots ?n_Body_rows ?n_Body_spans ?n_Body_wide ?no_all ?no_bool ?no_dict ?no_int ?no_isinstance ?no_len ?no_list ?no_min ?no_range ?no_set ?no_sorted ?no_tuple ?no_zip
    (case aCBody => k_is)
    (case pgBody => k_is)
    (case hdBody => k_is)
    (case poBody => k_is)
    (case saBody => k_is)
    (case mkBody => k_is)
    (case kcBody => k_is)
    (case a_Body_tree => k_is)
    (case i_Body_tree => k_is)
    (case l_Body_tree => k_is)
    (case c_Body_tree => k_is)
    (case k_Body_tree => k_is)
    (case a_law_is_int => k_is)
    (case l_law_is_int => k_is)
    (case c_law_is_int => k_is)
    (case k_law_is_int => k_is)
    (case a_law_laid => k_is)
    (case l_law_laid => k_is)
    (case c_law_laid => k_is)
    (case k_law_laid => k_is)
    (case a_law_unlike => k_is)
    (case l_law_unlike => k_is)
    (case c_law_unlike => k_is)
    (case k_law_unlike => k_is)
    (case a_law_is_map => k_is)
    (case l_law_is_map => k_is)
    (case c_law_is_map => k_is)
    (case k_law_is_map => k_is)
    (case a_law_variables => k_is)
    (case l_law_variables => k_is)
    (case c_law_variables => k_is)
    (case k_law_variables => k_is)
    (case a_law_maps => k_is)
    (case l_law_maps => k_is)
    (case c_law_maps => k_is)
    (case k_law_maps => k_is)
    (case a_law_draw => k_is)
    (case l_law_draw => k_is)
    (case c_law_draw => k_is)
    (case k_law_draw => k_is)
    (case a_law_mixed => k_is)
    (case l_law_mixed => k_is)
    (case c_law_mixed => k_is)
    (case k_law_mixed => k_is)
    (case a_law_reads => k_is)
    (case l_law_reads => k_is)
    (case c_law_reads => k_is)
    (case k_law_reads => k_is)
    (case a_law_pick => k_is)
    (case l_law_pick => k_is)
    (case c_law_pick => k_is)
    (case k_law_pick => k_is)
    (case a_law_spoilt => k_is)
    (case l_law_spoilt => k_is)
    (case c_law_spoilt => k_is)
    (case k_law_spoilt => k_is)
    (case a_Body_variables => k_is)
    (case i_Body_variables => k_is)
    (case l_Body_variables => k_is)
    (case c_Body_variables => k_is)
    (case k_Body_variables => k_is)
    (case a_Body_span => k_is)
    (case i_Body_span => k_is)
    (case l_Body_span => k_is)
    (case c_Body_span => k_is)
    (case k_Body_span => k_is)
    (case a_put_kinds => k_is)
    (case l_put_kinds => k_is)
    (case c_put_kinds => k_is)
    (case k_put_kinds => k_is)
    (case a_matchD => k_is)
    (case l_matchD => k_is)
    (case c_matchD => k_is)
    (case k_matchD => k_is)
    (case a_outline => k_is)
    (case l_outline => k_is)
    (case c_outline => k_is)
    (case k_outline => k_is)
    (case a_same_kind => k_is)
    (case l_same_kind => k_is)
    (case c_same_kind => k_is)
    (case k_same_kind => k_is)
    (case a_laid => k_is)
    (case l_laid => k_is)
    (case c_laid => k_is)
    (case k_laid => k_is)
    (case a_is_whole => k_is)
    (case l_is_whole => k_is)
    (case c_is_whole => k_is)
    (case k_is_whole => k_is)
    (case a_names_from => k_is)
    (case l_names_from => k_is)
    (case c_names_from => k_is)
    (case k_names_from => k_is)
    (case a_shows_kind => k_is)
    (case l_shows_kind => k_is)
    (case c_shows_kind => k_is)
    (case k_shows_kind => k_is)
    (case a_law_agrees => k_is)
    (case l_law_agrees => k_is)
    (case c_law_agrees => k_is)
    (case k_law_agrees => k_is)
    (case a_law_begin => k_is)
    (case l_law_begin => k_is)
    (case c_law_begin => k_is)
    (case k_law_begin => k_is)
    (case a_Body_init => k_is)
    (case i_Body_init => k_is)
    (case l_Body_init => k_is)
    (case c_Body_init => k_is)
    (case k_Body_init => k_is)
    (case a_law_body_of => k_is)
    (case l_law_body_of => k_is)
    (case c_law_body_of => k_is)
    (case k_law_body_of => k_is)
    (case a_law_whole => k_is)
    (case l_law_whole => k_is)
    (case c_law_whole => k_is)
    (case k_law_whole => k_is)
    (case a_law_drawn => k_is)
    (case l_law_drawn => k_is)
    (case c_law_drawn => k_is)
    (case k_law_drawn => k_is)
    (case a_law_exchanged => k_is)
    (case l_law_exchanged => k_is)
    (case c_law_exchanged => k_is)
    (case k_law_exchanged => k_is)
    (case a_law_names => k_is)
    (case l_law_names => k_is)
    (case c_law_names => k_is)
    (case k_law_names => k_is)
    (case a_law_some => k_is)
    (case l_law_some => k_is)
    (case c_law_some => k_is)
    (case k_law_some => k_is)
    (case a_law_turned => k_is)
    (case l_law_turned => k_is)
    (case c_law_turned => k_is)
    (case k_law_turned => k_is)
    (case a_law => k_is)
    (case l_law => k_is)
    (case c_law => k_is)
    (case k_law => k_is)
    (case n_Body_nots => k_is)
    (case n_Body_rows => k_is)
    (case n_Body_spans => k_is)
    (case n_Body_wide => k_is)
    (case no_all => k_is)
    (case no_bool => k_is)
    (case no_dict => k_is)
    (case no_int => k_is)
    (case no_isinstance => k_is)
    (case no_len => k_is)
    (case no_list => k_is)
    (case no_min => k_is)
    (case no_range => k_is)
    (case no_set => k_is)
    (case no_sorted => k_is)
    (case no_tuple => k_is)
    (case no_zip => k_is)
#print axioms PySem.Challenge.cw_planassize_k41_kinds_exactly_by_own_maps_holds
