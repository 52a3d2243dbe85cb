import PyProof.Rows.All
import Wide.All
import OpenK.AllK
import Wide.FinOn
import HandS.ForMost
import HandS.Deep
import HandS.TupAny
import HandS.Steps
import HandS.Style
import HandS.NoneIn
import HandS.Small
import HandS.IsInst
import HandS.SortInts
import HandS.Conv
import HandS.Zip
import KE.GoesMore
import KE.GoesZip
import HandS.SortKw
import HandS.More
import PySem.Challenge.RW_planassize_k37_is_fold_of_images
set_option Elab.async false
set_option autoImplicit false
set_option linter.all false
set_option maxRecDepth 100000
namespace AL
open PySem L2
/-! AL1: data by value (D), the relation between values and data under a set of owned addresses, the owned environment. -/
inductive D where
  | non | bl (b : Bool) | int (i : Int) | str (x : Str) | tup (l : List D) | lst (l : List D) | dic (l m : List D) | dit (l m : List D) | obj (C : Addr) (ns : List Str) (l : List D) | scr (l : List D)
/-- a key of a dict as data -/
def kD : Key → D
  | .inl i => .int i
  | .inr x => .str x
abbrev Fg := PySem.W.Frag
abbrev Ad := Addr → Prop
def KTup (K : Fg) (a : Addr) (us : List V) : Prop := ∃ (o : Obj) (its : Array Value) (n : Nat), K.lookup a = some o ∧ o.cls = .type "tuple" ∧ o.data = .seq its n ∧ its.size ≤ sizeLine ∧ Vals us its.toList
/-- a list or tuple that stays: no owned one -/
def SL (H : Hp) (P : Ad) (a : Addr) (us : List V) : Prop := H a = some (.lst us) ∧ ¬ P a ∧ us.length ≤ sizeLine
def ST (K : Fg) (H : Hp) (P : Ad) (a : Addr) (us : List V) : Prop := (Rd H a (.tup us) ∧ ¬ P a ∧ us.length ≤ sizeLine) ∨ KTup K a us
/-- a list that is read alone (the script) -/
def SS (K : Fg) (H : Hp) (P : Ad) (a : Addr) (us : List V) : Prop := us.length ≤ sizeLine ∧ ((Rd H a (.lst us) ∧ ¬ P a) ∨ ∃ (o : Obj) (its : Array Value) (n : Nat), K.lookup a = some o ∧ o.cls = .type "list" ∧ o.dict = none ∧ o.data = .seq its n ∧ its.size ≤ sizeLine ∧ Vals us its.toList)
theorem SS.sq {K : Fg} {H : Hp} {P : Ad} {a : Addr} {us : List V} (h : SS K H P a us) : SqL K H a us := h.2.imp And.left id
theorem SL.sq {K : Fg} {H : Hp} {P : Ad} {a : Addr} {us : List V} (h : SL H P a us) : SqL K H a us := .of h.1
theorem ST.len {K : Fg} {H : Hp} {P : Ad} {a : Addr} {us : List V} (h : ST K H P a us) : us.length ≤ sizeLine := by
  rcases h with h | ⟨o, its, n, _, _, _, z, r⟩
  · exact h.2.2
  · have e := r.length
    simp only [Array.length_toList] at e
    omega
theorem ST.sq {K : Fg} {H : Hp} {P : Ad} {a : Addr} {us : List V} (h : ST K H P a us) : SqT K H a us := h.imp And.left id
mutual
inductive RD (K : Fg) (H : Hp) (P : Ad) : V → D → Prop
  | non : RD K H P V.non D.non
  | bl (b : Bool) : RD K H P (V.bl b) (D.bl b)
  | int (i : Int) : RD K H P (V.int i) (D.int i)
  | str (x : Str) : RD K H P (V.str x) (D.str x)
  | tup {a : Addr} {us : List V} {ds : List D} : ST K H P a us → RDs K H P us ds → RD K H P (V.ref a) (D.tup ds)
  | lst {a : Addr} {us : List V} {ds : List D} : SL H P a us → RDs K H P us ds → RD K H P (V.ref a) (D.lst ds)
  | dK {a : Addr} {kvs : List (Key × V)} {ks vs : List D} : Rd H a (.dK kvs) → ¬ P a → ks = (kvs.map fun kv => kD kv.1) → RDs K H P (kvs.map (·.2)) vs → RD K H P (V.ref a) (D.dic ks vs)
  | dT {a : Addr} {kvs : List (List Key × V)} {ks vs : List D} : Rd H a (.dT kvs) → ¬ P a → ks = (kvs.map fun kv => D.tup (kv.1.map kD)) → RDs K H P (kvs.map (·.2)) vs → RD K H P (V.ref a) (D.dit ks vs)
  | obj {a C dx : Addr} {fs : List (Str × V)} {ns : List Str} {l : List D} : H a = some (.ins C dx fs) → ¬ P a → ns = fs.map (·.1) → RDs K H P (fs.map (·.2)) l → RD K H P (V.ref a) (D.obj C ns l)
  | scr {a : Addr} {us : List V} {ds : List D} : SS K H P a us → RDs K H P us ds → RD K H P (V.ref a) (D.scr ds)
inductive RDs (K : Fg) (H : Hp) (P : Ad) : List V → List D → Prop
  | nil : RDs K H P [] []
  | cons {v : V} {vs : List V} {d : D} {ds : List D} : RD K H P v d → RDs K H P vs ds → RDs K H P (v :: vs) (d :: ds)
end
def isD : HO → Bool
  | .dK _ => true
  | .dT _ => true
  | _ => false
/-- an object stays; a dict may have been locked -/
def KeepO (o : HO) (H' : Hp) (a : Addr) : Prop := H' a = some o ∨ ∃ od, isD o = true ∧ H' a = some (.frz od o)
theorem KeepO.trans {o : HO} {H1 H2 : Hp} {a : Addr} (h : KeepO o H1 a) (k : ∀ u, H1 a = some u → KeepO u H2 a) : KeepO o H2 a := by
  rcases h with h | ⟨od, d, h⟩
  · exact k _ h
  · rcases k _ h with q | ⟨_, d', _⟩
    · exact .inr ⟨od, d, q⟩
    · cases d'
theorem KeepO.some {o : HO} {H1 : Hp} {a : Addr} (h : KeepO o H1 a) : ∃ o', H1 a = some o' := by
  rcases h with h | ⟨od, d, h⟩
  · exact ⟨_, h⟩
  · exact ⟨_, h⟩
theorem KeepO.rd {o : HO} {H1 : Hp} {a : Addr} (h : KeepO o H1 a) : Rd H1 a o := by
  rcases h with h | ⟨od, d, h⟩
  · exact .inl h
  · exact .inr ⟨od, h⟩
theorem KeepO.eq {o : HO} {H1 : Hp} {a : Addr} (h : KeepO o H1 a) (n : isD o = false) : H1 a = Option.some o := by
  rcases h with h | ⟨od, d, h⟩
  · exact h
  · rw [n] at d; cases d
/-- what is kept: all that was tracked ahead but the owned P0; P2: the owned behind, old ones or new ones -/
structure Go (P0 P1 P2 : Ad) (H H' : Hp) : Prop where
  keep : ∀ a o, H a = some o → ¬ P0 a → KeepO o H' a
  new : ∀ a, P2 a → P1 a ∨ H a = none
section
variable {K : Fg} {P0 P1 P2 : Ad} {H H' : Hp}
theorem Go.rd {a : Addr} {u : HO} (g : Go P0 P1 P2 H H') (s : ∀ a, P0 a → P1 a) (h : Rd H a u) (n : ¬ P1 a) : Rd H' a u ∧ ¬ P2 a := by
  have n0 : ¬ P0 a := fun z => n (s a z)
  have e : ∃ o, H a = some o := by
    rcases h with h | ⟨o, h⟩
    · exact ⟨_, h⟩
    · exact ⟨_, h⟩
  refine ⟨?_, fun z => ?_⟩
  · rcases h with h | ⟨o, h⟩
    · exact (g.keep _ _ h n0).rd
    · exact .inr ⟨o, (g.keep _ _ h n0).eq rfl⟩
  · obtain ⟨o, e⟩ := e
    rcases g.new a z with z | z
    · exact n z
    · rw [e] at z; cases z
theorem Go.at {a : Addr} {u : HO} (g : Go P0 P1 P2 H H') (s : ∀ a, P0 a → P1 a) (h : H a = some u) (n : ¬ P1 a) (nd : isD u = false) : H' a = some u ∧ ¬ P2 a := by
  refine ⟨(g.keep _ _ h fun z => n (s a z)).eq nd, fun z => ?_⟩
  rcases g.new a z with z | z
  · exact n z
  · rw [h] at z; cases z
theorem Go.sl {a : Addr} {us : List V} (g : Go P0 P1 P2 H H') (s : ∀ a, P0 a → P1 a) (h : SL H P1 a us) : SL H' P2 a us := by
  have n0 : ¬ P0 a := fun z => h.2.1 (s a z)
  refine ⟨(g.keep _ _ h.1 n0).eq rfl, fun z => ?_, h.2.2⟩
  rcases g.new a z with z | z
  · exact h.2.1 z
  · rw [h.1] at z; cases z
theorem Go.st {a : Addr} {us : List V} (g : Go P0 P1 P2 H H') (s : ∀ a, P0 a → P1 a) (h : ST K H P1 a us) : ST K H' P2 a us := by
  rcases h with ⟨h, n, l⟩ | h
  · exact .inl ⟨(g.rd s h n).1, (g.rd s h n).2, l⟩
  · exact .inr h
theorem Go.ss {a : Addr} {us : List V} (g : Go P0 P1 P2 H H') (s : ∀ a, P0 a → P1 a) (h : SS K H P1 a us) : SS K H' P2 a us := ⟨h.1, h.2.imp (fun h => g.rd s h.1 h.2) id⟩
mutual
theorem RD.go (g : Go P0 P1 P2 H H') (s : ∀ a, P0 a → P1 a) : ∀ {v : V} {d : D}, RD K H P1 v d → RD K H' P2 v d
  | _, _, .non => .non
  | _, _, .bl b => .bl b
  | _, _, .int i => .int i
  | _, _, .str x => .str x
  | _, _, .tup h r => .tup (g.st s h) (RDs.go g s r)
  | _, _, .lst h r => .lst (g.sl s h) (RDs.go g s r)
  | _, _, .dK h n e r => .dK (g.rd s h n).1 (g.rd s h n).2 e (RDs.go g s r)
  | _, _, .dT h n e r => .dT (g.rd s h n).1 (g.rd s h n).2 e (RDs.go g s r)
  | _, _, .obj h n e r => .obj (g.at s h n rfl).1 (g.at s h n rfl).2 e (RDs.go g s r)
  | _, _, .scr h r => .scr (g.ss s h) (RDs.go g s r)
theorem RDs.go (g : Go P0 P1 P2 H H') (s : ∀ a, P0 a → P1 a) : ∀ {vs : List V} {ds : List D}, RDs K H P1 vs ds → RDs K H' P2 vs ds
  | _, _, .nil => .nil
  | _, _, .cons h r => .cons (RD.go g s h) (RDs.go g s r)
end
end
section
variable {K : Fg} {P P' : Ad} {H : Hp}
theorem go_less (s : ∀ a, P' a → P a) : Go (fun _ => False) P P' H H := ⟨fun _ _ h _ => .inl h, fun a z => .inl (s a z)⟩
theorem RD.less {v : V} {d : D} (h : RD K H P v d) (s : ∀ a, P' a → P a) : RD K H P' v d := h.go (go_less s) fun _ z => z.elim
theorem RDs.less {vs : List V} {ds : List D} (h : RDs K H P vs ds) (s : ∀ a, P' a → P a) : RDs K H P' vs ds := h.go (go_less s) fun _ z => z.elim
theorem RDs.length : ∀ {vs : List V} {ds : List D}, RDs K H P vs ds → vs.length = ds.length
  | _, _, .nil => rfl
  | _, _, .cons _ r => congrArg Nat.succ (RDs.length r)
theorem RDs.get : ∀ {vs : List V} {ds : List D} {i : Nat} {d : D}, RDs K H P vs ds → ds[i]? = some d → ∃ v, vs[i]? = some v ∧ RD K H P v d
  | _, _, _, _, .nil, e => by simp at e
  | _, _, 0, _, .cons r _, e => by simp at e; subst e; exact ⟨_, rfl, r⟩
  | _, _, i + 1, d, .cons _ t, e => by
    obtain ⟨v, h1, h2⟩ := RDs.get (i := i) (d := d) t (by simpa using e)
    exact ⟨v, by simpa using h1, h2⟩
theorem RDs.getV : ∀ {vs : List V} {ds : List D} {i : Nat} {v : V}, RDs K H P vs ds → vs[i]? = some v → ∃ d, ds[i]? = some d ∧ RD K H P v d
  | _, _, _, _, .nil, e => by simp at e
  | _, _, 0, _, .cons r _, e => by simp at e; subst e; exact ⟨_, rfl, r⟩
  | _, _, i + 1, v, .cons _ t, e => by
    obtain ⟨d, h1, h2⟩ := RDs.getV (i := i) (v := v) t (by simpa using e)
    exact ⟨d, by simpa using h1, h2⟩
theorem RDs.append : ∀ {us vs : List V} {ds es : List D}, RDs K H P us ds → RDs K H P vs es → RDs K H P (us ++ vs) (ds ++ es)
  | _, _, _, _, .nil, s => s
  | _, _, _, _, .cons r t, s => .cons r (RDs.append t s)
theorem RDs.take : ∀ {us : List V} {ds : List D} (n : Nat), RDs K H P us ds → RDs K H P (us.take n) (ds.take n)
  | _, _, 0, _ => .nil
  | _, _, _ + 1, .nil => .nil
  | _, _, n + 1, .cons r t => .cons r (RDs.take n t)
theorem RDs.drop : ∀ {us : List V} {ds : List D} (n : Nat), RDs K H P us ds → RDs K H P (us.drop n) (ds.drop n)
  | _, _, 0, r => r
  | _, _, _ + 1, .nil => .nil
  | _, _, n + 1, .cons _ t => RDs.drop n t
theorem RDs.set {v : V} {d : D} (h : RD K H P v d) : ∀ {us : List V} {ds : List D} (n : Nat), RDs K H P us ds → RDs K H P (us.set n v) (ds.set n d)
  | _, _, _, .nil => .nil
  | _, _, 0, .cons _ t => .cons h t
  | _, _, n + 1, .cons r t => .cons r (RDs.set h n t)
theorem RDs.ints : ∀ (ns : List Int), RDs K H P (ns.map V.int) (ns.map D.int)
  | [] => .nil
  | n :: ns => .cons (.int n) (RDs.ints ns)
theorem RDs.strs : ∀ (ns : List Str), RDs K H P (ns.map V.str) (ns.map D.str)
  | [] => .nil
  | n :: ns => .cons (.str n) (RDs.strs ns)
theorem RDs.ofInts : ∀ {us : List V} {ns : List Int}, RDs K H P us (ns.map D.int) → us = ns.map V.int
  | _, [], .nil => rfl
  | _, n :: ns, .cons r t => by
    cases r
    rw [RDs.ofInts t]
    rfl
theorem RDs.ofBls : ∀ {us : List V} {ns : List Bool}, RDs K H P us (ns.map D.bl) → us = ns.map V.bl
  | _, [], .nil => rfl
  | _, n :: ns, .cons r t => by
    cases r
    rw [RDs.ofBls t]
    rfl
theorem RDs.ofStrs : ∀ {us : List V} {ns : List Str}, RDs K H P us (ns.map D.str) → us = ns.map V.str
  | _, [], .nil => rfl
  | _, n :: ns, .cons r t => by
    cases r
    rw [RDs.ofStrs t]
    rfl
/-- what an owned address holds -/
def RO (K : Fg) (H : Hp) (P : Ad) (p : Addr) : D → Prop
  | .lst ds => ∃ us, H p = some (.lst us) ∧ RDs K H P us ds ∧ us.length ≤ sizeLine
  | .dic ks vs => ∃ kvs, H p = some (.dK kvs) ∧ ks = (kvs.map fun kv => kD kv.1) ∧ RDs K H P (kvs.map (·.2)) vs
  | .dit ks vs => ∃ kvs, H p = some (.dT kvs) ∧ ks = (kvs.map fun kv => D.tup (kv.1.map kD)) ∧ RDs K H P (kvs.map (·.2)) vs
  | .obj C ns l => ∃ dx fs, H p = some (.ins C dx fs) ∧ ns = fs.map (·.1) ∧ RDs K H P (fs.map (·.2)) l
  | _ => False
theorem RO.able {p : Addr} : ∀ {d : D}, RO K H P p d → (match d with | .lst _ => true | .dic _ _ => true | .dit _ _ => true | .obj _ _ _ => true | _ => false) = true
  | .lst ds, _ => rfl
  | .dic ks vs, _ => rfl
  | .dit ks vs, _ => rfl
  | .obj C ns l, _ => rfl
theorem RO.some {p : Addr} : ∀ {d : D}, RO K H P p d → ∃ o, H p = some o ∧ Mut (some o)
  | .lst ds, ⟨us, h, _⟩ => ⟨_, h, trivial⟩
  | .dic ks vs, ⟨us, h, _⟩ => ⟨_, h, trivial⟩
  | .dit ks vs, ⟨us, h, _⟩ => ⟨_, h, trivial⟩
  | .obj C ns l, ⟨dx, fs, h, _⟩ => ⟨_, h, trivial⟩
theorem RO.go {P0 P1 P2 : Ad} {H' : Hp} {p : Addr} (g : Go P0 P1 P2 H H') (s : ∀ a, P0 a → P1 a) (hp : H' p = H p) : ∀ {d : D}, RO K H P1 p d → RO K H' P2 p d
  | .lst ds, ⟨us, h, r, l⟩ => ⟨us, hp.trans h, r.go g s, l⟩
  | .dic ks vs, ⟨us, h, e, r⟩ => ⟨us, hp.trans h, e, r.go g s⟩
  | .dit ks vs, ⟨us, h, e, r⟩ => ⟨us, hp.trans h, e, r.go g s⟩
  | .obj C ns l, ⟨dx, fs, h, e, r⟩ => ⟨dx, fs, hp.trans h, e, r.go g s⟩
theorem RO.less {p : Addr} {d : D} (h : RO K H P p d) (s : ∀ a, P' a → P a) : RO K H P' p d := h.go (go_less s) (fun _ z => z.elim) rfl
/-- an owned thing that is owned no more -/
theorem RO.rd {p : Addr} : ∀ {d : D}, RO K H P p d → ¬ P p → RD K H P (V.ref p) d
  | .lst ds, ⟨us, h, r, l⟩, n => .lst ⟨h, n, l⟩ r
  | .dic ks vs, ⟨us, h, e, r⟩, n => .dK (.inl h) n e r
  | .dit ks vs, ⟨us, h, e, r⟩, n => .dT (.inl h) n e r
  | .obj C ns l, ⟨dx, fs, h, e, r⟩, n => .obj h n e r
end

/-! ### the owned environment -/
inductive AV where
  | un | dat (d : D) | own (d : D)
abbrev AEnv := List AV
def Own (σ : St) (env : AEnv) (a : Addr) : Prop := ∃ (i : Nat) (d : D), env[i]? = some (.own d) ∧ σ[i]? = some (some (.ref a))
def Pw (Y : Ad) (σ : St) (env : AEnv) (a : Addr) : Prop := Y a ∨ Own σ env a
structure Rep (K : Fg) (Y : Ad) (H : Hp) (σ : St) (env : AEnv) : Prop where
  len : σ.length = env.length
  dat : ∀ (i : Nat) (d : D), env[i]? = some (.dat d) → ∃ v, σ[i]? = some (some v) ∧ RD K H (Pw Y σ env) v d
  own : ∀ (i : Nat) (d : D), env[i]? = some (.own d) → ∃ p, σ[i]? = some (some (.ref p)) ∧ ¬ Y p ∧ RO K H (Pw Y σ env) p d
  yin : ∀ a, Y a → ∃ o, H a = some o
  inj : ∀ (i j : Nat) (d e : D) (p : Addr), env[i]? = some (.own d) → env[j]? = some (.own e) → σ[i]? = some (some (.ref p)) → σ[j]? = some (some (.ref p)) → i = j
def ownable : D → Bool
  | .lst _ => true
  | .dic _ _ => true
  | .dit _ _ => true
  | .obj _ _ _ => true
  | _ => false
/-- how a slot goes on within an expression -/
def Sh : Option AV → Option AV → Prop
  | some (.own _), some (.own _) => True
  | some (.own _), some (.dat d) => ownable d = true
  | some (.dat d), some (.dat e) => d = e
  | some .un, some .un => True
  | none, none => True
  | _, _ => False
theorem Sh.refl : ∀ a : Option AV, Sh a a
  | some (.own _) => trivial
  | some (.dat _) => rfl
  | some .un => trivial
  | none => trivial
theorem Sh.trans : ∀ {a b c : Option AV}, Sh a b → Sh b c → Sh a c
  | some (.own _), some (.own _), some (.own _), _, _ => trivial
  | some (.own _), some (.own _), some (.dat _), _, k => k
  | some (.own _), some (.dat d), some (.dat e), h, k => by
    have k' : d = e := k
    subst k'
    exact h
  | some (.dat _), some (.dat _), some (.dat _), h, k => Eq.trans h k
  | some .un, some .un, some .un, _, _ => trivial
  | none, none, none, _, _ => trivial
theorem Sh.back {a : Option AV} {d : D} (h : Sh a (some (.own d))) : ∃ e, a = some (.own e) := by
  match a, h with
  | some (.own e), _ => exact ⟨e, rfl⟩
structure Adv (σ : St) (Y : Ad) (env : AEnv) (H : Hp) (Y' : Ad) (env' : AEnv) (H' : Hp) : Prop where
  keep : ∀ a o, H a = some o → ¬ Own σ env a → KeepO o H' a
  ky : ∀ a, Y a → H' a = H a
  yu : ∀ a, Y a → Y' a
  yn : ∀ a, Y' a → Y a ∨ H a = none
  sh : ∀ i : Nat, Sh env[i]? env'[i]?
  live : ∀ a o, H a = some o → ∃ o', H' a = some o'
section
variable {K : Fg} {σ : St} {Y Y1 Y2 : Ad} {env env1 env2 : AEnv} {H H1 H2 : Hp}
theorem Adv.refl : Adv σ Y env H Y env H := ⟨fun _ _ h _ => .inl h, fun _ _ => rfl, fun _ h => h, fun _ h => .inl h, fun i => Sh.refl _, fun _ o h => ⟨o, h⟩⟩
theorem Adv.own (g : Adv σ Y env H Y1 env1 H1) {a : Addr} (h : Own σ env1 a) : Own σ env a := by
  obtain ⟨i, d, e, r⟩ := h
  have s := g.sh i
  rw [e] at s
  obtain ⟨e', z⟩ := s.back
  exact ⟨i, e', z, r⟩
theorem Adv.trans (g : Adv σ Y env H Y1 env1 H1) (k : Adv σ Y1 env1 H1 Y2 env2 H2) : Adv σ Y env H Y2 env2 H2 := by
  refine ⟨fun a o h n => (g.keep a o h n).trans fun u q => k.keep a u q fun z => n (g.own z), fun a h => (k.ky a (g.yu a h)).trans (g.ky a h), fun a h => k.yu a (g.yu a h), fun a h => ?_, fun i => (g.sh i).trans (k.sh i), fun a o h => ?_⟩
  · rcases k.yn a h with z | z
    · exact g.yn a z
    · cases q : H a with
      | none => exact .inr rfl
      | some o =>
        obtain ⟨o', w⟩ := g.live a o q
        rw [w] at z; cases z
  · obtain ⟨o', w⟩ := g.live a o h
    exact k.live a o' w
theorem Adv.go (g : Adv σ Y env H Y1 env1 H1) : Go (Own σ env) (Pw Y σ env) (Pw Y1 σ env1) H H1 := by
  refine ⟨g.keep, fun a h => ?_⟩
  rcases h with h | h
  · exact (g.yn a h).imp .inl id
  · exact .inl (.inr (g.own h))
theorem Adv.rd (g : Adv σ Y env H Y1 env1 H1) {v : V} {d : D} (h : RD K H (Pw Y σ env) v d) : RD K H1 (Pw Y1 σ env1) v d := h.go g.go fun _ z => .inr z
theorem Adv.rds (g : Adv σ Y env H Y1 env1 H1) {v : List V} {d : List D} (h : RDs K H (Pw Y σ env) v d) : RDs K H1 (Pw Y1 σ env1) v d := h.go g.go fun _ z => .inr z
/-- fewer borrowed addresses -/
theorem Rep.less (R : Rep K Y H σ env) (s : ∀ a, Y1 a → Y a) : Rep K Y1 H σ env := by
  have s2 : ∀ a, Pw Y1 σ env a → Pw Y σ env a := fun a h => h.imp (s a) id
  refine ⟨R.len, fun i d e => ?_, fun i d e => ?_, fun a h => R.yin a (s a h), R.inj⟩
  · obtain ⟨v, h, r⟩ := R.dat i d e
    exact ⟨v, h, r.less s2⟩
  · obtain ⟨p, h, n, r⟩ := R.own i d e
    exact ⟨p, h, fun z => n (s p z), r.less s2⟩

/-! ### what an expression gives -/
inductive RV where
  | dat (d : D) | at (i : Nat) | new (d : D)
def val (env : AEnv) : RV → Option D
  | .dat d => some d
  | .new d => some d
  | .at i => match env[i]? with
    | some (.own d) => some d
    | some (.dat d) => some d
    | _ => none
def ResOk (K : Fg) (H : Hp) (Y Y' : Ad) (σ : St) (env : AEnv) (v : V) : RV → Prop
  | .dat d => Y' = Y ∧ RD K H (Pw Y σ env) v d
  | .at i => Y' = Y ∧ σ[i]? = some (some v) ∧ ∃ d, env[i]? = some (.own d) ∨ env[i]? = some (.dat d)
  | .new d => ∃ p, v = .ref p ∧ (Y' = fun a => Y a ∨ a = p) ∧ ¬ Pw Y σ env p ∧ RO K H (Pw Y' σ env) p d
/-- the value as it is read now: its own node may be owned, its items are data -/
def RC (K : Fg) (H : Hp) (P : Ad) (v : V) (d : D) : Prop := RD K H P v d ∨ ∃ p, v = .ref p ∧ RO K H P p d
theorem RC.rd {P : Ad} {v : V} {d : D} (h : RC K H P v d) : RD K H (fun _ => False) v d := by
  rcases h with h | ⟨p, rfl, h⟩
  · exact h.less fun _ z => z.elim
  · exact (h.less (P' := fun _ => False) fun _ z => z.elim).rd fun z => z
theorem RC.less {P P' : Ad} {v : V} {d : D} (h : RC K H P v d) (s : ∀ a, P' a → P a) : RC K H P' v d := by
  rcases h with h | ⟨p, rfl, h⟩
  · exact .inl (h.less s)
  · exact .inr ⟨p, rfl, h.less s⟩
theorem ResOk.rc {v : V} (R : Rep K Y1 H σ env) : ∀ {r : RV}, ResOk K H Y Y1 σ env v r → ∃ d, val env r = some d ∧ RC K H (Pw Y1 σ env) v d
  | .dat d, ⟨e, h⟩ => by subst e; exact ⟨d, rfl, .inl h⟩
  | .new d, ⟨p, e, _, _, h⟩ => ⟨d, rfl, .inr ⟨p, e, h⟩⟩
  | .at i, ⟨e, h, d, q⟩ => by
    subst e
    rcases q with q | q
    · obtain ⟨p, h', _, r⟩ := R.own i d q
      rw [h] at h'; cases h'
      exact ⟨d, by simp [val, q], .inr ⟨p, rfl, r⟩⟩
    · obtain ⟨p, h', r⟩ := R.dat i d q
      rw [h] at h'; cases h'
      exact ⟨d, by simp [val, q], .inl r⟩
/-- a result waits while another part is evaluated -/
theorem ResOk.later {v : V} (g : Adv σ Y1 env1 H1 Y2 env2 H2) (R : Rep K Y2 H2 σ env2) : ∀ {r : RV}, ResOk K H1 Y Y1 σ env1 v r → ∃ d, val env2 r = some d ∧ RC K H2 (Pw Y2 σ env2) v d
  | .dat d, ⟨e, h⟩ => by subst e; exact ⟨d, rfl, .inl (g.rd h)⟩
  | .new d, ⟨p, e, ey, n, h⟩ => by
    refine ⟨d, rfl, .inr ⟨p, e, h.go g.go (fun _ z => .inr z) ?_⟩⟩
    exact g.ky p (by rw [ey]; exact .inr rfl)
  | .at i, ⟨e, h, d, q⟩ => by
    have s := g.sh i
    have R' := R
    rcases q with q | q
    · rw [q] at s
      match w : env2[i]?, s with
      | some (.own d'), _ =>
        obtain ⟨p, h', _, r⟩ := R.own i d' w
        rw [h] at h'; cases h'
        exact ⟨d', by simp [val, w], .inr ⟨p, rfl, r⟩⟩
      | some (.dat d'), _ =>
        obtain ⟨p, h', r⟩ := R.dat i d' w
        rw [h] at h'; cases h'
        exact ⟨d', by simp [val, w], .inl r⟩
    · rw [q] at s
      match w : env2[i]?, s with
      | some (.dat d'), _ =>
        obtain ⟨p, h', r⟩ := R.dat i d' w
        rw [h] at h'; cases h'
        exact ⟨d', by simp [val, w], .inl r⟩
end
end AL
namespace AL
open PySem L2
/-! AL2: the judgements over data (AE, AT, AA), results, operators. -/
section
variable {K : Fg} {σ : St} {Y Y' Y1 Y2 : Ad} {env env1 env2 : AEnv} {H H' H1 H2 : Hp}
/-- a heap that only grew -/
theorem Rep.grow (R : Rep K Y H σ env) (y : ∀ a, Y' a → Y a ∨ H a = none) (k : ∀ a o, H a = some o → H' a = some o) (yi : ∀ a, Y' a → ∃ o, H' a = some o) : Rep K Y' H' σ env := by
  have g : Go (fun _ => False) (Pw Y σ env) (Pw Y' σ env) H H' := ⟨fun a o h _ => .inl (k a o h), fun a h => by
    rcases h with h | h
    · exact (y a h).imp .inl id
    · exact .inl (.inr h)⟩
  refine ⟨R.len, fun i d e => ?_, fun i d e => ?_, yi, R.inj⟩
  · obtain ⟨v, h, r⟩ := R.dat i d e
    exact ⟨v, h, r.go g fun _ z => z.elim⟩
  · obtain ⟨p, h, n, r⟩ := R.own i d e
    obtain ⟨o, q, _⟩ := r.some
    refine ⟨p, h, fun z => ?_, r.go g (fun _ z => z.elim) ((k _ _ q).trans q.symm)⟩
    rcases y p z with z | z
    · exact n z
    · rw [q] at z; cases z
theorem Adv.grow (R : Rep K Y H σ env) (k : ∀ a o, H a = some o → H' a = some o) (yu : ∀ a, Y a → Y' a) (y : ∀ a, Y' a → Y a ∨ H a = none) : Adv σ Y env H Y' env H' :=
  ⟨fun a o h _ => .inl (k a o h), fun a z => let ⟨o, q⟩ := R.yin a z; (k a o q).trans q.symm, yu, y, fun i => Sh.refl _, fun a o h => ⟨o, k a o h⟩⟩
theorem Adv.drop (g : Adv σ Y env H Y' env1 H') : Adv σ Y env H Y env1 H' := ⟨g.keep, g.ky, fun _ h => h, fun _ h => .inl h, g.sh, g.live⟩
theorem Adv.less (g : Adv σ Y env H Y' env1 H') (s : ∀ a, Y1 a → Y' a) (u : ∀ a, Y a → Y1 a) : Adv σ Y env H Y1 env1 H' := ⟨g.keep, g.ky, u, fun a h => g.yn a (s a h), g.sh, g.live⟩
theorem upd_keep {p : Addr} {o : HO} (n : H p = none) : ∀ a u, H a = some u → upd H p o a = some u := fun a u h => by
  rw [upd_ne (ne_of_none h n)]; exact h
theorem pw_less (s : ∀ a, Y1 a → Y a) : ∀ a, Pw Y1 σ env a → Pw Y σ env a := fun a h => h.imp (s a) id
end

abbrev AE' := AEnv → (RV → AEnv → Prop) → Prop
abbrev AT' := AEnv → (Bool → AEnv → Prop) → Prop
abbrev AA' := AEnv → (List RV → AEnv → Prop) → Prop
def Snd (K : Fg) (t : TE) (a : AE') : Prop := ∀ (Y : Ad) (H : Hp) (σ : St) (env : AEnv) (R : RV → AEnv → Prop) (Q : VK), Rep K Y H σ env → a env R →
  (∀ v H' env' r Y', Rep K Y' H' σ env' → Adv σ Y env H Y' env' H' → ResOk K H' Y Y' σ env' v r → R r env' → Q v H') → t σ H Q
def SndT (K : Fg) (t : TT) (a : AT') : Prop := ∀ (Y : Ad) (H : Hp) (σ : St) (env : AEnv) (R : Bool → AEnv → Prop) (Q : Bool → Hp → Prop), Rep K Y H σ env → a env R →
  (∀ b H' env', Rep K Y H' σ env' → Adv σ Y env H Y env' H' → R b env' → Q b H') → t σ H Q
/-- the arguments: data, or names of owned things that are lent -/
inductive ArgsOk (K : Fg) (H : Hp) (Y : Ad) (σ : St) (env : AEnv) : List V → List RV → Prop
  | nil : ArgsOk K H Y σ env [] []
  | cons {v : V} {vs : List V} {r : RV} {rs : List RV} : ResOk K H Y Y σ env v r → ArgsOk K H Y σ env vs rs → ArgsOk K H Y σ env (v :: vs) (r :: rs)
def SndA (K : Fg) (t : TA) (a : AA') : Prop := ∀ (Y : Ad) (H : Hp) (σ : St) (env : AEnv) (R : List RV → AEnv → Prop) (Q : List V → Hp → Prop), Rep K Y H σ env → a env R →
  (∀ vs H' env' rs, Rep K Y H' σ env' → Adv σ Y env H Y env' H' → ArgsOk K H' Y σ env' vs rs → R rs env' → Q vs H') → t σ H Q
def AE (X : Cx) (e : Expr) (a : AE') : Prop := ∃ t, PE X e t ∧ Snd X.K t a
def AT (X : Cx) (e : Expr) (a : AT') : Prop := ∃ t, PT X e t ∧ SndT X.K t a
def AW (X : Cx) (e : Expr) (a : AT') : Prop := ∃ t, PW X e t ∧ SndT X.K t a
def AA (X : Cx) (es : List Expr) (a : AA') : Prop := ∃ t, PA X es t ∧ SndA X.K t a
section
variable {K : Fg} {σ : St} {Y Y' Y1 Y2 : Ad} {env env1 env2 : AEnv} {H H' H1 H2 : Hp}
/-- no new thing: data or a lent name goes on -/
theorem ResOk.on {v : V} (g : Adv σ Y env1 H1 Y env2 H2) : ∀ {r : RV}, ResOk K H1 Y Y σ env1 v r → ResOk K H2 Y Y σ env2 v r
  | .dat d, ⟨e, h⟩ => ⟨rfl, g.rd h⟩
  | .at i, ⟨e, h, d, q⟩ => by
    refine ⟨rfl, h, ?_⟩
    have s := g.sh i
    rcases q with q | q
    · rw [q] at s
      match w : env2[i]?, s with
      | some (.own d'), _ => exact ⟨d', .inl rfl⟩
      | some (.dat d'), _ => exact ⟨d', .inr rfl⟩
    · rw [q] at s
      match w : env2[i]?, s with
      | some (.dat d'), _ => exact ⟨d', .inr rfl⟩
  | .new d, ⟨p, _, ey, n, _⟩ => by
    refine (n (.inl ?_)).elim
    rw [ey]
    exact .inr rfl
theorem ArgsOk.on (g : Adv σ Y env1 H1 Y env2 H2) : ∀ {vs : List V} {rs : List RV}, ArgsOk K H1 Y σ env1 vs rs → ArgsOk K H2 Y σ env2 vs rs
  | _, _, .nil => .nil
  | _, _, .cons h r => .cons (h.on g) (r.on g)
end

/-! ### names, constants -/
def aVar (i : Nat) : AE' := fun env R => match env[i]? with
  | some (.dat d) => R (.dat d) env
  | some (.own _) => R (.at i) env
  | _ => False
def aC (d : D) : AE' := fun env R => R (.dat d) env
theorem snd_var {K : Fg} (i : Nat) : Snd K (tVar i) (aVar i) := by
  intro Y H σ env R Q rep a k
  unfold aVar at a
  match w : env[i]?, a with
  | some (.dat d), a =>
    obtain ⟨v, h, r⟩ := rep.dat i d w
    exact ⟨v, h, k v H env (.dat d) Y rep Adv.refl ⟨rfl, r⟩ a⟩
  | some (.own d), a =>
    obtain ⟨p, h, n, r⟩ := rep.own i d w
    exact ⟨_, h, k _ H env (.at i) Y rep Adv.refl ⟨rfl, h, d, .inl w⟩ a⟩
theorem snd_c {K : Fg} {v : V} {d : D} (h : ∀ H P, RD K H P v d) : Snd K (tC v) (aC d) := fun Y H σ env R Q rep a k => k v H env (.dat d) Y rep Adv.refl ⟨rfl, h _ _⟩ a
section
variable {X : Cx} {pos : Pos}
theorem av (i : Nat) {x : Str} (hN : X.N[i]? = some x := by rfl) (hv : Vis X.env.scope x := by first | exact Or.inl rfl | exact Or.inr (Or.inl rfl) | exact Or.inr (Or.inr rfl)) (hd : (x == ("__debug__" : Str)) = false := by decide)
    (hcd : (x == ("__classdict__" : Str)) = false := by decide) : AE X (.Name x pos) (aVar i) := ⟨_, pe_var hN hv hd hcd, snd_var i⟩
theorem ae_int {i : Int} {j} : AE X (.Constant (.int i) j pos) (aC (.int i)) := ⟨_, pe_int, snd_c fun _ _ => .int i⟩
theorem ae_bl {b : Bool} {j} : AE X (.Constant (.bool b) j pos) (aC (.bl b)) := ⟨_, pe_bl, snd_c fun _ _ => .bl b⟩
theorem ae_non {j} : AE X (.Constant .none j pos) (aC .non) := ⟨_, pe_non, snd_c fun _ _ => .non⟩
theorem ae_str {x : Str} {j} : AE X (.Constant (.str x) j pos) (aC (.str x)) := ⟨_, pe_str, snd_c fun _ _ => .str x⟩
theorem ae_globI {x : Str} {i : Int} {u : Value} (hg : Gl X x) (hm : X.mg x = some u) (r : RelV (.int i) u) (hd : (x == ("__debug__" : Str)) = false := by decide) : AE X (.Name x pos) (aC (.int i)) := ⟨_, pe_glob hg hm r hd, snd_c fun _ _ => .int i⟩
theorem ae_globS {x : Str} {i : Str} {u : Value} (hg : Gl X x) (hm : X.mg x = some u) (r : RelV (.str i) u) (hd : (x == ("__debug__" : Str)) = false := by decide) : AE X (.Name x pos) (aC (.str i)) := ⟨_, pe_glob hg hm r hd, snd_c fun _ _ => .str i⟩
end

/-! ### a result handed over as data -/
def frz (env : AEnv) (R : RV → AEnv → Prop) : RV → Prop
  | .dat d => R (.dat d) env
  | .new d => R (.dat d) env
  | .at i => match env[i]? with
    | some (.own d) => R (.dat d) (env.set i (.dat d))
    | some (.dat d) => R (.dat d) env
    | _ => False
def aFrz (a : AE') : AE' := fun env R => a env fun r env1 => frz env1 R r
section
variable {K : Fg} {σ : St} {Y Y' Y1 Y2 : Ad} {env env1 env2 : AEnv} {H H' H1 H2 : Hp}
theorem Rep.freeze {i : Nat} {d : D} (R : Rep K Y H σ env) (h : env[i]? = some (.own d)) : Rep K Y H σ (env.set i (.dat d)) ∧ Adv σ Y env H Y (env.set i (.dat d)) H ∧ ∃ v, σ[i]? = some (some v) ∧ RD K H (Pw Y σ (env.set i (.dat d))) v d := by
  have hi : i < env.length := (List.getElem?_eq_some_iff.mp h).1
  have back : ∀ (j : Nat) (e : D), (env.set i (.dat d))[j]? = some (.own e) → env[j]? = some (.own e) ∧ j ≠ i := fun j e q => by
    by_cases z : i = j
    · subst z
      rw [List.getElem?_set_self hi] at q; cases q
    · rw [List.getElem?_set_ne z] at q
      exact ⟨q, fun w => z w.symm⟩
  have ow : ∀ a, Own σ (env.set i (.dat d)) a → Own σ env a := fun a ⟨j, e, q, w⟩ => ⟨j, e, (back j e q).1, w⟩
  have pw : ∀ a, Pw Y σ (env.set i (.dat d)) a → Pw Y σ env a := fun a z => z.imp id (ow a)
  obtain ⟨p, hp, np, rp⟩ := R.own i d h
  have npw : ¬ Pw Y σ (env.set i (.dat d)) p := fun z => by
    rcases z with z | ⟨j, e, q, w⟩
    · exact np z
    · obtain ⟨q1, q2⟩ := back j e q
      exact q2 (R.inj j i e d p q1 h w hp)
  have rd : RD K H (Pw Y σ (env.set i (.dat d))) (.ref p) d := (rp.less pw).rd npw
  refine ⟨⟨by rw [List.length_set]; exact R.len, fun j e q => ?_, fun j e q => ?_, R.yin, fun j k e f a q1 q2 w1 w2 => R.inj j k e f a (back j e q1).1 (back k f q2).1 w1 w2⟩, ⟨fun _ _ h _ => .inl h, fun _ _ => rfl, fun _ h => h, fun _ h => .inl h, fun j => ?_, fun _ o h => ⟨o, h⟩⟩, _, hp, rd⟩
  · by_cases z : i = j
    · subst z
      rw [List.getElem?_set_self hi] at q; cases q
      exact ⟨_, hp, rd⟩
    · rw [List.getElem?_set_ne z] at q
      obtain ⟨v, w, r⟩ := R.dat j e q
      exact ⟨v, w, r.less pw⟩
  · obtain ⟨q1, q2⟩ := back j e q
    obtain ⟨p', w, n, r⟩ := R.own j e q1
    exact ⟨p', w, n, r.less pw⟩
  · by_cases z : i = j
    · subst z
      rw [List.getElem?_set_self hi, h]
      have ab := rp.able
      cases d <;> first | rfl | exact (Bool.false_ne_true ab).elim
    · rw [List.getElem?_set_ne z]
      exact Sh.refl _
/-- the step of freezing -/
theorem frz_ok {v : V} {r : RV} {R : RV → AEnv → Prop} (rep : Rep K Y1 H σ env) (yu : ∀ a, Y a → Y1 a) (h : ResOk K H Y Y1 σ env v r) (q : frz env R r) :
    ∃ env2 d, Rep K Y H σ env2 ∧ Adv σ Y env H Y env2 H ∧ RD K H (Pw Y σ env2) v d ∧ R (.dat d) env2 := by
  cases r with
  | dat d =>
    obtain ⟨e, h1⟩ := h
    subst e
    exact ⟨env, d, rep, Adv.refl, h1, q⟩
  | new d =>
    obtain ⟨p, e, ey, n, h1⟩ := h
    subst e
    exact ⟨env, d, rep.less yu, Adv.refl, (h1.less (pw_less yu)).rd n, q⟩
  | «at» i =>
    obtain ⟨e, h1, d, w⟩ := h
    subst e
    rcases w with w | w
    · have q' : R (.dat d) (env.set i (.dat d)) := by simpa [frz, w] using q
      obtain ⟨a, b, v', h', r⟩ := rep.freeze w
      rw [h1] at h'; cases h'
      exact ⟨_, d, a, b, r, q'⟩
    · have q' : R (.dat d) env := by simpa [frz, w] using q
      obtain ⟨v', h', r⟩ := rep.dat i d w
      rw [h1] at h'; cases h'
      exact ⟨_, d, rep, Adv.refl, r, q'⟩
theorem Snd.frz {t : TE} {a : AE'} (s : Snd K t a) : Snd K t (aFrz a) := by
  intro Y H σ env R Q rep h k
  refine s Y H σ env _ Q rep h fun v H' env' r Y' rep' g ok q => ?_
  obtain ⟨env2, d, rep2, g2, rd, q2⟩ := frz_ok rep' g.yu ok q
  exact k v H' env2 (.dat d) Y rep2 (g.drop.trans g2) ⟨rfl, rd⟩ q2
theorem AE.frz {X : Cx} {e : Expr} {a : AE'} (h : AE X e a) : AE X e (aFrz a) := let ⟨t, p, s⟩ := h; ⟨t, p, s.frz⟩
end

/-! ### arguments -/
def aNil : AA' := fun env R => R [] env
/-- an argument that is data (freeze first), or a lent name -/
def aCons (a : AE') (t : AA') : AA' := fun env R => a env fun r env1 => (match r with | .new _ => False | _ => True) ∧ t env1 fun rs env2 => R (r :: rs) env2
def aConsD (a : AE') (t : AA') : AA' := aCons (aFrz a) t
section
variable {X : Cx} {e : Expr} {es : List Expr} {a : AE'} {t : AA'}
theorem aa_nil : AA X [] aNil := ⟨_, pa_nil, fun Y H σ env R Q rep h k => k [] H env [] rep Adv.refl .nil h⟩
theorem aa_cons (h1 : AE X e a) (h2 : AA X es t) (hs : starEach (e :: es) X.env = (false, eval e X.env) :: starEach es X.env := by rfl) : AA X (e :: es) (aCons a t) := by
  obtain ⟨u, p, s⟩ := h1
  obtain ⟨u2, p2, s2⟩ := h2
  refine ⟨_, pa_cons p p2 hs, fun Y H σ env R Q rep h k => ?_⟩
  refine s Y H σ env _ _ rep h fun v H' env' r Y' rep' g ok q => ?_
  obtain ⟨q1, q⟩ := q
  have ey : Y' = Y := by
    match r, ok, q1 with
    | .dat _, ok, _ => exact ok.1
    | .at _, ok, _ => exact ok.1
  subst ey
  refine s2 Y' H' σ env' _ _ rep' q fun vs H2 env2 rs rep2 g2 ok2 q2 => ?_
  exact k _ H2 env2 _ rep2 (g.trans g2) (.cons (ok.on g2) ok2) q2
theorem aa_consD (h1 : AE X e a) (h2 : AA X es t) (hs : starEach (e :: es) X.env = (false, eval e X.env) :: starEach es X.env := by rfl) : AA X (e :: es) (aConsD a t) := aa_cons h1.frz h2 hs
end

/-! ### operators by values -/
abbrev Op2 := D → D → (RV → Prop) → Prop
def OpS (K : Fg) (r : R2) (f : Op2) : Prop := ∀ (Y : Ad) (H : Hp) (σ : St) (env : AEnv) (x y : V) (d e : D) (F : RV → Prop) (Q : VK), Rep K Y H σ env → RC K H (Pw Y σ env) x d → RC K H (Pw Y σ env) y e → f d e F →
  (∀ v H' z Y', Rep K Y' H' σ env → Adv σ Y env H Y' env H' → ResOk K H' Y Y' σ env v z → F z → Q v H') → r x y H Q
def aOp (f : Op2) (a b : AE') : AE' := fun env R => a env fun r env1 => b env1 fun s env2 => match val env2 r, val env2 s with
  | some d, some e => f d e fun z => R z env2
  | _, _ => False
theorem snd_op {K : Fg} {r : R2} {f : Op2} {ta tb : TE} {a b : AE'} (o : OpS K r f) (ha : Snd K ta a) (hb : Snd K tb b) : Snd K (tOp r ta tb) (aOp f a b) := by
  intro Y H σ env R Q rep h k
  refine ha Y H σ env _ _ rep h fun v H1 env1 r1 Y1 rep1 g1 ok1 q1 => ?_
  refine hb Y1 H1 σ env1 _ _ rep1 q1 fun u H2 env2 r2 Y2 rep2 g2 ok2 q2 => ?_
  obtain ⟨d, e1, c1⟩ := ok1.later g2 rep2
  obtain ⟨e, e2, c2⟩ := ok2.rc rep2
  simp only [e1, e2] at q2
  have yu : ∀ a, Y a → Y2 a := fun a z => g2.yu a (g1.yu a z)
  refine o Y H2 σ env2 v u d e _ _ (rep2.less yu) (c1.less (pw_less yu)) (c2.less (pw_less yu)) q2 fun w H3 z Y3 rep3 g3 ok3 q3 => ?_
  exact k w H3 env2 z Y3 rep3 ((g1.trans g2).drop.trans g3) ok3 q3
theorem ae_op {X : Cx} {op : Operator} {r : R2} {f : Op2} {a b : Expr} {fa fb : AE'} {pos : Pos} (ho : OpR X (binaryOp op) r) (o : OpS X.K r f) (ha : AE X a fa) (hb : AE X b fb) : AE X (.BinOp a op b pos) (aOp f fa fb) := by
  obtain ⟨t, p, s⟩ := ha
  obtain ⟨t2, p2, s2⟩ := hb
  exact ⟨_, pe_op ho p p2, snd_op o s s2⟩
theorem ae_cmpR {X : Cx} {op : CmpOp} {r : R2} {f : Op2} {a b : Expr} {fa fb : AE'} {pos : Pos} (ho : OpR X (compareOp op) r) (o : OpS X.K r f) (ha : AE X a fa) (hb : AE X b fb) (hm : behindInMarks op b = false) : AE X (.Compare a [op] [b] pos) (aOp f fa fb) := by
  obtain ⟨t, p, s⟩ := ha
  obtain ⟨t2, p2, s2⟩ := hb
  exact ⟨_, pe_cmpR ho p p2 hm, snd_op o s s2⟩
end AL
namespace AL
open PySem L2
/-! AL3: operators. -/
section
variable {K : Fg} {σ : St} {Y Y' : Ad} {env : AEnv} {H H' : Hp}
theorem Rep.fresh (R : Rep K Y H σ env) {p : Addr} (n : H p = none) : ¬ Pw Y σ env p := fun z => by
  rcases z with z | ⟨i, d, e, w⟩
  · obtain ⟨o, q⟩ := R.yin p z
    rw [n] at q; cases q
  · obtain ⟨p', w', _, r⟩ := R.own i d e
    rw [w] at w'; cases w'
    obtain ⟨o, q, _⟩ := r.some
    rw [n] at q; cases q
theorem same_upd {p : Addr} {o : HO} (n : H p = none) : Same H (upd H p o) := upd_keep n
/-- what was data stays data in a heap that only grew -/
theorem RD.same {P : Ad} {v : V} {d : D} (h : RD K H P v d) (k : Same H H') : RD K H' P v d := h.go (P0 := fun _ => False) ⟨fun a o q _ => .inl (k a o q), fun a z => .inl z⟩ fun _ z => z.elim
theorem RDs.same {P : Ad} {v : List V} {d : List D} (h : RDs K H P v d) (k : Same H H') : RDs K H' P v d := h.go (P0 := fun _ => False) ⟨fun a o q _ => .inl (k a o q), fun a z => .inl z⟩ fun _ z => z.elim
abbrev Fin (K : Fg) (Y : Ad) (H : Hp) (σ : St) (env : AEnv) (F : RV → Prop) (Q : VK) : Prop := ∀ v H' z Y', Rep K Y' H' σ env → Adv σ Y env H Y' env H' → ResOk K H' Y Y' σ env v z → F z → Q v H'
variable {F : RV → Prop} {Q : VK}
theorem fin_dat {v : V} {d : D} (R : Rep K Y H σ env) (k : Fin K Y H σ env F Q) (r : RD K H (Pw Y σ env) v d) (f : F (.dat d)) : Q v H := k v H (.dat d) Y R Adv.refl ⟨rfl, r⟩ f
theorem Rep.same (R : Rep K Y H σ env) (k : Same H H') : Rep K Y H' σ env := R.grow (fun _ z => .inl z) k fun a z => let ⟨o, q⟩ := R.yin a z; ⟨o, k a o q⟩
theorem Adv.same (R : Rep K Y H σ env) (k : Same H H') : Adv σ Y env H Y env H' := Adv.grow R k (fun _ z => z) fun _ z => .inl z
theorem fin_tup {us : List V} {ds : List D} {p : Addr} (R : Rep K Y H σ env) (k : Fin K Y H σ env F Q) (r : RDs K H (Pw Y σ env) us ds) (hl : ds.length ≤ sizeLine) (f : F (.dat (.tup ds))) (n : H p = none) : Q (.ref p) (upd H p (.tup us)) :=
  k _ _ (.dat (.tup ds)) Y (R.same (same_upd n)) (Adv.same R (same_upd n)) ⟨rfl, .tup (.inl ⟨.inl upd_same, R.fresh n, by rw [r.length]; exact hl⟩) (r.same (same_upd n))⟩ f
/-- a new owned thing -/
theorem fin_new {o : HO} {d : D} {p : Addr} (R : Rep K Y H σ env) (k : Fin K Y H σ env F Q) (n : H p = none) (r : RO K (upd H p o) (fun a => Pw Y σ env a ∨ a = p) p d) (f : F (.new d)) : Q (.ref p) (upd H p o) := by
  have nf := R.fresh n
  have pe : ∀ a, Pw (fun a => Y a ∨ a = p) σ env a → Pw Y σ env a ∨ a = p := fun a z => by
    rcases z with (z | z) | z
    · exact .inl (.inl z)
    · exact .inr z
    · exact .inl (.inr z)
  refine k _ _ (.new d) (fun a => Y a ∨ a = p) (R.grow (fun a z => z.imp id fun e => by rw [e]; exact n) (same_upd n) fun a z => ?_) (Adv.grow R (same_upd n) (fun _ z => .inl z) fun a z => z.imp id fun e => by rw [e]; exact n) ⟨p, rfl, rfl, nf, r.less pe⟩ f
  rcases z with z | z
  · obtain ⟨u, q⟩ := R.yin a z
    exact ⟨u, same_upd n a u q⟩
  · subst z
    exact ⟨o, upd_same⟩
theorem rds_new {us : List V} {ds : List D} {p : Addr} {o : HO} {P : Ad} (r : RDs K H P us ds) (n : H p = none) : RDs K (upd H p o) (fun a => P a ∨ a = p) us ds :=
  r.go (P0 := fun _ => False) ⟨fun a u q _ => .inl (same_upd n a u q), fun a z => z.imp id fun e => by rw [e]; exact n⟩ fun _ z => z.elim
theorem fin_lst {us : List V} {ds : List D} {p : Addr} (R : Rep K Y H σ env) (k : Fin K Y H σ env F Q) (r : RDs K H (Pw Y σ env) us ds) (hl : ds.length ≤ sizeLine) (f : F (.new (.lst ds))) (n : H p = none) : Q (.ref p) (upd H p (.lst us)) :=
  fin_new (d := .lst ds) R k n ⟨us, upd_same, rds_new r n, by rw [r.length]; exact hl⟩ f
/-! what a read thing is -/
theorem RC.int {P : Ad} {v : V} {i : Int} (h : RC K H P v (.int i)) : v = .int i := by
  rcases h with h | ⟨p, _, h⟩
  · cases h; rfl
  · exact h.elim
theorem RC.bl {P : Ad} {v : V} {i : Bool} (h : RC K H P v (.bl i)) : v = .bl i := by
  rcases h with h | ⟨p, _, h⟩
  · cases h; rfl
  · exact h.elim
theorem RC.str {P : Ad} {v : V} {i : Str} (h : RC K H P v (.str i)) : v = .str i := by
  rcases h with h | ⟨p, _, h⟩
  · cases h; rfl
  · exact h.elim
theorem RC.non {P : Ad} {v : V} (h : RC K H P v .non) : v = .non := by
  rcases h with h | ⟨p, _, h⟩
  · cases h; rfl
  · exact h.elim
theorem RC.lst {P : Ad} {v : V} {ds : List D} (h : RC K H P v (.lst ds)) : ∃ p us, v = .ref p ∧ H p = some (.lst us) ∧ RDs K H P us ds ∧ ds.length ≤ sizeLine := by
  rcases h with h | ⟨p, e, h⟩
  · cases h with
    | lst s r => exact ⟨_, _, rfl, s.1, r, by rw [← r.length]; exact s.2.2⟩
  · obtain ⟨us, q, r, l⟩ := h
    exact ⟨p, us, e, q, r, by rw [← r.length]; exact l⟩
theorem RC.tup {P : Ad} {v : V} {ds : List D} (h : RC K H P v (.tup ds)) : ∃ p us, v = .ref p ∧ SqT K H p us ∧ RDs K H P us ds ∧ RD K H P v (.tup ds) ∧ ds.length ≤ sizeLine := by
  rcases h with h | ⟨p, e, h⟩
  · have h' := h
    cases h with
    | tup s r => exact ⟨_, _, rfl, s.sq, r, h', by rw [← r.length]; exact s.len⟩
  · exact h.elim
theorem RC.scr {P : Ad} {v : V} {ds : List D} (h : RC K H P v (.scr ds)) : ∃ p us, v = .ref p ∧ SqL K H p us ∧ RDs K H P us ds ∧ ds.length ≤ sizeLine := by
  rcases h with h | ⟨p, e, h⟩
  · cases h with
    | scr s r => exact ⟨_, _, rfl, s.sq, r, by rw [← r.length]; exact s.1⟩
  · exact h.elim
theorem RC.nonOf {P : Ad} {d : D} (h : RC K H P .non d) : d = .non := by
  rcases h with h | ⟨p, e, h⟩
  · cases h; rfl
  · cases e
def isNonD : D → Bool
  | .non => true
  | _ => false
theorem RC.isNon {P : Ad} {v : V} {d : D} (h : RC K H P v d) : decide (v = .non) = isNonD d := by
  rcases h with h | ⟨p, e, h⟩
  · cases h <;> simp [isNonD]
  · subst e
    cases d <;> first | exact h.elim | simp [isNonD]
end

def fAdd : Op2 := fun d e F => match d, e with
  | .int i, .int j => F (.dat (.int (i + j)))
  | .str x, .str y => x.length + y.length ≤ sizeLine ∧ F (.dat (.str (x ++ y)))
  | .tup a, .tup b => a.length + b.length ≤ sizeLine ∧ F (.dat (.tup (a ++ b)))
  | .lst a, .lst b => a.length + b.length ≤ sizeLine ∧ F (.new (.lst (a ++ b)))
  | _, _ => False
def rStrAdd : R2 := fun x y H Q => ∃ i j, x = .str i ∧ y = .str j ∧ i.length + j.length ≤ sizeLine ∧ Q (.str (i ++ j)) H
abbrev rAdd4 (K : Fg) : R2 := fun x y H Q => rI0 (fun i j => .int (i + j)) x y H Q ∨ (rStrAdd x y H Q ∨ (rCatA K x y H Q ∨ rCat x y H Q))
theorem or_add {X : Cx} : OpR X (binaryOp .Add) (rAdd4 X.K) := OpR.or op_add (OpR.or op_add_str (OpR.or op_catA op_cat))
theorem os_add (K : Fg) : OpS K (rAdd4 K) fAdd := by
  intro Y H σ env x y d e F Q R cx cy f k
  match d, e, f with
  | .int i, .int j, f => exact .inl ⟨i, j, cx.int, cy.int, fin_dat R k (.int _) f⟩
  | .str i, .str j, f => exact .inr (.inl ⟨i, j, cx.str, cy.str, f.1, fin_dat R k (.str _) f.2⟩)
  | .tup a, .tup b, f =>
    obtain ⟨p, us, e1, s1, r1, d1, _⟩ := cx.tup
    obtain ⟨q, vs, e2, s2, r2, d2, _⟩ := cy.tup
    refine .inr (.inr (.inl ⟨p, q, us, vs, e1, e2, s1, s2, by rw [r1.length, r2.length]; exact f.1, fun z => ?_, fun _ z => ?_, fun _ _ l n => fin_tup R k (r1.append r2) (by rw [List.length_append]; exact f.1) f.2 n⟩))
    · subst z
      cases r1
      subst e2
      exact fin_dat R k d2 f.2
    · subst z
      cases r2
      subst e1
      have := f.2
      rw [List.append_nil] at this
      exact fin_dat R k d1 this
  | .lst a, .lst b, f =>
    obtain ⟨p, us, e1, s1, r1, _⟩ := cx.lst
    obtain ⟨q, vs, e2, s2, r2, _⟩ := cy.lst
    exact .inr (.inr (.inr ⟨p, q, us, vs, e1, e2, s1, s2, by rw [r1.length, r2.length]; exact f.1, fun l n => fin_lst R k (r1.append r2) (by rw [List.length_append]; exact f.1) f.2 n⟩))
/-- two ints, under C -/
def fII (C : Int → Int → Prop) (g : Int → Int → D) : Op2 := fun d e F => match d, e with
  | .int i, .int j => C i j ∧ F (.dat (g i j))
  | _, _ => False
theorem os_ii {K : Fg} {C : Int → Int → Prop} {g : Int → Int → Int} : OpS K (rI C fun i j => .int (g i j)) (fII C fun i j => .int (g i j)) := by
  intro Y H σ env x y d e F Q R cx cy f k
  match d, e, f with
  | .int i, .int j, f => exact ⟨i, j, cx.int, cy.int, f.1, fin_dat R k (.int _) f.2⟩
def fI0 (g : Int → Int → D) : Op2 := fun d e F => match d, e with
  | .int i, .int j => F (.dat (g i j))
  | _, _ => False
theorem os_i0 {K : Fg} {g : Int → Int → Int} : OpS K (rI0 fun i j => .int (g i j)) (fI0 fun i j => .int (g i j)) := by
  intro Y H σ env x y d e F Q R cx cy f k
  match d, e, f with
  | .int i, .int j, f => exact ⟨i, j, cx.int, cy.int, fin_dat R k (.int _) f⟩
theorem os_b0 {K : Fg} {g : Int → Int → Bool} : OpS K (rI0 fun i j => .bl (g i j)) (fI0 fun i j => .bl (g i j)) := by
  intro Y H σ env x y d e F Q R cx cy f k
  match d, e, f with
  | .int i, .int j, f => exact ⟨i, j, cx.int, cy.int, fin_dat R k (.bl _) f⟩

/-! ### data as PyData, equality -/
mutual
def D.pd : D → PyData
  | .non => .none
  | .bl b => .bool b
  | .int i => .int i
  | .str x => .str x
  | .tup l => .tuple (pds l)
  | .lst l => .list (pds l)
  | .dic _ _ => .dict []
  | .dit _ _ => .dict []
  | .obj _ _ _ => .dict []
  | .scr _ => .dict []
def pds : List D → List PyData
  | [] => []
  | d :: ds => d.pd :: pds ds
end
mutual
theorem RD.dp {K : Fg} {H : Hp} {P : Ad} : ∀ {v : V} {d : D}, RD K H P v d → PyData.canLay0 d.pd = true → Dp K H v d.pd
  | _, _, .non, _ => by simp only [D.pd]; exact .non
  | _, _, .bl b, _ => by simp only [D.pd]; exact .bl b
  | _, _, .int i, _ => by simp only [D.pd]; exact .int i
  | _, _, .str x, _ => by simp only [D.pd]; exact .str x
  | _, _, .tup s r, c => by
    simp only [D.pd] at c ⊢
    exact .tup s.sq (r.dp (by simpa only [PyData.canLay0] using c))
  | _, _, .lst s r, c => by
    simp only [D.pd] at c ⊢
    exact .lst s.sq (r.dp (by simpa only [PyData.canLay0] using c))
  | _, _, .dK _ _ _ _, c => by simp [D.pd, PyData.canLay0] at c
  | _, _, .dT _ _ _ _, c => by simp [D.pd, PyData.canLay0] at c
  | _, _, .obj _ _ _ _, c => by simp [D.pd, PyData.canLay0] at c
  | _, _, .scr _ _, c => by simp [D.pd, PyData.canLay0] at c
theorem RDs.dp {K : Fg} {H : Hp} {P : Ad} : ∀ {v : List V} {d : List D}, RDs K H P v d → PyData.canLayAll0 (pds d) = true → DpAll K H v (pds d)
  | _, _, .nil, _ => by simp only [pds]; exact .nil
  | _, _, .cons h r, c => by
    simp only [pds, PyData.canLayAll0, Bool.and_eq_true] at c ⊢
    exact .cons (h.dp c.1) (r.dp c.2)
end
/-- data that == looks at: depth, texts -/
def D.sh (d : D) : Prop := SeqAt.shaped d.pd = true
theorem RC.dp {K : Fg} {H : Hp} {P : Ad} {v : V} {d : D} (h : RC K H P v d) (s : d.sh) : Dp K H v d.pd := h.rd.dp (SeqAt.canLay_of_shaped s)
@[irreducible] def fEq : Op2 := fun d e F => d.sh ∧ e.sh ∧ F (.dat (.bl (PyData.eqv d.pd e.pd)))
@[irreducible] def fNe : Op2 := fun d e F => d.sh ∧ e.sh ∧ F (.dat (.bl (!PyData.eqv d.pd e.pd)))
theorem os_eq (K : Fg) : OpS K (rEqD K) fEq := fun Y H σ env x y d e F Q R cx cy f k => by
  unfold fEq at f
  exact ⟨d.pd, e.pd, cx.dp f.1, cy.dp f.2.1, f.1, f.2.1, fin_dat R k (.bl _) f.2.2⟩
theorem os_ne (K : Fg) : OpS K (rNeD K) fNe := fun Y H σ env x y d e F Q R cx cy f k => by
  unfold fNe at f
  exact ⟨d.pd, e.pd, cx.dp f.1, cy.dp f.2.1, f.1, f.2.1, fin_dat R k (.bl _) f.2.2⟩
def fIsN : Op2 := fun d e F => match e with
  | .non => F (.dat (.bl (isNonD d)))
  | _ => False
def fNotN : Op2 := fun d e F => match e with
  | .non => F (.dat (.bl (!isNonD d)))
  | _ => False
theorem os_isN (K : Fg) : OpS K (fun x y H Q => y = .non ∧ Q (.bl (decide (x = .non))) H) fIsN := by
  intro Y H σ env x y d e F Q R cx cy f k
  match e, f with
  | .non, f => exact ⟨cy.non, by rw [cx.isNon]; exact fin_dat R k (.bl _) f⟩
theorem os_notN (K : Fg) : OpS K (fun x y H Q => y = .non ∧ Q (.bl (!decide (x = .non))) H) fNotN := by
  intro Y H σ env x y d e F Q R cx cy f k
  match e, f with
  | .non, f => exact ⟨cy.non, by rw [cx.isNon]; exact fin_dat R k (.bl _) f⟩
end AL
namespace AL
open PySem L2 PyProof.Rows
/-! AL4: equality of data, membership, subscripts, slices, dicts that are read. -/
mutual
def decD : (a b : D) → Decidable (a = b)
  | .non, .non => .isTrue rfl
  | .non, .bl _ => .isFalse (fun h => by cases h)
  | .non, .int _ => .isFalse (fun h => by cases h)
  | .non, .str _ => .isFalse (fun h => by cases h)
  | .non, .tup _ => .isFalse (fun h => by cases h)
  | .non, .lst _ => .isFalse (fun h => by cases h)
  | .non, .dic _ _ => .isFalse (fun h => by cases h)
  | .non, .dit _ _ => .isFalse (fun h => by cases h)
  | .non, .obj _ _ _ => .isFalse (fun h => by cases h)
  | .non, .scr _ => .isFalse (fun h => by cases h)
  | .bl _, .non => .isFalse (fun h => by cases h)
  | .bl a, .bl b => if h : a = b then .isTrue (h ▸ rfl) else .isFalse (fun e => by cases e; exact h rfl)
  | .bl _, .int _ => .isFalse (fun h => by cases h)
  | .bl _, .str _ => .isFalse (fun h => by cases h)
  | .bl _, .tup _ => .isFalse (fun h => by cases h)
  | .bl _, .lst _ => .isFalse (fun h => by cases h)
  | .bl _, .dic _ _ => .isFalse (fun h => by cases h)
  | .bl _, .dit _ _ => .isFalse (fun h => by cases h)
  | .bl _, .obj _ _ _ => .isFalse (fun h => by cases h)
  | .bl _, .scr _ => .isFalse (fun h => by cases h)
  | .int _, .non => .isFalse (fun h => by cases h)
  | .int _, .bl _ => .isFalse (fun h => by cases h)
  | .int a, .int b => if h : a = b then .isTrue (h ▸ rfl) else .isFalse (fun e => by cases e; exact h rfl)
  | .int _, .str _ => .isFalse (fun h => by cases h)
  | .int _, .tup _ => .isFalse (fun h => by cases h)
  | .int _, .lst _ => .isFalse (fun h => by cases h)
  | .int _, .dic _ _ => .isFalse (fun h => by cases h)
  | .int _, .dit _ _ => .isFalse (fun h => by cases h)
  | .int _, .obj _ _ _ => .isFalse (fun h => by cases h)
  | .int _, .scr _ => .isFalse (fun h => by cases h)
  | .str _, .non => .isFalse (fun h => by cases h)
  | .str _, .bl _ => .isFalse (fun h => by cases h)
  | .str _, .int _ => .isFalse (fun h => by cases h)
  | .str a, .str b => if h : a = b then .isTrue (h ▸ rfl) else .isFalse (fun e => by cases e; exact h rfl)
  | .str _, .tup _ => .isFalse (fun h => by cases h)
  | .str _, .lst _ => .isFalse (fun h => by cases h)
  | .str _, .dic _ _ => .isFalse (fun h => by cases h)
  | .str _, .dit _ _ => .isFalse (fun h => by cases h)
  | .str _, .obj _ _ _ => .isFalse (fun h => by cases h)
  | .str _, .scr _ => .isFalse (fun h => by cases h)
  | .tup _, .non => .isFalse (fun h => by cases h)
  | .tup _, .bl _ => .isFalse (fun h => by cases h)
  | .tup _, .int _ => .isFalse (fun h => by cases h)
  | .tup _, .str _ => .isFalse (fun h => by cases h)
  | .tup a, .tup b => match decDs a b with
    | .isTrue h => .isTrue (h ▸ rfl)
    | .isFalse h => .isFalse (fun e => by cases e; exact h rfl)
  | .tup _, .lst _ => .isFalse (fun h => by cases h)
  | .tup _, .dic _ _ => .isFalse (fun h => by cases h)
  | .tup _, .dit _ _ => .isFalse (fun h => by cases h)
  | .tup _, .obj _ _ _ => .isFalse (fun h => by cases h)
  | .tup _, .scr _ => .isFalse (fun h => by cases h)
  | .lst _, .non => .isFalse (fun h => by cases h)
  | .lst _, .bl _ => .isFalse (fun h => by cases h)
  | .lst _, .int _ => .isFalse (fun h => by cases h)
  | .lst _, .str _ => .isFalse (fun h => by cases h)
  | .lst _, .tup _ => .isFalse (fun h => by cases h)
  | .lst a, .lst b => match decDs a b with
    | .isTrue h => .isTrue (h ▸ rfl)
    | .isFalse h => .isFalse (fun e => by cases e; exact h rfl)
  | .lst _, .dic _ _ => .isFalse (fun h => by cases h)
  | .lst _, .dit _ _ => .isFalse (fun h => by cases h)
  | .lst _, .obj _ _ _ => .isFalse (fun h => by cases h)
  | .lst _, .scr _ => .isFalse (fun h => by cases h)
  | .dic _ _, .non => .isFalse (fun h => by cases h)
  | .dic _ _, .bl _ => .isFalse (fun h => by cases h)
  | .dic _ _, .int _ => .isFalse (fun h => by cases h)
  | .dic _ _, .str _ => .isFalse (fun h => by cases h)
  | .dic _ _, .tup _ => .isFalse (fun h => by cases h)
  | .dic _ _, .lst _ => .isFalse (fun h => by cases h)
  | .dic a c, .dic b d => match decDs a b, decDs c d with
    | .isTrue h, .isTrue k => .isTrue (h ▸ k ▸ rfl)
    | .isFalse h, _ => .isFalse (fun e => by cases e; exact h rfl)
    | _, .isFalse h => .isFalse (fun e => by cases e; exact h rfl)
  | .dic _ _, .dit _ _ => .isFalse (fun h => by cases h)
  | .dic _ _, .obj _ _ _ => .isFalse (fun h => by cases h)
  | .dic _ _, .scr _ => .isFalse (fun h => by cases h)
  | .dit _ _, .non => .isFalse (fun h => by cases h)
  | .dit _ _, .bl _ => .isFalse (fun h => by cases h)
  | .dit _ _, .int _ => .isFalse (fun h => by cases h)
  | .dit _ _, .str _ => .isFalse (fun h => by cases h)
  | .dit _ _, .tup _ => .isFalse (fun h => by cases h)
  | .dit _ _, .lst _ => .isFalse (fun h => by cases h)
  | .dit _ _, .dic _ _ => .isFalse (fun h => by cases h)
  | .dit a c, .dit b d => match decDs a b, decDs c d with
    | .isTrue h, .isTrue k => .isTrue (h ▸ k ▸ rfl)
    | .isFalse h, _ => .isFalse (fun e => by cases e; exact h rfl)
    | _, .isFalse h => .isFalse (fun e => by cases e; exact h rfl)
  | .dit _ _, .obj _ _ _ => .isFalse (fun h => by cases h)
  | .dit _ _, .scr _ => .isFalse (fun h => by cases h)
  | .obj _ _ _, .non => .isFalse (fun h => by cases h)
  | .obj _ _ _, .bl _ => .isFalse (fun h => by cases h)
  | .obj _ _ _, .int _ => .isFalse (fun h => by cases h)
  | .obj _ _ _, .str _ => .isFalse (fun h => by cases h)
  | .obj _ _ _, .tup _ => .isFalse (fun h => by cases h)
  | .obj _ _ _, .lst _ => .isFalse (fun h => by cases h)
  | .obj _ _ _, .dic _ _ => .isFalse (fun h => by cases h)
  | .obj _ _ _, .dit _ _ => .isFalse (fun h => by cases h)
  | .obj A a c, .obj B b d => if hA : A = B then if ha : a = b then match decDs c d with
    | .isTrue h => .isTrue (hA ▸ ha ▸ h ▸ rfl)
    | .isFalse h => .isFalse (fun e => by cases e; exact h rfl)
    else .isFalse (fun e => by cases e; exact ha rfl) else .isFalse (fun e => by cases e; exact hA rfl)
  | .obj _ _ _, .scr _ => .isFalse (fun h => by cases h)
  | .scr _, .non => .isFalse (fun h => by cases h)
  | .scr _, .bl _ => .isFalse (fun h => by cases h)
  | .scr _, .int _ => .isFalse (fun h => by cases h)
  | .scr _, .str _ => .isFalse (fun h => by cases h)
  | .scr _, .tup _ => .isFalse (fun h => by cases h)
  | .scr _, .lst _ => .isFalse (fun h => by cases h)
  | .scr _, .dic _ _ => .isFalse (fun h => by cases h)
  | .scr _, .dit _ _ => .isFalse (fun h => by cases h)
  | .scr _, .obj _ _ _ => .isFalse (fun h => by cases h)
  | .scr a, .scr b => match decDs a b with
    | .isTrue h => .isTrue (h ▸ rfl)
    | .isFalse h => .isFalse (fun e => by cases e; exact h rfl)
def decDs : (a b : List D) → Decidable (a = b)
  | [], [] => .isTrue rfl
  | [], _ :: _ => .isFalse (fun h => by cases h)
  | _ :: _, [] => .isFalse (fun h => by cases h)
  | a :: as, b :: bs => match decD a b, decDs as bs with
    | .isTrue h, .isTrue k => .isTrue (h ▸ k ▸ rfl)
    | .isFalse h, _ => .isFalse (fun e => by cases e; exact h rfl)
    | _, .isFalse h => .isFalse (fun e => by cases e; exact h rfl)
end
instance : DecidableEq D := decD

/-! ### dicts as data -/
def dGet : List D → List D → D → Option D
  | k' :: ks, v :: vs, k => if k' = k then some v else dGet ks vs k
  | _, _, _ => none
def dPutV : List D → List D → D → D → List D
  | k' :: ks, v' :: vs, k, v => (if k' = k then v else v') :: dPutV ks vs k v
  | _, vs, _, _ => vs
/-- the keys and values behind d[k] = v -/
def dPutK (ks : List D) (k : D) : List D := if k ∈ ks then ks else ks ++ [k]
def dPutW (ks vs : List D) (k v : D) : List D := if k ∈ ks then dPutV ks vs k v else vs ++ [v]
def dDropV : List D → List D → D → List D
  | k' :: ks, v' :: vs, k => if k' = k then dDropV ks vs k else v' :: dDropV ks vs k
  | _, _, _ => []
theorem kD_inj : ∀ {a b : Key}, kD a = kD b → a = b
  | .inl _, .inl _, h => by injection h with h; rw [h]
  | .inr _, .inr _, h => by injection h with h; rw [h]
  | .inl _, .inr _, h => by cases h
  | .inr _, .inl _, h => by cases h
theorem map_kD_inj : ∀ {a b : List Key}, a.map kD = b.map kD → a = b
  | [], [], _ => rfl
  | [], _ :: _, h => by cases h
  | _ :: _, [], h => by cases h
  | x :: a, y :: b, h => by
    rw [List.map_cons, List.map_cons] at h
    injection h with h1 h2
    rw [kD_inj h1, map_kD_inj h2]
section
variable {K : Fg} {H : Hp} {P : Ad} {κ : Type} [DecidableEq κ]
/-- look-up, by any keys that are data by an injection -/
theorem get_val {g : κ → D} (hg : ∀ {a b}, g a = g b → a = b) (k : κ) : ∀ {kvs : List (κ × V)} {vs : List D}, RDs K H P (kvs.map (·.2)) vs →
    (∃ d v, dGet (kvs.map fun kv => g kv.1) vs (g k) = some d ∧ valV kvs k = some v ∧ RD K H P v d) ∨ (dGet (kvs.map fun kv => g kv.1) vs (g k) = none ∧ valV kvs k = none)
  | [], _, .nil => .inr ⟨rfl, rfl⟩
  | (k', v') :: r, _, h => by
    cases h with
    | cons h1 h2 =>
      rename_i d ds
      by_cases e : k' = k
      · subst e
        exact .inl ⟨d, v', by simp [dGet], valV_pos rfl, h1⟩
      · have e' : ¬ g k' = g k := fun z => e (hg z)
        have ih := get_val hg k h2
        simp only [List.map_cons, dGet, if_neg e', valV_neg (p := (k', v')) (r := r) e]
        exact ih
theorem mem_key {g : κ → D} (hg : ∀ {a b}, g a = g b → a = b) (k : κ) (kvs : List (κ × V)) : g k ∈ (kvs.map fun kv => g kv.1) ↔ (kvs.any fun kv => decide (kv.1 = k)) = true := by
  rw [List.any_eq_true, List.mem_map]
  constructor
  · rintro ⟨p, hp, e⟩
    exact ⟨p, hp, by simp [hg e]⟩
  · rintro ⟨p, hp, e⟩
    exact ⟨p, hp, by rw [of_decide_eq_true e]⟩
theorem put_map {g : κ → D} (hg : ∀ {a b}, g a = g b → a = b) {k : κ} {v : V} {d : D} (hv : RD K H P v d) : ∀ {kvs : List (κ × V)} {vs : List D}, RDs K H P (kvs.map (·.2)) vs →
    RDs K H P ((kvs.map (fun kv => if kv.1 = k then (kv.1, v) else kv)).map (·.2)) (dPutV (kvs.map fun kv => g kv.1) vs (g k) d)
  | [], _, .nil => .nil
  | (k', v') :: r, _, h => by
    cases h with
    | cons h1 h2 =>
      have ih := put_map hg (k := k) hv h2
      by_cases e : k' = k
      · subst e
        simp only [List.map_cons, dPutV, if_true]
        exact .cons hv ih
      · have e' : ¬ g k' = g k := fun z => e (hg z)
        simp only [List.map_cons, dPutV, if_neg e, if_neg e']
        exact .cons h1 ih
theorem put_keys {g : κ → D} (k : κ) (v : V) (kvs : List (κ × V)) : (kvs.map (fun kv => if kv.1 = k then (kv.1, v) else kv)).map (fun kv => g kv.1) = kvs.map fun kv => g kv.1 := by
  rw [List.map_map]
  apply List.map_congr_left
  intro p _
  show g (if p.1 = k then (p.1, v) else p).1 = g p.1
  split <;> rfl
end
/-- a dict that is read -/
theorem RC.dic {K : Fg} {H : Hp} {P : Ad} {v : V} {ks vs : List D} (h : RC K H P v (.dic ks vs)) : ∃ p, v = .ref p ∧ ∃ kvs, Rd H p (.dK kvs) ∧ ks = (kvs.map fun kv => kD kv.1) ∧ RDs K H P (kvs.map (·.2)) vs := by
  rcases h with h | ⟨p, e, h⟩
  · cases h with
    | dK s n e r => exact ⟨_, rfl, _, s, e, r⟩
  · obtain ⟨kvs, q, r⟩ := h
    exact ⟨p, e, kvs, .inl q, r⟩
theorem RC.dit {K : Fg} {H : Hp} {P : Ad} {v : V} {ks vs : List D} (h : RC K H P v (.dit ks vs)) : ∃ p, v = .ref p ∧ ∃ kvs, Rd H p (.dT kvs) ∧ ks = (kvs.map fun kv => D.tup (kv.1.map kD)) ∧ RDs K H P (kvs.map (·.2)) vs := by
  rcases h with h | ⟨p, e, h⟩
  · cases h with
    | dT s n e r => exact ⟨_, rfl, _, s, e, r⟩
  · obtain ⟨kvs, q, r⟩ := h
    exact ⟨p, e, kvs, .inl q, r⟩
/-- a key as data: an int, a text; a tuple of such -/
def isKey : D → Bool
  | .int _ => true
  | .str _ => true
  | _ => false
def isKeyT : D → Bool
  | .tup l => l.all isKey
  | _ => false
theorem isKey_of : ∀ {d : D}, isKey d = true → ∃ k : Key, d = kD k
  | .int i, _ => ⟨.inl i, rfl⟩
  | .str x, _ => ⟨.inr x, rfl⟩
  | .non, h => by cases h
  | .bl _, h => by cases h
  | .tup _, h => by cases h
  | .lst _, h => by cases h
  | .dic _ _, h => by cases h
  | .dit _ _, h => by cases h
  | .obj _ _ _, h => by cases h
  | .scr _, h => by cases h
theorem keys_of : ∀ {l : List D}, l.all isKey = true → ∃ ks : List Key, l = ks.map kD
  | [], _ => ⟨[], rfl⟩
  | d :: l, h => by
    rw [List.all_cons, Bool.and_eq_true] at h
    obtain ⟨k, rfl⟩ := isKey_of h.1
    obtain ⟨ks, rfl⟩ := keys_of h.2
    exact ⟨k :: ks, rfl⟩
section
variable {K : Fg} {H : Hp} {P : Ad}
theorem RC.key {v : V} {k : Key} (h : RC K H P v (kD k)) : v = kV k := by
  cases k with
  | inl i => exact RC.int h
  | inr x => exact RC.str h
theorem RDs.keys : ∀ {us : List V} {ks : List Key}, RDs K H P us (ks.map kD) → us = ks.map kV
  | _, [], .nil => rfl
  | _, k :: ks, .cons r t => by
    rw [RDs.keys t, RC.key (.inl r)]
    rfl
theorem RC.tupKey {v : V} {ks : List Key} (h : RC K H P v (.tup (ks.map kD))) : ∃ b, v = .ref b ∧ SqT K H b (ks.map kV) := by
  obtain ⟨p, us, e, s, r, _, _⟩ := h.tup
  rw [r.keys] at s
  exact ⟨p, e, s⟩
end
end AL
namespace AL
open PySem L2
/-! AL5: membership, subscripts, slices, tests, bool operators, conditional expressions. -/
def rInT (K : Fg) (neg : Bool) : R2 := fun x y H Q => ∃ d ds, Dp K H x d ∧ Dp K H y (.tuple ds) ∧ SeqAt.shaped d = true ∧ SeqAt.shaped (.tuple ds) = true ∧ Q (.bl (if neg then !ds.any fun z => PyData.eqv z d else ds.any fun z => PyData.eqv z d)) H
def rInDc (neg : Bool) : R2 := fun x y H Q => ∃ a ov, y = .ref a ∧ DGet H a x ov ∧ Q (.bl (if neg then !ov.isSome else ov.isSome)) H
section
variable {X : Cx}
theorem op_inT (hu : X.A.units + 65 < cLine) : OpR X (compareOp .In) (rInT X.K false) := by
  intro pins s σ H x y v u Q I rx ry h
  obtain ⟨d, ds, hd, he, sd, se, q⟩ := h
  obtain ⟨as, r1⟩ := Dp.reads I d x v hd rx
  obtain ⟨bs, r2⟩ := Dp.reads I (.tuple ds) y u he ry
  exact SeqAt.in_tuple_reads r2 r1 (SeqAt.canLay_of_shaped se) (SeqAt.canLay_of_shaped sd) (PyProof.Rows.room_in_shaped sd hu) ⟨.bl _, H, I, rfl, q⟩
theorem op_notInT (hu : X.A.units + 65 < cLine) : OpR X (compareOp .NotIn) (rInT X.K true) := by
  intro pins s σ H x y v u Q I rx ry h
  obtain ⟨d, ds, hd, he, sd, se, q⟩ := h
  obtain ⟨as, r1⟩ := Dp.reads I d x v hd rx
  obtain ⟨bs, r2⟩ := Dp.reads I (.tuple ds) y u he ry
  exact SeqAt.notIn_tuple_reads r2 r1 (SeqAt.canLay_of_shaped se) (SeqAt.canLay_of_shaped sd) (PyProof.Rows.room_in_shaped sd hu) ⟨.bl _, H, I, rfl, q⟩
theorem op_inDc (hu : X.A.units + 1 < cLine) : OpR X (compareOp .In) (rInDc false) := by
  intro pins s σ H x y v u Q I rx ry h
  obtain ⟨a, ov, rfl, g, q⟩ := h
  obtain rfl : u = Value.ref a := ry
  exact d_in hu I g rx fun s3 I3 => ⟨.bl ov.isSome, H, I3, rfl, q⟩
theorem op_notInDc (hu : X.A.units + 1 < cLine) : OpR X (compareOp .NotIn) (rInDc true) := by
  intro pins s σ H x y v u Q I rx ry h
  obtain ⟨a, ov, rfl, g, q⟩ := h
  obtain rfl : u = Value.ref a := ry
  exact d_notIn hu I g rx fun s3 I3 => ⟨.bl (!ov.isSome), H, I3, rfl, q⟩
theorem ix_dict (hu : X.A.units + 1 < cLine) : IxR X (fun x y H Q => ∃ a v, x = .ref a ∧ DGet H a y (some v) ∧ Q v H) := by
  intro value slice pins s σ H x y v u Q I rx ry h hs
  obtain ⟨a, r, rfl, g, q⟩ := h
  obtain rfl : v = Value.ref a := rx
  exact PyProof.Rows.tail_any (dict_typeIs I g) PySem.F.slot_dict_getitem.lookup (d_getItem hu I g ry fun w' s3 I3 rw' => ⟨r, H, I3, rw', q⟩) hs
end
abbrev rIn4 (K : Fg) : R2 := fun x y H Q => rInD K x y H Q ∨ (rInT K false x y H Q ∨ (rInDc false x y H Q ∨ rInS x y H Q))
abbrev rNotIn4 (K : Fg) : R2 := fun x y H Q => rNotInD K x y H Q ∨ (rInT K true x y H Q ∨ (rInDc true x y H Q ∨ rNotInS x y H Q))
theorem or_in {X : Cx} {k : Nat} (hr : Room k X.A) : OpR X (compareOp .In) (rIn4 X.K) := OpR.or (op_inD (by have := hr.un; omega)) (OpR.or (op_inT (by have := hr.un; omega)) (OpR.or (op_inDc (by have := hr.un; omega)) op_inS))
theorem or_notIn {X : Cx} {k : Nat} (hr : Room k X.A) : OpR X (compareOp .NotIn) (rNotIn4 X.K) := OpR.or (op_notInD (by have := hr.un; omega)) (OpR.or (op_notInT (by have := hr.un; omega)) (OpR.or (op_notInDc (by have := hr.un; omega)) op_notInS))
/-- membership, and its not -/
@[irreducible] def fIn (neg : Bool) : Op2 := fun d e F => match e with
  | .lst l => d.sh ∧ (D.lst l).sh ∧ F (.dat (.bl (if neg then !(pds l).any fun z => PyData.eqv z d.pd else (pds l).any fun z => PyData.eqv z d.pd)))
  | .tup l => d.sh ∧ (D.tup l).sh ∧ F (.dat (.bl (if neg then !(pds l).any fun z => PyData.eqv z d.pd else (pds l).any fun z => PyData.eqv z d.pd)))
  | .dic ks _ => isKey d = true ∧ F (.dat (.bl (if neg then !decide (d ∈ ks) else decide (d ∈ ks))))
  | .str z => ∃ c, d = .str ⟨#[c]⟩ ∧ F (.dat (.bl (if neg then !decide (c ∈ z.cps.toList) else decide (c ∈ z.cps.toList))))
  | _ => False
theorem dic_get {K : Fg} {H : Hp} {P : Ad} {v : V} {ks vs : List D} {k : Key} {y : V} (h : RC K H P v (.dic ks vs)) (hy : RC K H P y (kD k)) :
    ∃ p ov, v = .ref p ∧ DGet H p y ov ∧ IsD H p ∧ (ov.isSome = decide (kD k ∈ ks)) ∧ (∀ d, dGet ks vs (kD k) = some d → ∃ w, ov = some w ∧ RD K H P w d) ∧ (dGet ks vs (kD k) = none → ov = none) := by
  obtain ⟨p, e, kvs, hp, rfl, r⟩ := h.dic
  refine ⟨p, valV kvs k, e, .inl ⟨kvs, k, hp, hy.key, rfl⟩, .inl ⟨kvs, hp⟩, ?_, ?_⟩
  · rw [← valV_any k kvs, Bool.eq_iff_iff, decide_eq_true_iff, mem_key kD_inj k kvs]
  · rcases get_val kD_inj k r with ⟨d, w, e1, e2, r1⟩ | ⟨e1, e2⟩
    · refine ⟨fun d' q => ?_, fun q => ?_⟩
      · rw [e1] at q; cases q
        exact ⟨w, e2, r1⟩
      · rw [e1] at q; cases q
    · refine ⟨fun d' q => ?_, fun q => e2⟩
      rw [e1] at q; cases q
theorem os_in (K : Fg) : OpS K (rIn4 K) (fIn false) := by
  intro Y H σ env x y d e F Q R cx cy f k
  unfold fIn at f
  match e, f with
  | .lst l, f =>
    obtain ⟨s1, s2, f⟩ := f
    have hp := cy.dp s2
    simp only [D.sh, D.pd] at s2 hp
    exact .inl ⟨d.pd, pds l, cx.dp s1, hp, s1, s2, fin_dat R k (.bl _) f⟩
  | .tup l, f =>
    obtain ⟨s1, s2, f⟩ := f
    have hp := cy.dp s2
    simp only [D.sh, D.pd] at s2 hp
    exact .inr (.inl ⟨d.pd, pds l, cx.dp s1, hp, s1, s2, fin_dat R k (.bl _) f⟩)
  | .dic ks vs, f =>
    obtain ⟨s1, f⟩ := f
    obtain ⟨ky, rfl⟩ := isKey_of s1
    obtain ⟨p, ov, e1, g, _, e2, _⟩ := dic_get cy cx
    refine .inr (.inr (.inl ⟨p, ov, e1, g, ?_⟩))
    show Q (.bl ov.isSome) H
    rw [e2]
    exact fin_dat R k (.bl _) f
  | .str z, f =>
    obtain ⟨c, e1, f'⟩ := f
    subst e1
    exact .inr (.inr (.inr ⟨c, z, cx.str, cy.str, fin_dat R k (.bl _) f'⟩))
theorem os_notIn (K : Fg) : OpS K (rNotIn4 K) (fIn true) := by
  intro Y H σ env x y d e F Q R cx cy f k
  unfold fIn at f
  match e, f with
  | .lst l, f =>
    obtain ⟨s1, s2, f⟩ := f
    have hp := cy.dp s2
    simp only [D.sh, D.pd] at s2 hp
    exact .inl ⟨d.pd, pds l, cx.dp s1, hp, s1, s2, fin_dat R k (.bl _) f⟩
  | .tup l, f =>
    obtain ⟨s1, s2, f⟩ := f
    have hp := cy.dp s2
    simp only [D.sh, D.pd] at s2 hp
    exact .inr (.inl ⟨d.pd, pds l, cx.dp s1, hp, s1, s2, fin_dat R k (.bl _) f⟩)
  | .dic ks vs, f =>
    obtain ⟨s1, f⟩ := f
    obtain ⟨ky, rfl⟩ := isKey_of s1
    obtain ⟨p, ov, e1, g, _, e2, _⟩ := dic_get cy cx
    refine .inr (.inr (.inl ⟨p, ov, e1, g, ?_⟩))
    show Q (.bl (!ov.isSome)) H
    rw [e2]
    exact fin_dat R k (.bl _) f
  | .str z, f =>
    obtain ⟨c, e1, f'⟩ := f
    subst e1
    exact .inr (.inr (.inr ⟨c, z, cx.str, cy.str, fin_dat R k (.bl _) f'⟩))

/-! ### subscripts -/
theorem RDs.atI {K : Fg} {H : Hp} {P : Ad} {us : List V} {ds : List D} {i : Int} {d : D} (r : RDs K H P us ds) (e : atI ds i = some d) : ∃ v, atI us i = some v ∧ RD K H P v d := by
  unfold L2.atI at e ⊢
  rw [r.length]
  cases w : ixN ds.length i with
  | none => rw [w] at e; cases e
  | some j =>
    rw [w] at e
    exact r.get e
@[irreducible] def fIx : Op2 := fun d e F => match d, e with
  | .lst l, .int i => ∃ z, atI l i = some z ∧ F (.dat z)
  | .tup l, .int i => ∃ z, atI l i = some z ∧ F (.dat z)
  | .str z, .int i => z.length ≤ sizeLine ∧ ∃ c, atI z.cps.toList i = some c ∧ F (.dat (.str ⟨#[c]⟩))
  | .dic ks vs, k => isKey k = true ∧ ∃ z, dGet ks vs k = some z ∧ F (.dat z)
  | _, _ => False
abbrev rIx4 (K : Fg) : R2 := fun x y H Q => rIx K x y H Q ∨ ∃ a v, x = .ref a ∧ DGet H a y (some v) ∧ Q v H
theorem os_ix (K : Fg) : OpS K (rIx4 K) fIx := by
  intro Y H σ env x y d e F Q R cx cy f k
  unfold fIx at f
  match d, e, f with
  | .lst l, .int i, f =>
    obtain ⟨z, e1, f⟩ := f
    obtain ⟨p, us, e2, q, r, _⟩ := cx.lst
    obtain ⟨v, e3, r3⟩ := r.atI e1
    exact .inl (.inl ⟨p, us, i, v, e2, cy.int, .of q, e3, fin_dat R k r3 f⟩)
  | .tup l, .int i, f =>
    obtain ⟨z, e1, f⟩ := f
    obtain ⟨p, us, e2, q, r, _, _⟩ := cx.tup
    obtain ⟨v, e3, r3⟩ := r.atI e1
    exact .inl (.inr (.inl ⟨p, us, i, v, e2, cy.int, q, e3, fin_dat R k r3 f⟩))
  | .str z, .int i, f =>
    obtain ⟨h, c, e1, f⟩ := f
    exact .inl (.inr (.inr ⟨z, i, c, cx.str, cy.int, h, e1, fin_dat R k (.str _) f⟩))
  | .dic ks vs, key, f =>
    obtain ⟨s1, z, e1, f⟩ := f
    obtain ⟨ky, rfl⟩ := isKey_of s1
    obtain ⟨p, ov, e2, g, _, _, h3, _⟩ := dic_get cx cy
    obtain ⟨w, rfl, r⟩ := h3 z e1
    exact .inr ⟨p, w, e2, g, fin_dat R k r f⟩
theorem ae_ix {X : Cx} {j : Nat} {a b : Expr} {fa fb : AE'} {pos : Pos} (hr : Room j X.A) (ha : AE X a fa) (hb : AE X b fb) (hs : PlainIx b := by exact fun _ _ => rfl) : AE X (.Subscript a b pos) (aOp fIx fa fb) := by
  obtain ⟨t, p, s⟩ := ha
  obtain ⟨t2, p2, s2⟩ := hb
  exact ⟨_, pe_ix (IxR.or ix_seq (ix_dict (by have := hr.un; omega))) p p2 hs, snd_op (os_ix X.K) s s2⟩

/-! ### slices -/
def cutD (xs : List D) (lo hi : Option Int) : List D := (xs.drop (HT.sIx xs.length 0 lo)).take (HT.sIx xs.length xs.length hi - HT.sIx xs.length 0 lo)
theorem cutD_len (xs : List D) (lo hi : Option Int) : (cutD xs lo hi).length ≤ xs.length := by
  unfold cutD
  rw [List.length_take, List.length_drop]
  omega
theorem RDs.cut {K : Fg} {H : Hp} {P : Ad} {us : List V} {ds : List D} (r : RDs K H P us ds) (lo hi : Option Int) : RDs K H P (cutV us lo hi) (cutD ds lo hi) := by
  unfold cutV cutD
  rw [r.length]
  exact (r.drop _).take _
abbrev AO' := AEnv → (Option Int → AEnv → Prop) → Prop
def aoNone : AO' := fun env R => R none env
def aoSome (a : AE') : AO' := fun env R => a env fun r env1 => match val env1 r with
  | some (.int i) => R (some i) env1
  | _ => False
def SndO (K : Fg) (t : TO) (a : AO') : Prop := ∀ (Y : Ad) (H : Hp) (σ : St) (env : AEnv) (R : Option Int → AEnv → Prop) (Q : Option Int → Hp → Prop), Rep K Y H σ env → a env R →
  (∀ o H' env', Rep K Y H' σ env' → Adv σ Y env H Y env' H' → R o env' → Q o H') → t σ H Q
def AO (X : Cx) (e : Option Expr) (a : AO') : Prop := ∃ t, PO X e t ∧ SndO X.K t a
theorem ao_none {X : Cx} : AO X none aoNone := ⟨_, po_none, fun Y H σ env R Q rep a k => k none H env rep Adv.refl a⟩
theorem ao_some {X : Cx} {e : Expr} {a : AE'} (h : AE X e a) : AO X (some e) (aoSome a) := by
  obtain ⟨t, p, s⟩ := h
  refine ⟨_, po_some p, fun Y H σ env R Q rep a k => ?_⟩
  refine s Y H σ env _ _ rep a fun v H' env' r Y' rep' g ok q => ?_
  obtain ⟨d, e1, c⟩ := ok.rc rep'
  simp only [e1] at q
  match d, c, q with
  | .int i, c, q => exact ⟨i, c.int, k (some i) H' env' (rep'.less g.yu) g.drop q⟩
def fSl (d : D) (lo hi : Option Int) (F : RV → Prop) : Prop := match d with
  | .lst l => F (.new (.lst (cutD l lo hi)))
  | .scr l => F (.new (.lst (cutD l lo hi)))
  | .tup l => F (.dat (.tup (cutD l lo hi)))
  | .str z => z.length ≤ sizeLine ∧ F (.dat (.str (cutS z lo hi)))
  | _ => False
def aSl (a : AE') (lo hi : AO') : AE' := fun env R => a env fun r env1 => lo env1 fun l env2 => hi env2 fun h env3 => match val env3 r with
  | some d => fSl d l h fun z => R z env3
  | none => False
theorem cutV_all {us : List V} {lo hi : Option Int} (h : HT.sIx us.length 0 lo = 0 ∧ HT.sIx us.length us.length hi = us.length) : cutV us lo hi = us := by
  unfold cutV
  rw [h.1, h.2]
  simp
theorem ae_sl {X : Cx} {e : Expr} {lo hi : Option Expr} {a : AE'} {l h : AO'} {p2 pos : Pos} (he : AE X e a) (hl : AO X lo l) (hh : AO X hi h) : AE X (.Subscript e (.Slice lo hi none p2) pos) (aSl a l h) := by
  obtain ⟨t, p, s⟩ := he
  obtain ⟨t1, p1, s1⟩ := hl
  obtain ⟨t2, p3, s2⟩ := hh
  refine ⟨_, pe_slice (SlR.or sl_list (SlR.or sl_tupA sl_str)) p p1 p3, fun Y H σ env R Q rep q k => ?_⟩
  refine s Y H σ env _ _ rep q fun v H1 env1 r Y1 rep1 g1 ok1 q1 => ?_
  refine s1 Y1 H1 σ env1 _ _ rep1 q1 fun o2 H2 env2 rep2 g2 q2 => ?_
  refine s2 Y1 H2 σ env2 _ _ rep2 q2 fun o3 H3 env3 rep3 g3 q3 => ?_
  have g23 := g2.trans g3
  obtain ⟨d, e1, c⟩ := ok1.later g23 rep3
  simp only [e1] at q3
  have repY := rep3.less g1.yu
  have c' := c.less (pw_less g1.yu)
  have gg := (g1.trans g23).drop
  have k' : Fin X.K Y H3 σ env3 (fun z => R z env3) Q := fun w H4 z Y4 rep4 g4 ok4 q4 => k w H4 env3 z Y4 rep4 (gg.trans g4) ok4 q4
  match d, c', q3 with
  | .lst l, c, q =>
    obtain ⟨p, us, e2, hq, r, hl⟩ := c.lst
    exact .inl ⟨p, us, e2, .of hq, fun l n => fin_lst repY k' (r.cut _ _) (Nat.le_trans (cutD_len _ _ _) hl) q n⟩
  | .scr l, c, q =>
    obtain ⟨p, us, e2, hq, r, hl⟩ := c.scr
    exact .inl ⟨p, us, e2, hq, fun l n => fin_lst repY k' (r.cut _ _) (Nat.le_trans (cutD_len _ _ _) hl) q n⟩
  | .tup l, c, q =>
    obtain ⟨p, us, e2, hq, r, rd, hl⟩ := c.tup
    refine .inr (.inl ⟨p, us, e2, hq, fun z => ?_, fun _ l n => fin_tup repY k' (r.cut _ _) (Nat.le_trans (cutD_len _ _ _) hl) q n⟩)
    have e3 : cutD l o2 o3 = l := by
      unfold cutD
      rw [← r.length, z.1, z.2, r.length]
      simp
    simp only [fSl] at q
    rw [e3] at q
    subst e2
    exact fin_dat repY k' rd q
  | .str z, c, q => exact .inr (.inr ⟨z, c.str, q.1, fin_dat repY k' (.str _) q.2⟩)
end AL
namespace AL
open PySem L2
/-! AL6: tests, bool operators, conditional expressions, chains, displays. -/
section
variable {X : Cx} {a b c : Expr} {pos : Pos}
/-- a way taken by a truth -/
@[irreducible] def brP (b : Bool) (t e : Prop) : Prop := if b = true then t else e
@[simp] theorem brP_true {t e : Prop} : brP true t e = t := by unfold brP; simp
@[simp] theorem brP_false {t e : Prop} : brP false t e = e := by unfold brP; simp
theorem brI {b : Bool} {t e : Prop} (h1 : b = true → t) (h2 : b = false → e) : brP b t e := by
  cases b
  · rw [brP_false]; exact h2 rfl
  · rw [brP_true]; exact h1 rfl
/-- a value that is a bool, as a test -/
def aB (a : AE') : AT' := fun env R => a env fun r env1 => match val env1 r with
  | some (.bl b) => R b env1
  | _ => False
theorem snd_test {K : Fg} {t : TE} {a : AE'} (s : Snd K t a) : SndT K (fun σ H Q => t σ H fun x H1 => ∃ c, x = .bl c ∧ Q c H1) (aB a) := by
  intro Y H σ env R Q rep q k
  refine s Y H σ env _ _ rep q fun v H' env' r Y' rep' g ok q => ?_
  obtain ⟨d, e1, c⟩ := ok.rc rep'
  simp only [e1] at q
  match d, c, q with
  | .bl b, c, q => exact ⟨b, c.bl, k b H' env' (rep'.less g.yu) g.drop q⟩
theorem at_cmp {op : CmpOp} {r : R2} {f : Op2} {fa fb : AE'} (ho : OpR X (compareOp op) r) (o : OpS X.K r f) (ha : AE X a fa) (hb : AE X b fb) (hm : behindInMarks op b = false) : AT X (.Compare a [op] [b] pos) (aB (aOp f fa fb)) := by
  obtain ⟨t, p, s⟩ := ha
  obtain ⟨t2, p2, s2⟩ := hb
  exact ⟨_, pt_cmpR ho p p2 hm, snd_test (snd_op o s s2)⟩
/-- a < b < c -/
def aChain (f g : Op2) (a b c : AE') : AE' := fun env R => a env fun r env1 => b env1 fun s env2 => match val env2 r, val env2 s with
  | some d, some e => f d e fun z => match z with
    | .dat (.bl true) => c env2 fun u env3 => match val env3 s, val env3 u with
      | some e', some w => g e' w fun z => R z env3
      | _, _ => False
    | .dat (.bl false) => R (.dat (.bl false)) env2
    | _ => False
  | _, _ => False
theorem ResOk.less' {K : Fg} {H : Hp} {Y Y1 : Ad} {σ : St} {env : AEnv} {v : V} {d : D} (h : ResOk K H Y Y1 σ env v (.dat d)) : Y1 = Y ∧ RD K H (Pw Y σ env) v d := h
/-- a value that waits: what it is, as it is read later -/
structure Wt (K : Fg) (Y : Ad) (H : Hp) (σ : St) (env : AEnv) (v : V) (r : RV) : Prop where
  rc : ∃ d, val env r = some d ∧ RC K H (Pw Y σ env) v d
theorem snd_chain {K : Fg} {r r' : R2} {f g : Op2} {ta tb tc : TE} {fa fb fc : AE'} (o : OpS K r f) (o' : OpS K r' g) (ha : Snd K ta fa) (hb : Snd K tb fb) (hc : Snd K tc fc) : Snd K (tChain r r' ta tb tc) (aChain f g fa fb fc) := by
  intro Y H σ env R Q rep h k
  refine ha Y H σ env _ _ rep h fun v H1 env1 r1 Y1 rep1 g1 ok1 q1 => ?_
  refine hb Y1 H1 σ env1 _ _ rep1 q1 fun u H2 env2 r2 Y2 rep2 g2 ok2 q2 => ?_
  obtain ⟨d, e1, c1⟩ := ok1.later g2 rep2
  obtain ⟨e, e2, c2⟩ := ok2.rc rep2
  simp only [e1, e2] at q2
  refine o Y2 H2 σ env2 v u d e _ _ rep2 c1 c2 q2 fun w H3 z Y3 rep3 g3 ok3 q3 => ?_
  match z, ok3, q3 with
  | .dat (.bl true), ok3, q3 =>
    obtain ⟨ey, rd⟩ := ok3.less'
    cases rd
    refine ⟨true, rfl, iteT ?_⟩
    subst ey
    refine hc Y3 H3 σ env2 _ _ rep3 q3 fun w H4 env4 r4 Y4 rep4 g4 ok4 q4 => ?_
    obtain ⟨e', e5, c5⟩ := ok2.later (g3.trans g4) rep4
    obtain ⟨w', e6, c6⟩ := ok4.rc rep4
    simp only [e5, e6] at q4
    have gg := (g1.trans g2).trans (g3.trans g4)
    refine o' Y H4 σ env4 u w e' w' _ _ (rep4.less gg.yu) (c5.less (pw_less gg.yu)) (c6.less (pw_less gg.yu)) q4 fun w2 H5 z5 Y5 rep5 g5 ok5 q5 => ?_
    exact k w2 H5 env4 z5 Y5 rep5 (gg.drop.trans g5) ok5 q5
  | .dat (.bl false), ok3, q3 =>
    obtain ⟨ey, rd⟩ := ok3.less'
    cases rd
    refine ⟨false, rfl, iteF ?_⟩
    subst ey
    have gg := (g1.trans g2).trans g3
    exact k _ H3 env2 (.dat (.bl false)) Y (rep3.less gg.yu) gg.drop ⟨rfl, .bl false⟩ q3
theorem ae_chain {op op' : CmpOp} {r r' : R2} {f g : Op2} {fa fb fc : AE'} (ho : OpR X (compareOp op) r) (o : OpS X.K r f) (ho' : OpR X (compareOp op') r') (o' : OpS X.K r' g) (ha : AE X a fa) (hb : AE X b fb) (hc : AE X c fc)
    (hm : lastMarks [op, op'] [b, c] = false := by with_unfolding_all rfl) : AE X (.Compare a [op, op'] [b, c] pos) (aChain f g fa fb fc) := by
  obtain ⟨t, p, s⟩ := ha
  obtain ⟨t2, p2, s2⟩ := hb
  obtain ⟨t3, p3, s3⟩ := hc
  exact ⟨_, pe_chain ho ho' p p2 p3 hm, snd_chain o o' s s2 s3⟩
theorem at_chain {op op' : CmpOp} {r r' : R2} {f g : Op2} {fa fb fc : AE'} (ho : OpR X (compareOp op) r) (o : OpS X.K r f) (ho' : OpR X (compareOp op') r') (o' : OpS X.K r' g) (ha : AE X a fa) (hb : AE X b fb) (hc : AE X c fc)
    (hm : lastMarks [op, op'] [b, c] = false := by with_unfolding_all rfl) : AT X (.Compare a [op, op'] [b, c] pos) (aB (aChain f g fa fb fc)) := by
  obtain ⟨t, p, s⟩ := ha
  obtain ⟨t2, p2, s2⟩ := hb
  obtain ⟨t3, p3, s3⟩ := hc
  exact ⟨_, pt_chain ho ho' p p2 p3 hm, snd_test (snd_chain o o' s s2 s3)⟩
/-- the truth of a value -/
def truD (d : D) (R : Bool → Prop) : Prop := match d with
  | .non => R false
  | .bl b => R b
  | .int i => R (i != 0)
  | .str x => x.length ≤ sizeLine ∧ R ((x.length : Int) != 0)
  | .lst l => R (!l.isEmpty)
  | .tup l => R (!l.isEmpty)
  | _ => False
def aTru (a : AE') : AT' := fun env R => a env fun r env1 => match val env1 r with
  | some d => truD d fun b => R b env1
  | none => False
theorem isEmpty_len {α β : Type} {l : List α} {m : List β} (h : l.length = m.length) : l.isEmpty = m.isEmpty := by
  cases l <;> cases m <;> simp_all
theorem snd_tru {K : Fg} {t : TE} {a : AE'} (s : Snd K t a) : SndT K (fun σ H Q => t σ H fun x H' => ∃ k, TruV K x H' k ∧ Q k H') (aTru a) := by
  intro Y H σ env R Q rep q k
  refine s Y H σ env _ _ rep q fun v H' env' r Y' rep' g ok q => ?_
  obtain ⟨d, e1, c⟩ := ok.rc rep'
  simp only [e1] at q
  have fin : ∀ b, R b env' → Q b H' := fun b q => k b H' env' (rep'.less g.yu) g.drop q
  match d, c, q with
  | .non, c, q => rw [c.non]; exact ⟨false, rfl, fin _ q⟩
  | .bl b, c, q => rw [c.bl]; exact ⟨b, rfl, fin _ q⟩
  | .int i, c, q => rw [c.int]; exact ⟨_, rfl, fin _ q⟩
  | .str x, c, q => rw [c.str]; exact ⟨_, ⟨q.1, rfl⟩, fin _ q.2⟩
  | .lst l, c, q =>
    obtain ⟨p, us, rfl, h, r, _⟩ := c.lst
    exact ⟨_, .inl ⟨us, .of h, rfl⟩, by rw [isEmpty_len r.length]; exact fin _ q⟩
  | .tup l, c, q =>
    obtain ⟨p, us, rfl, h, r, _, _⟩ := c.tup
    exact ⟨_, .inr (.inl ⟨us, h, rfl⟩), by rw [isEmpty_len r.length]; exact fin _ q⟩
theorem at_tru {fa : AE'} (ha : AE X a fa) (he : ∀ whole, isTrue a X.env whole = (do let v ← whole; standAt a.pos; holding [v] (truthy v)) := by intro _; rfl) : AT X a (aTru fa) := by
  obtain ⟨t, p, s⟩ := ha
  exact ⟨_, pt_truth p he, snd_tru s⟩
/-- not -/
def aNot (t : AT') : AT' := fun env R => t env fun b env1 => R (!b) env1
theorem at_not {t : AT'} (h : AT X a t) : AT X (.UnaryOp .Not a pos) (aNot t) := by
  obtain ⟨u, p, s⟩ := h
  exact ⟨_, pt_not p, fun Y H σ env R Q rep q k => s Y H σ env _ _ rep q fun b H' env' rep' g q' => k (!b) H' env' rep' g q'⟩
/-- not as a value, of any truth: by the test -/
def aNotV (t : AT') : AE' := fun env R => t env fun b env1 => R (.dat (.bl (!b))) env1
theorem ae_notB {fa : AE'} (h : AE X a fa) : AE X (.UnaryOp .Not a pos) (aNotV (aB fa)) := by
  obtain ⟨u, p, s⟩ := h
  refine ⟨_, pe_not p, fun Y H σ env R Q rep q k => ?_⟩
  refine s Y H σ env _ _ rep q fun v H' env' r Y' rep' g ok q => ?_
  obtain ⟨d, e1, c⟩ := ok.rc rep'
  simp only [e1] at q
  match d, c, q with
  | .bl b, c, q => exact ⟨b, c.bl, k _ H' env' (.dat (.bl (!b))) Y (rep'.less g.yu) g.drop ⟨rfl, .bl _⟩ q⟩
/-- and, or as tests -/
def aAnd (t u : AT') : AT' := fun env R => t env fun b env1 => brP b (u env1 R) (R false env1)
def aOr (t u : AT') : AT' := fun env R => t env fun b env1 => brP b (R true env1) (u env1 R)
theorem SndT.then {K : Fg} {t : TT} {a : AT'} (s : SndT K t a) {Y : Ad} {H : Hp} {σ : St} {env : AEnv} {R : Bool → AEnv → Prop} {Q : Bool → Hp → Prop} (rep : Rep K Y H σ env) (q : a env R) (k : ∀ b H' env', Rep K Y H' σ env' → Adv σ Y env H Y env' H' → R b env' → Q b H') : t σ H Q := s Y H σ env R Q rep q k
theorem aw_and1 {t : AT'} (h : AT X a t) : AW X (.BoolOp .And [a] pos) t := let ⟨u, p, s⟩ := h; ⟨u, pw_and1 p, s⟩
theorem aw_or1 {t : AT'} (h : AT X a t) : AW X (.BoolOp .Or [a] pos) t := let ⟨u, p, s⟩ := h; ⟨u, pw_or1 p, s⟩
theorem aw_and {t u : AT'} {rest : List Expr} (h : AT X a t) (h2 : AW X (.BoolOp .And (b :: rest) pos) u) : AW X (.BoolOp .And (a :: b :: rest) pos) (aAnd t u) := by
  obtain ⟨t1, p1, s1⟩ := h
  obtain ⟨t2, p2, s2⟩ := h2
  refine ⟨_, pw_and p1 p2, fun Y H σ env R Q rep q k => ?_⟩
  refine s1.then rep q fun b H' env' rep' g q' => ?_
  cases b with
  | true => exact iteT (s2.then rep' (by simpa using q') fun b2 H2 env2 rep2 g2 q2 => k b2 H2 env2 rep2 (g.trans g2) q2)
  | false => exact iteF (k false H' env' rep' g (by simpa using q'))
theorem aw_or {t u : AT'} {rest : List Expr} (h : AT X a t) (h2 : AW X (.BoolOp .Or (b :: rest) pos) u) : AW X (.BoolOp .Or (a :: b :: rest) pos) (aOr t u) := by
  obtain ⟨t1, p1, s1⟩ := h
  obtain ⟨t2, p2, s2⟩ := h2
  refine ⟨_, pw_or p1 p2, fun Y H σ env R Q rep q k => ?_⟩
  refine s1.then rep q fun b H' env' rep' g q' => ?_
  cases b with
  | true => exact iteT (k true H' env' rep' g (by simpa using q'))
  | false => exact iteF (s2.then rep' (by simpa using q') fun b2 H2 env2 rep2 g2 q2 => k b2 H2 env2 rep2 (g.trans g2) q2)
theorem AW.at' {t : AT'} (h : AW X a t) : AT X a t := let ⟨u, p, s⟩ := h; ⟨u, p.pt, s⟩
/-- and, or as values: all but the last are bools -/
def aAndV (t : AT') (u : AE') : AE' := fun env R => t env fun b env1 => brP b (u env1 R) (R (.dat (.bl false)) env1)
def aOrV (t : AT') (u : AE') : AE' := fun env R => t env fun b env1 => brP b (R (.dat (.bl true)) env1) (u env1 R)
theorem ae_one {op} {fa : AE'} (h : AE X a fa) : AE X (.BoolOp op [a] pos) fa := let ⟨u, p, s⟩ := h; ⟨u, pe_one p, s⟩
theorem snd_bl {K : Fg} {t : TE} {a : AE'} (s : Snd K t a) {Y : Ad} {H : Hp} {σ : St} {env : AEnv} {R : Bool → AEnv → Prop} {Q : VK} (rep : Rep K Y H σ env) (q : aB a env R)
    (k : ∀ b H' env', Rep K Y H' σ env' → Adv σ Y env H Y env' H' → R b env' → Q (.bl b) H') : t σ H Q := by
  refine s Y H σ env _ _ rep q fun v H' env' r Y' rep' g ok q => ?_
  obtain ⟨d, e1, c⟩ := ok.rc rep'
  simp only [e1] at q
  match d, c, q with
  | .bl b, c, q =>
    rw [c.bl]
    exact k b H' env' (rep'.less g.yu) g.drop q
theorem ae_and {fa u : AE'} {rest : List Expr} (h : AE X a fa) (h2 : AE X (.BoolOp .And (b :: rest) pos) u) : AE X (.BoolOp .And (a :: b :: rest) pos) (aAndV (aB fa) u) := by
  obtain ⟨t1, p1, s1⟩ := h
  obtain ⟨t2, p2, s2⟩ := h2
  refine ⟨_, L2.pe_and p1 p2, fun Y H σ env R Q rep q k => ?_⟩
  refine snd_bl s1 rep q fun b H' env' rep' g q' => ⟨b, rfl, ?_⟩
  cases b with
  | true => exact iteT (s2 Y H' σ env' _ _ rep' (by simpa using q') fun v H2 env2 r Y2 rep2 g2 ok q2 => k v H2 env2 r Y2 rep2 (g.trans g2) ok q2)
  | false => exact iteF (k _ H' env' (.dat (.bl false)) Y rep' g ⟨rfl, .bl _⟩ (by simpa using q'))
theorem ae_or {fa u : AE'} {rest : List Expr} (h : AE X a fa) (h2 : AE X (.BoolOp .Or (b :: rest) pos) u) : AE X (.BoolOp .Or (a :: b :: rest) pos) (aOrV (aB fa) u) := by
  obtain ⟨t1, p1, s1⟩ := h
  obtain ⟨t2, p2, s2⟩ := h2
  refine ⟨_, L2.pe_or p1 p2, fun Y H σ env R Q rep q k => ?_⟩
  refine snd_bl s1 rep q fun b H' env' rep' g q' => ⟨b, rfl, ?_⟩
  cases b with
  | true => exact iteT (k _ H' env' (.dat (.bl true)) Y rep' g ⟨rfl, .bl _⟩ (by simpa using q'))
  | false => exact iteF (s2 Y H' σ env' _ _ rep' (by simpa using q') fun v H2 env2 r Y2 rep2 g2 ok q2 => k v H2 env2 r Y2 rep2 (g.trans g2) ok q2)
/-- a if t else b -/
def aIf (t : AT') (a b : AE') : AE' := fun env R => t env fun c env1 => brP c (a env1 R) (b env1 R)
theorem ae_if {t : AT'} {fa fb : AE'} (hc : AT X c t) (ha : AE X a fa) (hb : AE X b fb) : AE X (.IfExp c a b pos) (aIf t fa fb) := by
  obtain ⟨t1, p1, s1⟩ := hc
  obtain ⟨t2, p2, s2⟩ := ha
  obtain ⟨t3, p3, s3⟩ := hb
  refine ⟨_, pe_ifExp p1 p2 p3, fun Y H σ env R Q rep q k => ?_⟩
  refine s1.then rep q fun b H' env' rep' g q' => ?_
  cases b with
  | true => exact iteT (s2 Y H' σ env' _ _ rep' (by simpa using q') fun v H2 env2 r Y2 rep2 g2 ok q2 => k v H2 env2 r Y2 rep2 (g.trans g2) ok q2)
  | false => exact iteF (s3 Y H' σ env' _ _ rep' (by simpa using q') fun v H2 env2 r Y2 rep2 g2 ok q2 => k v H2 env2 r Y2 rep2 (g.trans g2) ok q2)
/-- - a -/
def aNeg (a : AE') : AE' := fun env R => a env fun r env1 => match val env1 r with
  | some (.int i) => R (.dat (.int (-i))) env1
  | _ => False
theorem ae_neg {fa : AE'} (ha : AE X a fa) : AE X (.UnaryOp .USub a pos) (aNeg fa) := by
  obtain ⟨t, p, s⟩ := ha
  refine ⟨_, pe_un un_neg p, fun Y H σ env R Q rep q k => ?_⟩
  refine s Y H σ env _ _ rep q fun v H' env' r Y' rep' g ok q => ?_
  obtain ⟨d, e1, c⟩ := ok.rc rep'
  simp only [e1] at q
  match d, c, q with
  | .int i, c, q => exact ⟨i, c.int, k _ H' env' (.dat (.int (-i))) Y (rep'.less g.yu) g.drop ⟨rfl, .int _⟩ q⟩
end

/-! ### displays -/
def dats : List RV → Option (List D)
  | [] => some []
  | .dat d :: r => (dats r).map (d :: ·)
  | _ => none
def aTup (t : AA') : AE' := fun env R => t env fun rs env1 => match dats rs with
  | some ds => ds.length ≤ sizeLine ∧ R (.dat (.tup ds)) env1
  | none => False
def aLst (t : AA') : AE' := fun env R => t env fun rs env1 => match dats rs with
  | some ds => ds.length ≤ sizeLine ∧ R (.new (.lst ds)) env1
  | none => False
section
variable {K : Fg} {σ : St} {Y : Ad} {env : AEnv} {H : Hp}
theorem ArgsOk.dats : ∀ {vs : List V} {rs : List RV} {ds : List D}, ArgsOk K H Y σ env vs rs → dats rs = some ds → RDs K H (Pw Y σ env) vs ds
  | _, _, _, .nil, e => by
    simp only [AL.dats, Option.some.injEq] at e
    subst e
    exact .nil
  | _, .dat d :: rs, _, .cons h r, e => by
    simp only [AL.dats] at e
    cases w : AL.dats rs with
    | none => rw [w] at e; cases e
    | some l =>
      rw [w] at e
      cases e
      exact .cons h.2 (r.dats w)
  | _, .at _ :: rs, _, .cons h r, e => by cases e
  | _, .new _ :: rs, _, .cons h r, e => by cases e
end
section
variable {X : Cx} {es : List Expr} {pos : Pos}
theorem ae_tup {x1} {t : AA'} (h : AA X es t) : AE X (.Tuple es x1 pos) (aTup t) := by
  obtain ⟨u, p, s⟩ := h
  refine ⟨_, pe_tup p, fun Y H σ env R Q rep q k => ?_⟩
  refine s Y H σ env _ _ rep q fun vs H' env' rs rep' g ok q => ?_
  match w : dats rs, q with
  | some ds, q =>
    have r := ok.dats w
    refine ⟨by rw [r.length]; exact q.1, fun l n => ?_⟩
    exact fin_tup rep' (F := fun z => R z env') (fun w H4 z Y4 rep4 g4 ok4 q4 => k w H4 env' z Y4 rep4 (g.trans g4) ok4 q4) r q.1 q.2 n
theorem ae_lst {t : AA'} (h : AA X es t) : AE X (.List es pos) (aLst t) := by
  obtain ⟨u, p, s⟩ := h
  refine ⟨_, pe_lst p, fun Y H σ env R Q rep q k => ?_⟩
  refine s Y H σ env _ _ rep q fun vs H' env' rs rep' g ok q => ?_
  match w : dats rs, q with
  | some ds, q =>
    have r := ok.dats w
    refine ⟨by rw [r.length]; exact q.1, fun l n => ?_⟩
    exact fin_lst rep' (F := fun z => R z env') (fun w H4 z Y4 rep4 g4 ok4 q4 => k w H4 env' z Y4 rep4 (g.trans g4) ok4 q4) r q.1 q.2 n
def aNewK : AE' := fun env R => R (.new (.dic [] [])) env
def aNewT : AE' := fun env R => R (.new (.dit [] [])) env
theorem ae_newK : AE X (.Dict [] [] pos) aNewK := ⟨_, pe_dnewK, fun Y H σ env R Q rep q k p n => fin_new (d := .dic [] []) (F := fun z => R z env) rep (fun w H4 z Y4 rep4 g4 ok4 q4 => k w H4 env z Y4 rep4 g4 ok4 q4) n ⟨[], upd_same, rfl, .nil⟩ q⟩
theorem ae_newT : AE X (.Dict [] [] pos) aNewT := ⟨_, pe_dnewT, fun Y H σ env R Q rep q k p n => fin_new (d := .dit [] []) (F := fun z => R z env) rep (fun w H4 z Y4 rep4 g4 ok4 q4 => k w H4 env z Y4 rep4 g4 ok4 q4) n ⟨[], upd_same, rfl, .nil⟩ q⟩
end
end AL
namespace AL
open PySem L2
/-! AL7: statements. -/
structure AEnds where
  nx : AEnv → Prop
  rt : RV → AEnv → Prop
  bk : AEnv → Prop := fun _ => False
  ct : AEnv → Prop := fun _ => False
abbrev AS' := AEnds → AEnv → Prop
/-- how a state goes on: B the slots that are never stored -/
structure AdvS (B : Nat → Bool) (σ : L2.St) (Y : Ad) (env : AEnv) (H : Hp) (Y' : Ad) (σ' : L2.St) (env' : AEnv) (H' : Hp) : Prop where
  keep : ∀ a o, H a = some o → ¬ Own σ env a → KeepO o H' a
  ky : ∀ a, Y a → H' a = H a
  yu : ∀ a, Y a → Y' a
  yn : ∀ a, Y' a → Y a ∨ H a = none ∨ Own σ env a
  ow : ∀ a, Own σ' env' a → Own σ env a ∨ H a = none
  live : ∀ a o, H a = some o → ∃ o', H' a = some o'
  st : ∀ i, B i = true → σ'[i]? = σ[i]?
  pr : ∀ i : Nat, B i = true → Sh env[i]? env'[i]?
  len : σ'.length = σ.length
section
variable {K : Fg} {B : Nat → Bool} {σ σ1 σ2 : L2.St} {Y Y' Y1 Y2 : Ad} {env env1 env2 : AEnv} {H H' H1 H2 : Hp}
theorem AdvS.refl : AdvS B σ Y env H Y σ env H := ⟨fun _ _ h _ => .inl h, fun _ _ => rfl, fun _ h => h, fun _ h => .inl h, fun _ h => .inl h, fun _ o h => ⟨o, h⟩, fun _ _ => rfl, fun _ _ => Sh.refl _, rfl⟩
theorem Adv.toS (g : Adv σ Y env H Y1 env1 H1) : AdvS B σ Y env H Y1 σ env1 H1 := ⟨g.keep, g.ky, g.yu, fun a h => (g.yn a h).imp id .inl, fun a h => .inl (g.own h), g.live, fun _ _ => rfl, fun i _ => g.sh i, rfl⟩
theorem AdvS.trans (R : Rep K Y H σ env) (g : AdvS B σ Y env H Y σ1 env1 H1) (k : AdvS B σ1 Y env1 H1 Y2 σ2 env2 H2) : AdvS B σ Y env H Y2 σ2 env2 H2 := by
  have nn : ∀ a, H1 a = none → H a = none := fun a z => by
    cases q : H a with
    | none => rfl
    | some o =>
      obtain ⟨o', w⟩ := g.live a o q
      rw [w] at z; cases z
  refine ⟨fun a o h n => (g.keep a o h n).trans fun u q => k.keep a u q fun z => ?_, fun a h => (k.ky a (g.yu a h)).trans (g.ky a h), fun a h => k.yu a (g.yu a h), fun a h => ?_, fun a h => ?_, fun a o h => ?_, fun i b => (k.st i b).trans (g.st i b), fun i b => (g.pr i b).trans (k.pr i b), k.len.trans g.len⟩
  · rcases g.ow a z with z | z
    · exact n z
    · rw [h] at z; cases z
  · rcases k.yn a h with z | z | z
    · exact .inl z
    · exact .inr (.inl (nn a z))
    · rcases g.ow a z with z | z
      · exact .inr (.inr z)
      · exact .inr (.inl z)
  · rcases k.ow a h with z | z
    · exact g.ow a z
    · exact .inr (nn a z)
  · obtain ⟨o', w⟩ := g.live a o h
    exact k.live a o' w
theorem AdvS.go (g : AdvS B σ Y env H Y1 σ1 env1 H1) (R : Rep K Y H σ env) : Go (Own σ env) (Pw Y σ env) (Pw Y1 σ1 env1) H H1 := by
  refine ⟨g.keep, fun a h => ?_⟩
  rcases h with h | h
  · rcases g.yn a h with z | z | z
    · exact .inl (.inl z)
    · exact .inr z
    · exact .inl (.inr z)
  · exact (g.ow a h).imp .inr id
theorem AdvS.rd (g : AdvS B σ Y env H Y1 σ1 env1 H1) (R : Rep K Y H σ env) {v : V} {d : D} (h : RD K H (Pw Y σ env) v d) : RD K H1 (Pw Y1 σ1 env1) v d := h.go (g.go R) fun _ z => .inr z
theorem AdvS.rds (g : AdvS B σ Y env H Y1 σ1 env1 H1) (R : Rep K Y H σ env) {v : List V} {d : List D} (h : RDs K H (Pw Y σ env) v d) : RDs K H1 (Pw Y1 σ1 env1) v d := h.go (g.go R) fun _ z => .inr z
end
structure EOk (K : Fg) (B : Nat → Bool) (Y : Ad) (H : Hp) (σ : L2.St) (env : AEnv) (D : Ends) (A : AEnds) : Prop where
  nx : ∀ H' σ' env', Rep K Y H' σ' env' → AdvS B σ Y env H Y σ' env' H' → A.nx env' → D.nx σ' H'
  rt : ∀ v H' σ' env' r Y', Rep K Y' H' σ' env' → AdvS B σ Y env H Y' σ' env' H' → ResOk K H' Y Y' σ' env' v r → A.rt r env' → D.rt v H'
  bk : ∀ H' σ' env', Rep K Y H' σ' env' → AdvS B σ Y env H Y σ' env' H' → A.bk env' → D.bk σ' H'
  ct : ∀ H' σ' env', Rep K Y H' σ' env' → AdvS B σ Y env H Y σ' env' H' → A.ct env' → D.ct σ' H'
def SndS (K : Fg) (B : Nat → Bool) (t : TS) (a : AS') : Prop := ∀ (Y : Ad) (H : Hp) (σ : L2.St) (env : AEnv) (D : Ends) (A : AEnds), Rep K Y H σ env → a A env → EOk K B Y H σ env D A → t D σ H
def AS (X : Cx) (B : Nat → Bool) (st : Stmt) (a : AS') : Prop := ∃ t, PS X st t ∧ SndS X.K B t a
def ASs (X : Cx) (B : Nat → Bool) (st : List Stmt) (a : AS') : Prop := ∃ t, PSs X st t ∧ SndS X.K B t a
section
variable {K : Fg} {B : Nat → Bool} {σ σ1 : L2.St} {Y : Ad} {env env1 : AEnv} {H H1 : Hp} {D : Ends} {A : AEnds}
theorem EOk.after (k : EOk K B Y H σ env D A) (R : Rep K Y H σ env) (g : AdvS B σ Y env H Y σ1 env1 H1) : EOk K B Y H1 σ1 env1 D A :=
  ⟨fun H' σ' env' r g' q => k.nx H' σ' env' r (g.trans R g') q, fun v H' σ' env' z Y' r g' ok q => k.rt v H' σ' env' z Y' r (g.trans R g') ok q,
    fun H' σ' env' r g' q => k.bk H' σ' env' r (g.trans R g') q, fun H' σ' env' r g' q => k.ct H' σ' env' r (g.trans R g') q⟩
end
/-! ### blocks -/
def aNext : AS' := fun A env => A.nx env
def aSeq (t u : AS') : AS' := fun A env => t { A with nx := u A } env
section
variable {X : Cx} {B : Nat → Bool} {st : Stmt} {rest : List Stmt} {e : Expr} {pos : Pos} {t u : AS'}
theorem ass_nil : ASs X B [] aNext := ⟨_, pss_nil, fun Y H σ env D A rep q k => k.nx H σ env rep AdvS.refl q⟩
theorem ass_one (h : AS X B st t) : ASs X B [st] t := let ⟨u, p, s⟩ := h; ⟨u, pss_one p, s⟩
theorem ass_cons (h : AS X B st t) (h2 : ASs X B rest u) : ASs X B (st :: rest) (aSeq t u) := by
  obtain ⟨t1, p1, s1⟩ := h
  obtain ⟨t2, p2, s2⟩ := h2
  refine ⟨_, pss_cons p1 p2, fun Y H σ env D A rep q k => ?_⟩
  refine s1 Y H σ env { D with nx := t2 D } { A with nx := u A } rep q ⟨fun H' σ' env' rep' g q' => ?_, k.rt, k.bk, k.ct⟩
  exact s2 Y H' σ' env' D A rep' q' (k.after rep g)
theorem as_pass : AS X B (.Pass pos) aNext := ⟨_, ps_pass, fun Y H σ env D A rep q k => k.nx H σ env rep AdvS.refl q⟩
theorem as_break : AS X B (.Break pos) (fun A env => A.bk env) := ⟨_, ps_break, fun Y H σ env D A rep q k => k.bk H σ env rep AdvS.refl q⟩
theorem as_continue : AS X B (.Continue pos) (fun A env => A.ct env) := ⟨_, ps_continue, fun Y H σ env D A rep q k => k.ct H σ env rep AdvS.refl q⟩
def aDrop (a : AE') : AS' := fun A env => a env fun _ env1 => A.nx env1
theorem as_expr {a : AE'} (h : AE X e a) (hs : swapsWith e none pos.line X.env = pure false := by rfl) : AS X B (.Expr e pos) (aDrop a) := by
  obtain ⟨t, p, s⟩ := h
  refine ⟨_, ps_expr p hs, fun Y H σ env D A rep q k => ?_⟩
  exact s Y H σ env _ _ rep q fun v H' env' r Y' rep' g ok q' => k.nx H' σ env' (rep'.less g.yu) g.drop.toS q'
def aIfS (c : AT') (t u : AS') : AS' := fun A env => c env fun b env1 => brP b (t A env1) (u A env1)
theorem as_if {c : Expr} {tc : AT'} {a b : List Stmt} (hc : AT X c tc) (ha : ASs X B a t) (hb : ASs X B b u) : AS X B (.If c a b pos) (aIfS tc t u) := by
  obtain ⟨t0, p0, s0⟩ := hc
  obtain ⟨t1, p1, s1⟩ := ha
  obtain ⟨t2, p2, s2⟩ := hb
  refine ⟨_, ps_if p0 p1 p2, fun Y H σ env D A rep q k => ?_⟩
  refine s0.then rep q fun b H' env' rep' g q' => ?_
  cases b with
  | true => exact iteT (s1 Y H' σ env' D A rep' (by simpa using q') (k.after rep g.toS))
  | false => exact iteF (s2 Y H' σ env' D A rep' (by simpa using q') (k.after rep g.toS))
theorem as_never : AS X B st (fun _ _ => False) := ⟨_, ps_never, fun Y H σ env D A rep q k => q.elim⟩
theorem ass_never {sts : List Stmt} : ASs X B sts (fun _ _ => False) := ⟨_, pss_never, fun Y H σ env D A rep q k => q.elim⟩
/-- return: an own thing goes to the caller -/
def retR (B : Nat → Bool) (A : AEnds) (env : AEnv) : RV → Prop
  | .at i => match env[i]? with
    | some (.own d) => B i = false ∧ A.rt (.new d) (env.set i .un)
    | some (.dat d) => A.rt (.dat d) env
    | _ => False
  | r => A.rt r env
def aRet (B : Nat → Bool) (a : AE') : AS' := fun A env => a env fun r env1 => retR B A env1 r
end
section
variable {K : Fg} {B : Nat → Bool} {σ : L2.St} {Y Y1 : Ad} {env : AEnv} {H : Hp}
/-- an own thing is given away -/
theorem Rep.give {i : Nat} {d : D} {v : V} (R : Rep K Y H σ env) (hb : B i = false) (h : env[i]? = some (.own d)) (hv : σ[i]? = some (some v)) :
    ∃ Y', Rep K Y' H σ (env.set i .un) ∧ AdvS B σ Y env H Y' σ (env.set i .un) H ∧ ResOk K H Y Y' σ (env.set i .un) v (.new d) := by
  have hi : i < env.length := (List.getElem?_eq_some_iff.mp h).1
  have back : ∀ (j : Nat) (e : D), (env.set i .un)[j]? = some (.own e) → env[j]? = some (.own e) ∧ j ≠ i := fun j e q => by
    by_cases z : i = j
    · subst z
      rw [List.getElem?_set_self hi] at q; cases q
    · rw [List.getElem?_set_ne z] at q
      exact ⟨q, fun w => z w.symm⟩
  have backd : ∀ (j : Nat) (e : D), (env.set i .un)[j]? = some (.dat e) → env[j]? = some (.dat e) := fun j e q => by
    by_cases z : i = j
    · subst z
      rw [List.getElem?_set_self hi] at q; cases q
    · rwa [List.getElem?_set_ne z] at q
  have ow : ∀ a, Own σ (env.set i .un) a → Own σ env a := fun a ⟨j, e, q, w⟩ => ⟨j, e, (back j e q).1, w⟩
  obtain ⟨p, hp, np, rp⟩ := R.own i d h
  rw [hv] at hp; cases hp
  have pw : ∀ a, Pw (fun a => Y a ∨ a = p) σ (env.set i .un) a → Pw Y σ env a := fun a z => by
    rcases z with (z | z) | z
    · exact .inl z
    · subst z
      exact .inr ⟨i, d, h, hv⟩
    · exact .inr (ow a z)
  have nown : ¬ Own σ (env.set i .un) p := fun ⟨j, e, q, w⟩ => by
    obtain ⟨q1, q2⟩ := back j e q
    exact q2 (R.inj j i e d p q1 h w hv)
  refine ⟨fun a => Y a ∨ a = p, ⟨by rw [List.length_set]; exact R.len, fun j e q => ?_, fun j e q => ?_, fun a z => ?_, fun j k e f a q1 q2 w1 w2 => R.inj j k e f a (back j e q1).1 (back k f q2).1 w1 w2⟩,
    ⟨fun _ _ h _ => .inl h, fun _ _ => rfl, fun _ z => .inl z, fun a z => ?_, fun a z => .inl (ow a z), fun _ o h => ⟨o, h⟩, fun _ _ => rfl, fun j bj => by
      rw [List.getElem?_set_ne (fun e => by subst e; rw [hb] at bj; cases bj)]
      exact Sh.refl _, rfl⟩, p, rfl, rfl, fun z => ?_, rp.less pw⟩
  · obtain ⟨v, w, r⟩ := R.dat j e (backd j e q)
    exact ⟨v, w, r.less pw⟩
  · obtain ⟨q1, q2⟩ := back j e q
    obtain ⟨p', w, n, r⟩ := R.own j e q1
    refine ⟨p', w, fun z => ?_, r.less pw⟩
    rcases z with z | z
    · exact n z
    · subst z
      exact q2 (R.inj j i e d p' q1 h w hv)
  · rcases z with z | z
    · exact R.yin a z
    · subst z
      obtain ⟨o, e, _⟩ := rp.some
      exact ⟨o, e⟩
  · rcases z with z | z
    · exact .inl z
    · subst z
      exact .inr (.inr ⟨i, d, h, hv⟩)
  · rcases z with z | z
    · exact np z
    · exact nown z
/-- data stored at a slot -/
theorem Rep.setDat {i : Nat} {v : V} {d : D} (R : Rep K Y H σ env) (hb : B i = false) (h : RD K H (Pw Y σ env) v d) : Rep K Y H (σ.set i (some v)) (env.set i (.dat d)) ∧ AdvS B σ Y env H Y (σ.set i (some v)) (env.set i (.dat d)) H := by
  have back : ∀ (j : Nat) (e : D), (env.set i (.dat d))[j]? = some (.own e) → env[j]? = some (.own e) ∧ i ≠ j := fun j e q => by
    by_cases z : i = j
    · subst z
      by_cases hi : i < env.length
      · rw [List.getElem?_set_self hi] at q; cases q
      · rw [List.getElem?_eq_none (by rw [List.length_set]; omega)] at q; cases q
    · rw [List.getElem?_set_ne z] at q
      exact ⟨q, z⟩
  have ow : ∀ a, Own (σ.set i (some v)) (env.set i (.dat d)) a → Own σ env a := fun a ⟨j, e, q, w⟩ => by
    obtain ⟨q1, q2⟩ := back j e q
    rw [List.getElem?_set_ne q2] at w
    exact ⟨j, e, q1, w⟩
  have pw : ∀ a, Pw Y (σ.set i (some v)) (env.set i (.dat d)) a → Pw Y σ env a := fun a z => z.imp id (ow a)
  refine ⟨⟨by rw [List.length_set, List.length_set]; exact R.len, fun j e q => ?_, fun j e q => ?_, R.yin, fun j k e f a q1 q2 w1 w2 => ?_⟩, ⟨fun _ _ h _ => .inl h, fun _ _ => rfl, fun _ z => z, fun a z => .inl z, fun a z => .inl (ow a z), fun _ o h => ⟨o, h⟩, fun j bj => ?_, fun j bj => by
    rw [List.getElem?_set_ne (fun e => by subst e; rw [hb] at bj; cases bj)]
    exact Sh.refl _, List.length_set⟩⟩
  · by_cases z : i = j
    · subst z
      by_cases hi : i < env.length
      · rw [List.getElem?_set_self hi] at q; cases q
        exact ⟨v, List.getElem?_set_self (by rw [R.len]; exact hi), h.less pw⟩
      · rw [List.getElem?_eq_none (by rw [List.length_set]; omega)] at q; cases q
    · rw [List.getElem?_set_ne z] at q
      obtain ⟨u, w, r⟩ := R.dat j e q
      exact ⟨u, by rw [List.getElem?_set_ne z]; exact w, r.less pw⟩
  · obtain ⟨q1, q2⟩ := back j e q
    obtain ⟨p', w, n, r⟩ := R.own j e q1
    exact ⟨p', by rw [List.getElem?_set_ne q2]; exact w, n, r.less pw⟩
  · obtain ⟨q1, z1⟩ := back j e q1
    obtain ⟨q2, z2⟩ := back k f q2
    rw [List.getElem?_set_ne z1] at w1
    rw [List.getElem?_set_ne z2] at w2
    exact R.inj j k e f a q1 q2 w1 w2
  · rw [List.getElem?_set_ne]
    intro z
    subst z
    rw [hb] at bj; cases bj
/-- a new thing stored at a slot: it is owned there -/
theorem Rep.setNew {i : Nat} {v : V} {d : D} (R : Rep K Y1 H σ env) (hb : B i = false) (yu : ∀ a, Y a → Y1 a) (h : ResOk K H Y Y1 σ env v (.new d)) : Rep K Y H (σ.set i (some v)) (env.set i (.own d)) ∧
    (AdvS B σ Y env H Y1 σ env H → ∀ p, v = .ref p → True) ∧ (∀ (H0 : Hp) (σ0 : L2.St) (env0 : AEnv), (∀ a, Y1 a → Y a ∨ H0 a = none) → AdvS B σ0 Y env0 H0 Y1 σ env H → AdvS B σ0 Y env0 H0 Y (σ.set i (some v)) (env.set i (.own d)) H) := by
  obtain ⟨p, rfl, ey, np, ro⟩ := h
  have back : ∀ (j : Nat) (e : D), (env.set i (.own d))[j]? = some (.own e) → (i = j ∧ e = d) ∨ (env[j]? = some (.own e) ∧ i ≠ j) := fun j e q => by
    by_cases z : i = j
    · subst z
      by_cases hi : i < env.length
      · rw [List.getElem?_set_self hi] at q; cases q
        exact .inl ⟨rfl, rfl⟩
      · rw [List.getElem?_eq_none (by rw [List.length_set]; omega)] at q; cases q
    · rw [List.getElem?_set_ne z] at q
      exact .inr ⟨q, z⟩
  have backd : ∀ (j : Nat) (e : D), (env.set i (.own d))[j]? = some (.dat e) → env[j]? = some (.dat e) ∧ i ≠ j := fun j e q => by
    by_cases z : i = j
    · subst z
      by_cases hi : i < env.length
      · rw [List.getElem?_set_self hi] at q; cases q
      · rw [List.getElem?_eq_none (by rw [List.length_set]; omega)] at q; cases q
    · rw [List.getElem?_set_ne z] at q
      exact ⟨q, z⟩
  have ow : ∀ a, Own (σ.set i (some (.ref p))) (env.set i (.own d)) a → Own σ env a ∨ a = p := fun a ⟨j, e, q, w⟩ => by
    rcases back j e q with ⟨z, _⟩ | ⟨q1, q2⟩
    · subst z
      by_cases hi : i < σ.length
      · rw [List.getElem?_set_self hi] at w; cases w
        exact .inr rfl
      · rw [List.getElem?_eq_none (by rw [List.length_set]; omega)] at w; cases w
    · rw [List.getElem?_set_ne q2] at w
      exact .inl ⟨j, e, q1, w⟩
  have pw : ∀ a, Pw Y (σ.set i (some (.ref p))) (env.set i (.own d)) a → Pw Y1 σ env a := fun a z => by
    rcases z with z | z
    · exact .inl (yu a z)
    · rcases ow a z with z | z
      · exact .inr z
      · exact .inl (by rw [ey]; exact .inr z)
  refine ⟨⟨by rw [List.length_set, List.length_set]; exact R.len, fun j e q => ?_, fun j e q => ?_, fun a z => R.yin a (yu a z), fun j k e f a q1 q2 w1 w2 => ?_⟩, fun _ _ _ => trivial, fun H0 σ0 env0 yn g => ⟨g.keep, g.ky, fun _ z => z, fun a z => .inl z, fun a z => ?_, g.live, fun j bj => ?_, fun j bj => by
    rw [List.getElem?_set_ne (fun e => by subst e; rw [hb] at bj; cases bj)]
    exact g.pr j bj, by rw [List.length_set]; exact g.len⟩⟩
  · obtain ⟨q1, z⟩ := backd j e q
    obtain ⟨u, w, r⟩ := R.dat j e q1
    exact ⟨u, by rw [List.getElem?_set_ne z]; exact w, r.less pw⟩
  · rcases back j e q with ⟨z, e1⟩ | ⟨q1, z⟩
    · subst z e1
      have hi : i < env.length := by
        by_cases hi : i < env.length
        · exact hi
        · rw [List.getElem?_eq_none (by rw [List.length_set]; omega)] at q; cases q
      exact ⟨p, List.getElem?_set_self (by rw [R.len]; exact hi), fun z => np (.inl z), ro.less pw⟩
    · obtain ⟨p', w, n, r⟩ := R.own j e q1
      exact ⟨p', by rw [List.getElem?_set_ne z]; exact w, fun z => n (yu p' z), r.less pw⟩
  · have key : ∀ (j : Nat) (e : D), i ≠ j → env[j]? = some (.own e) → σ[j]? = some (some (.ref p)) → False := fun j e _ q w => np (.inr ⟨j, e, q, w⟩)
    have at_i : ∀ {w : Addr}, (σ.set i (some (.ref p)))[i]? = some (some (V.ref w)) → w = p := fun {w} q => by
      by_cases hi : i < σ.length
      · rw [List.getElem?_set_self hi] at q; cases q; rfl
      · rw [List.getElem?_eq_none (by rw [List.length_set]; omega)] at q; cases q
    rcases back j e q1 with ⟨z, _⟩ | ⟨q1, z1⟩
    · rcases back k f q2 with ⟨z', _⟩ | ⟨q2, z2⟩
      · rw [← z, ← z']
      · subst z
        have := at_i w1
        subst this
        rw [List.getElem?_set_ne z2] at w2
        exact (key k f z2 q2 w2).elim
    · rcases back k f q2 with ⟨z', _⟩ | ⟨q2, z2⟩
      · subst z'
        have := at_i w2
        subst this
        rw [List.getElem?_set_ne z1] at w1
        exact (key j e z1 q1 w1).elim
      · rw [List.getElem?_set_ne z1] at w1
        rw [List.getElem?_set_ne z2] at w2
        exact R.inj j k e f a q1 q2 w1 w2
  · rcases ow a z with z | z
    · exact g.ow a z
    · have : Y1 a := by rw [ey]; exact .inr z
      rcases yn a this with w | w
      · subst z
        exact (np (.inl w)).elim
      · exact .inr w
  · rw [List.getElem?_set_ne]
    · exact g.st j bj
    · intro z
      subst z
      rw [hb] at bj; cases bj
end
section
variable {X : Cx} {B : Nat → Bool} {e : Expr} {pos : Pos}
theorem as_ret {a : AE'} (h : AE X e a) : AS X B (.Return (some e) pos) (aRet B a) := by
  obtain ⟨t, p, s⟩ := h
  refine ⟨_, ps_ret p, fun Y H σ env D A rep q k => ?_⟩
  refine s Y H σ env _ _ rep q fun v H' env' r Y' rep' g ok q' => ?_
  match r, ok, q' with
  | .dat d, ok, q' => exact k.rt v H' σ env' (.dat d) Y' rep' g.toS ok q'
  | .new d, ok, q' => exact k.rt v H' σ env' (.new d) Y' rep' g.toS ok q'
  | .at i, ok, q' =>
    obtain ⟨ey, hv, d, w⟩ := ok
    subst ey
    rcases w with w | w
    · have q2 : B i = false ∧ A.rt (.new d) (env'.set i .un) := by simpa [retR, w] using q'
      obtain ⟨Y2, r2, g2, ok2⟩ := rep'.give (B := B) q2.1 w hv
      exact k.rt v H' σ _ (.new d) Y2 r2 (g.toS.trans rep g2) ok2 q2.2
    · have q2 : A.rt (.dat d) env' := by simpa [retR, w] using q'
      obtain ⟨u, hu, r⟩ := rep'.dat i d w
      rw [hv] at hu; cases hu
      exact k.rt v H' σ env' (.dat d) Y' rep' g.toS ⟨rfl, r⟩ q2
theorem as_retN : AS X B (.Return none pos) (fun A env => A.rt (.dat .non) env) := ⟨_, ps_retN, fun Y H σ env D A rep q k => k.rt .non H σ env (.dat .non) Y rep AdvS.refl ⟨rfl, .non⟩ q⟩
/-- name = value -/
def setR (i : Nat) (N : AEnv → Prop) (env : AEnv) : RV → Prop
  | .dat d => N (env.set i (.dat d))
  | .new d => N (env.set i (.own d))
  | .at j => match env[j]? with
    | some (.own d) => N ((env.set j (.dat d)).set i (.dat d))
    | some (.dat d) => N (env.set i (.dat d))
    | _ => False
def aSet (i : Nat) (a : AE') : AS' := fun A env => a env fun r env1 => setR i A.nx env1 r
theorem set_ok {K : Fg} {i : Nat} {σ : L2.St} {Y Y1 : Ad} {env env1 : AEnv} {H H1 : Hp} {v : V} {r : RV} {N : AEnv → Prop} {Q : Prop} (hb : B i = false) (rep : Rep K Y H σ env) (g : Adv σ Y env H Y1 env1 H1) (rep1 : Rep K Y1 H1 σ env1) (ok : ResOk K H1 Y Y1 σ env1 v r)
    (q : setR i N env1 r) (k : ∀ env2, Rep K Y H1 (σ.set i (some v)) env2 → AdvS B σ Y env H Y (σ.set i (some v)) env2 H1 → N env2 → Q) : Q := by
  match r, ok, q with
  | .dat d, ok, q =>
    obtain ⟨ey, rd⟩ := ok
    subst ey
    obtain ⟨a, b⟩ := rep1.setDat (B := B) hb rd
    exact k _ a (g.toS.trans rep b) q
  | .new d, ok, q =>
    obtain ⟨a, _, b⟩ := rep1.setNew (B := B) hb g.yu ok
    exact k _ a (b H σ env g.yn g.toS) q
  | .at j, ok, q =>
    obtain ⟨ey, hv, d, w⟩ := ok
    subst ey
    rcases w with w | w
    · have q2 : N ((env1.set j (.dat d)).set i (.dat d)) := by simpa [setR, w] using q
      obtain ⟨r1, g1, u, hu, rd⟩ := rep1.freeze w
      rw [hv] at hu; cases hu
      obtain ⟨a, b⟩ := r1.setDat (B := B) hb rd
      exact k _ a ((g.trans g1).toS.trans rep b) q2
    · have q2 : N (env1.set i (.dat d)) := by simpa [setR, w] using q
      obtain ⟨u, hu, rd⟩ := rep1.dat j d w
      rw [hv] at hu; cases hu
      obtain ⟨a, b⟩ := rep1.setDat (B := B) hb rd
      exact k _ a (g.toS.trans rep b) q2
theorem as_set {i : Nat} {x : Str} {pos' : Pos} {a : AE'} (hN : X.N.Nodup) (hi : X.N[i]? = some x) (hx : Loc X.env.scope x) (he : AE X e a) (hb : B i = false := by rfl) (hs : swapsWith e (some (.Name x pos')) pos.line X.env = pure false := by rfl) (hf : X.fn x = true ∨ X.env.scope.names.lookup x = some .local := by first | exact .inl rfl | exact .inr rfl | assumption) :
    AS X B (.Assign [.Name x pos'] e pos) (aSet i a) := by
  obtain ⟨t, p, s⟩ := he
  refine ⟨_, ps_set hN hi hx p hs hf, fun Y H σ env D A rep q k => ?_⟩
  refine s Y H σ env _ _ rep q fun v H' env' r Y' rep' g ok q' => ?_
  exact set_ok hb rep g rep' ok q' fun env2 r2 g2 q2 => k.nx H' _ env2 r2 g2 q2
end
end AL
namespace AL
open PySem L2
/-! AL8: targets, stores, what a for walks, for, comprehensions. -/
abbrev AG' := D → AEnv → (AEnv → Prop) → Prop
abbrev AGs' := List D → AEnv → (AEnv → Prop) → Prop
def SndG (K : Fg) (B : Nat → Bool) (g : TG) (a : AG') : Prop := ∀ (Y : Ad) (H : Hp) (σ : L2.St) (env : AEnv) (v : V) (d : D) (N : AEnv → Prop) (Q : L2.St → Hp → Prop), Rep K Y H σ env → RD K H (Pw Y σ env) v d → a d env N →
  (∀ H' σ' env', Rep K Y H' σ' env' → AdvS B σ Y env H Y σ' env' H' → N env' → Q σ' H') → g v σ H Q
def SndGs (K : Fg) (B : Nat → Bool) (g : TGs) (a : AGs') : Prop := ∀ (Y : Ad) (H : Hp) (σ : L2.St) (env : AEnv) (v : List V) (d : List D) (N : AEnv → Prop) (Q : L2.St → Hp → Prop), Rep K Y H σ env → RDs K H (Pw Y σ env) v d → a d env N →
  (∀ H' σ' env', Rep K Y H' σ' env' → AdvS B σ Y env H Y σ' env' H' → N env' → Q σ' H') → g v σ H Q
def AG (X : Cx) (B : Nat → Bool) (tg : Expr) (a : AG') : Prop := ∃ t, PG X tg t ∧ SndG X.K B t a
def AGs (X : Cx) (B : Nat → Bool) (tg : List Expr) (a : AGs') : Prop := ∃ t, PGs X tg t ∧ SndGs X.K B t a
def agName (i : Nat) : AG' := fun d env N => N (env.set i (.dat d))
def agNil : AGs' := fun ds env N => ds = [] ∧ N env
def agCons (a : AG') (b : AGs') : AGs' := fun ds env N => match ds with
  | d :: r => a d env fun env1 => b r env1 N
  | [] => False
def agTup (n : Nat) (a : AGs') : AG' := fun d env N => match d with
  | .tup ds => ds.length = n ∧ a ds env N
  | .lst ds => ds.length = n ∧ a ds env N
  | _ => False
theorem PG.or {X : Cx} {tg : Expr} {g g' : TG} (h : PG X tg g) (h' : PG X tg g') : PG X tg (fun v σ H Q => g v σ H Q ∨ g' v σ H Q) := ⟨fun pins s σ H v u Q I r q => q.elim (h.run pins s σ H v u Q I r) (h'.run pins s σ H v u Q I r)⟩
section
variable {X : Cx} {B : Nat → Bool} {pos : Pos}
theorem ag_name (i : Nat) {x : Str} (hN : X.N.Nodup) (hi : X.N[i]? = some x) (hx : Loc X.env.scope x) (hb : B i = false := by rfl) (hf : X.fn x = true ∨ X.env.scope.names.lookup x = some .local := by first | exact .inl rfl | exact .inr rfl | assumption) : AG X B (.Name x pos) (agName i) := by
  refine ⟨_, pg_name (i := i) hN hi hx hf, fun Y H σ env v d N Q rep rd q k => ?_⟩
  obtain ⟨a, b⟩ := rep.setDat (B := B) hb rd
  exact k H _ _ a b q
theorem ags_nil : AGs X B [] agNil := ⟨_, pgs_nil, fun Y H σ env v d N Q rep rd q k => by
  obtain ⟨rfl, q⟩ := q
  cases rd
  exact ⟨rfl, k H σ env rep AdvS.refl q⟩⟩
theorem ags_cons {e : Expr} {es : List Expr} {a : AG'} {b : AGs'} (h1 : AG X B e a) (h2 : AGs X B es b) (hs : (assignEach (e :: es) X.env).map (·.2) = assign e X.env :: (assignEach es X.env).map (·.2) := by rfl) : AGs X B (e :: es) (agCons a b) := by
  obtain ⟨t1, p1, s1⟩ := h1
  obtain ⟨t2, p2, s2⟩ := h2
  refine ⟨_, pgs_cons p1 p2 hs, fun Y H σ env v d N Q rep rd q k => ?_⟩
  cases rd with
  | nil => exact q.elim
  | cons r rr =>
    refine ⟨_, _, rfl, s1 Y H σ env _ _ _ _ rep r q fun H1 σ1 env1 rep1 g1 q1 => ?_⟩
    exact s2 Y H1 σ1 env1 _ _ _ _ rep1 (g1.rds rep rr) q1 fun H2 σ2 env2 rep2 g2 q2 => k H2 σ2 env2 rep2 (g1.trans rep g2) q2
theorem ag_tup {es : List Expr} {k n : Nat} {a : AGs'} (hc : X.calm = true) (h : AGs X B es a)
    (hn : (assignEach es X.env).length = n := by rfl) (hst : (assignEach es X.env).findIdx? (·.1) = none := by rfl) : AG X B (.Tuple es k pos) (agTup n a) := by
  obtain ⟨t1, p1, s1⟩ := h
  refine ⟨_, PG.or (pg_tup hc p1 hn hst) (pg_unl hc p1 hn hst), fun Y H σ env v d N Q rep rd q k => ?_⟩
  match d, rd, q with
  | .tup ds, .tup s r, q => exact .inl ⟨_, _, rfl, s.sq, by rw [r.length]; exact q.1, s1 Y H σ env _ _ _ _ rep r q.2 k⟩
  | .lst ds, .lst s r, q => exact .inr ⟨_, _, rfl, s.sq, by rw [r.length]; exact q.1, s1 Y H σ env _ _ _ _ rep r q.2 k⟩
end
/-! ### an owned thing changes -/
section
variable {K : Fg} {B : Nat → Bool} {σ : L2.St} {Y : Ad} {env : AEnv} {H : Hp}
theorem Rep.mut {i : Nat} {d d1 : D} {p : Addr} {o : HO} (R : Rep K Y H σ env) (h : env[i]? = some (.own d)) (hp : σ[i]? = some (some (.ref p)))
    (ro : ∀ P : Ad, (∀ a, P a ↔ Pw Y σ env a) → Go (fun a => a = p) (Pw Y σ env) P H (upd H p o) → RO K (upd H p o) P p d1) :
    Rep K Y (upd H p o) σ (env.set i (.own d1)) ∧ AdvS B σ Y env H Y σ (env.set i (.own d1)) (upd H p o) := by
  have hi : i < env.length := (List.getElem?_eq_some_iff.mp h).1
  have back : ∀ (j : Nat) (e : D), (env.set i (.own d1))[j]? = some (.own e) → (i = j ∧ e = d1) ∨ (env[j]? = some (.own e) ∧ i ≠ j) := fun j e q => by
    by_cases z : i = j
    · subst z
      rw [List.getElem?_set_self hi] at q; cases q
      exact .inl ⟨rfl, rfl⟩
    · rw [List.getElem?_set_ne z] at q
      exact .inr ⟨q, z⟩
  have ow : ∀ a, Own σ (env.set i (.own d1)) a ↔ Own σ env a := fun a => by
    constructor
    · rintro ⟨j, e, q, w⟩
      rcases back j e q with ⟨z, _⟩ | ⟨q1, _⟩
      · subst z; exact ⟨_, d, h, w⟩
      · exact ⟨j, e, q1, w⟩
    · rintro ⟨j, e, q, w⟩
      by_cases z : i = j
      · subst z
        exact ⟨_, d1, List.getElem?_set_self hi, w⟩
      · exact ⟨j, e, by rw [List.getElem?_set_ne z]; exact q, w⟩
  have pw : ∀ a, Pw Y σ (env.set i (.own d1)) a ↔ Pw Y σ env a := fun a => or_congr Iff.rfl (ow a)
  obtain ⟨p', hp', np, rp⟩ := R.own i d h
  rw [hp] at hp'; cases hp'
  have g : Go (fun a => a = p) (Pw Y σ env) (Pw Y σ (env.set i (.own d1))) H (upd H p o) := ⟨fun a u q n => .inl (by rw [upd_ne n]; exact q), fun a z => .inl ((pw a).mp z)⟩
  have sub : ∀ a, a = p → Pw Y σ env a := fun a z => by subst z; exact .inr ⟨i, d, h, hp⟩
  refine ⟨⟨by rw [List.length_set]; exact R.len, fun j e q => ?_, fun j e q => ?_, fun a z => ?_, fun j k e f a q1 q2 w1 w2 => ?_⟩, ⟨fun a u q n => .inl ?_, fun a z => ?_, fun _ z => z, fun a z => .inl z, fun a z => .inl ((ow a).mp z), fun a u q => ?_, fun _ _ => rfl, fun j _ => ?_, rfl⟩⟩
  · by_cases z : i = j
    · subst z
      rw [List.getElem?_set_self hi] at q; cases q
    · rw [List.getElem?_set_ne z] at q
      obtain ⟨v, w, r⟩ := R.dat j e q
      exact ⟨v, w, r.go g sub⟩
  · rcases back j e q with ⟨z, e1⟩ | ⟨q1, z⟩
    · subst z e1
      exact ⟨p, hp, np, ro _ pw g⟩
    · obtain ⟨p', w, n, r⟩ := R.own j e q1
      have ne : p' ≠ p := fun e' => by
        subst e'
        exact z (R.inj i j d e p' h q1 hp w)
      exact ⟨p', w, n, r.go g sub (upd_ne ne)⟩
  · by_cases e : a = p
    · subst e; exact ⟨o, upd_same⟩
    · obtain ⟨u, q⟩ := R.yin a z
      exact ⟨u, by rw [upd_ne e]; exact q⟩
  · have bk : ∀ (j : Nat) (e : D), (env.set i (.own d1))[j]? = some (.own e) → ∃ e', env[j]? = some (.own e') := fun j e q => by
      rcases back j e q with ⟨z, _⟩ | ⟨q, _⟩
      · subst z; exact ⟨d, h⟩
      · exact ⟨e, q⟩
    obtain ⟨e', q1⟩ := bk j e q1
    obtain ⟨f', q2⟩ := bk k f q2
    exact R.inj j k e' f' a q1 q2 w1 w2
  · rw [upd_ne]
    · exact q
    · intro e
      subst e
      exact n ⟨i, d, h, hp⟩
  · rw [upd_ne]
    intro e
    subst e
    exact np z
  · by_cases e : a = p
    · subst e; exact ⟨o, upd_same⟩
    · exact ⟨u, by rw [upd_ne e]; exact q⟩
  · by_cases e : i = j
    · subst e
      rw [List.getElem?_set_self hi, h]
      trivial
    · rw [List.getElem?_set_ne e]
      exact Sh.refl _
end
/-! ### o[i] = v -/
@[irreducible] def setAt (j : Nat) (k d : D) (env : AEnv) (N : AEnv → Prop) : Prop := match env[j]?, k with
  | some (.own (.lst l)), .int i => ∃ m, ixN l.length i = some m ∧ N (env.set j (.own (.lst (l.set m d))))
  | some (.own (.dic ks vs)), k => isKey k = true ∧ ks.length < sizeLine ∧ N (env.set j (.own (.dic (dPutK ks k) (dPutW ks vs k d))))
  | _, _ => False
def agSub (o i : AE') : AG' := fun d env N => o env fun r env1 => i env1 fun s env2 => match r, val env2 s with
  | .at j, some k => setAt j k d env2 N
  | _, _ => False
theorem dput_ok {K : Fg} {H : Hp} {P : Ad} {kvs : List (Key × V)} {vs : List D} {k : Key} {v : V} {d : D} (r : RDs K H P (kvs.map (·.2)) vs) (hv : RD K H P v d) :
    dPutK (kvs.map fun kv => kD kv.1) (kD k) = (putK kvs k v).map (fun kv => kD kv.1) ∧ RDs K H P ((putK kvs k v).map (·.2)) (dPutW (kvs.map fun kv => kD kv.1) vs (kD k) d) := by
  unfold dPutK dPutW putK
  by_cases h : (kvs.any fun kv => decide (kv.1 = k)) = true
  · have h' : kD k ∈ (kvs.map fun kv => kD kv.1) := (mem_key kD_inj k kvs).mpr h
    rw [if_pos h', if_pos h', if_pos h]
    exact ⟨(put_keys (g := kD) k v kvs).symm, put_map kD_inj hv r⟩
  · have h' : ¬ kD k ∈ (kvs.map fun kv => kD kv.1) := fun z => h ((mem_key kD_inj k kvs).mp z)
    rw [if_neg h', if_neg h', if_neg h]
    rw [List.map_append, List.map_append]
    exact ⟨rfl, r.append (.cons hv .nil)⟩
theorem Go.rds {K : Fg} {P0 P1 P2 : Ad} {H H' : Hp} (g : Go P0 P1 P2 H H') (s : ∀ a, P0 a → P1 a) {vs : List V} {ds : List D} (h : RDs K H P1 vs ds) : RDs K H' P2 vs ds := h.go g s
theorem set_at_ok {K : Fg} {B : Nat → Bool} {Y : Ad} {H : Hp} {σ : L2.St} {env : AEnv} {o i v : V} {d k : D} {j : Nat} {N : AEnv → Prop} {Q : Hp → Prop} (rep : Rep K Y H σ env) (ho : σ[j]? = some (some o)) (hk : RC K H (Pw Y σ env) i k) (hv : RD K H (Pw Y σ env) v d)
    (q : setAt j k d env N) (fin : ∀ H' env', Rep K Y H' σ env' → AdvS B σ Y env H Y σ env' H' → N env' → Q H') : rSetL o i v H Q ∨ rSetD o i v H Q := by
  unfold setAt at q
  match w : env[j]?, k, hk, q with
  | some (.own (.lst l)), .int z, hk, q =>
    obtain ⟨m, hm, q⟩ := q
    obtain ⟨p, hp, np, us, hu, r, hl⟩ := rep.own j _ w
    rw [ho] at hp; cases hp
    obtain ⟨a, b⟩ := rep.mut (B := B) (o := .lst (us.set m v)) (d1 := .lst (l.set m d)) w ho fun P pw g => ⟨_, upd_same, Go.rds g (fun a e => by subst e; exact .inr ⟨j, _, w, ho⟩) (r.set hv m), by rw [List.length_set]; exact hl⟩
    exact .inl ⟨p, us, z, m, rfl, hk.int, hu, by rw [r.length]; exact hm, fin _ _ a b q⟩
  | some (.own (.dic ks vs)), k, hk, q =>
    obtain ⟨hkey, hz, q⟩ := q
    obtain ⟨ky, rfl⟩ := isKey_of hkey
    obtain ⟨p, hp, np, kvs, hu, ek, r⟩ := rep.own j _ w
    rw [ho] at hp; cases hp
    subst ek
    obtain ⟨e1, r2⟩ := dput_ok (k := ky) r hv
    obtain ⟨a, b⟩ := rep.mut (B := B) (o := .dK (putK kvs ky v)) (d1 := .dic (dPutK (kvs.map fun kv => kD kv.1) (kD ky)) (dPutW (kvs.map fun kv => kD kv.1) vs (kD ky) d)) w ho fun P pw g => ⟨_, upd_same, e1, Go.rds g (fun a e => by subst e; exact .inr ⟨j, _, w, ho⟩) r2⟩
    refine .inr ⟨p, _, rfl, .inl ⟨kvs, ky, hu, hk.key, by simpa using hz, rfl⟩, fin _ _ a b q⟩
theorem PSet.or {X : Cx} {r r' : V → V → V → Hp → (Hp → Prop) → Prop} (h : PSet X r) (h' : PSet X r') : PSet X (fun o i v H Q => r o i v H Q ∨ r' o i v H Q) := fun pins s σ H o i v ov iv u Q I ro ri rv q => q.elim (h pins s σ H o i v ov iv u Q I ro ri rv) (h' pins s σ H o i v ov iv u Q I ro ri rv)
section
variable {X : Cx} {B : Nat → Bool} {pos : Pos}
theorem ag_sub {o i : Expr} {fo fi : AE'} {k : Nat} (hr : Room k X.A) (ho : AE X o fo) (hi : AE X i fi)
    (ha : ∀ v, assign (.Subscript o i pos) X.env v = (do
      let ov ← holding [v] (eval o X.env)
      let iv ← holding [v, ov] (eval i X.env)
      standAt pos
      holding [v, ov, iv] (setItem ov iv v)
      release [v, ov, iv] []) := by intro _; rfl) : AG X B (.Subscript o i pos) (agSub fo fi) := by
  obtain ⟨t1, p1, s1⟩ := ho
  obtain ⟨t2, p2, s2⟩ := hi
  refine ⟨_, pg_sub p1 p2 (PSet.or set_list (set_dict (by have := hr.un; omega))) ha, fun Y H σ env v d N Q rep rd q k => ?_⟩
  refine s1 Y H σ env _ _ rep q fun ov H1 env1 r1 Y1 rep1 g1 ok1 q1 => ?_
  refine s2 Y1 H1 σ env1 _ _ rep1 q1 fun iv H2 env2 r2 Y2 rep2 g2 ok2 q2 => ?_
  obtain ⟨ky, e2, c2⟩ := ok2.rc rep2
  have gg := g1.trans g2
  have repY := rep2.less gg.yu
  simp only [e2] at q2
  match r1, ok1, q2 with
  | .at j, ok1, q2 =>
    refine set_at_ok (B := B) repY ok1.2.1 (c2.less (pw_less gg.yu)) (gg.drop.rd rd) q2 fun H' env' rep' g' q' => k H' σ env' rep' (gg.drop.toS.trans rep g') q'
/-- target = value, the value as data -/
def aAsg (a : AE') (g : AG') : AS' := fun A env => aFrz a env fun r env1 => match r with
  | .dat d => g d env1 A.nx
  | _ => False
theorem as_asg {tg e : Expr} {a : AE'} {g : AG'} (he : AE X e a) (hg : AG X B tg g) (hs : swapsWithSole [tg] e pos.line X.env = pure false := by rfl) (hw : swappedStores [tg] e X.env = pure none := by rfl)
    (h1 : (assignEach [tg] X.env).map (·.2) = [assign tg X.env] := by rfl) : AS X B (.Assign [tg] e pos) (aAsg a g) := by
  obtain ⟨t1, p1, s1⟩ := he.frz
  obtain ⟨t2, p2, s2⟩ := hg
  refine ⟨_, ps_asg p1 p2 hs hw h1, fun Y H σ env D A rep q k => ?_⟩
  refine s1 Y H σ env _ _ rep q fun v H1 env1 r1 Y1 rep1 g1 ok1 q1 => ?_
  match r1, ok1, q1 with
  | .dat d, ok1, q1 =>
    obtain ⟨ey, rd⟩ := ok1
    subst ey
    exact s2 Y1 H1 σ env1 v d _ _ rep1 rd q1 fun H2 σ2 env2 rep2 g2 q2 => k.nx H2 σ2 env2 rep2 (g1.toS.trans rep g2) q2
end
end AL
namespace AL
open PySem L2
/-! AL9: what a for walks, for, comprehensions. -/
/-- a walk yields these items as long as what stayed data stays data -/
def WalkOk (K : Fg) (J : It) (H : Hp) (P : Ad) (items : List D) : Prop := ∀ (P0 P2 : Ad) (H2 : Hp), (∀ a, P0 a → P a) → Go P0 P P2 H H2 → (∀ a, P2 a → ∃ o, H2 a = some o) →
  (∀ i, i < items.length → J.go i H2 ∧ ∀ x H3, J.yld i H2 x H3 → Same H2 H3 ∧ ∃ d, items[i]? = some d ∧ RD K H3 P2 x d) ∧ J.stop items.length H2
abbrev AI' := AEnv → (List D → AEnv → Prop) → Prop
def SndI (K : Fg) (wi : TI) (a : AI') : Prop := ∀ (Y : Ad) (H : Hp) (σ : L2.St) (env : AEnv) (R : List D → AEnv → Prop) (Q : It → Hp → Prop), Rep K Y H σ env → a env R →
  (∀ J H' env' items, Rep K Y H' σ env' → Adv σ Y env H Y env' H' → WalkOk K J H' (Pw Y σ env') items → R items env' → Q J H') → wi σ H Q
def AI (X : Cx) (tg e : Expr) (a : AI') : Prop := ∃ t, PI X tg e t ∧ SndI X.K t a
theorem PI.or {X : Cx} {tg e : Expr} {w w' : TI} (h : PI X tg e w) (h' : PI X tg e w') : PI X tg e (fun σ H R => w σ H R ∨ w' σ H R) := ⟨fun pins s σ H R I q => q.elim (h.run pins s σ H R I) (h'.run pins s σ H R I)⟩
/-- an expression's dict locked behind its evaluation -/
theorem pe_lockv {X : Cx} {e : Expr} {t : TE} (h : PE X e t) : PE X e (fun σ H Q => t σ H fun x H1 => (∃ o kvs d, x = .ref d ∧ H1 d = some (.frz o (.dK kvs)) ∧ Q x H1) ∨ ∃ d kvs, x = .ref d ∧ H1 d = some (.dK kvs) ∧ ∀ od, Q x (upd H1 d (.frz od (.dK kvs)))) := by
  refine ⟨fun pins s σ H Q I q => ?_⟩
  refine thn (h.run pins s σ H _ I q) fun v s1 ⟨x, H1, I1, r1, q1⟩ => ?_
  rcases q1 with ⟨o, kvs, d, e1, _, q1⟩ | ⟨d, kvs, e1, hd, q1⟩
  · exact ⟨x, H1, I1, r1, q1⟩
  · obtain ⟨od, I2⟩ := I1.lock hd trivial
    exact ⟨x, _, I2, r1, q1 od⟩
def itemsR (d : D) (R : List D → Prop) : Prop := match d with
  | .lst l => l.length ≤ sizeLine → R l
  | .tup l => l.length ≤ sizeLine → R l
  | .str z => z.cps.toList.length ≤ sizeLine ∧ R (z.cps.toList.map fun c => D.str ⟨#[c]⟩)
  | .dic ks _ => ks.length ≤ sizeLine ∧ R ks
  | _ => False
/-- over a list, a tuple, a text, a dict's keys -/
def aiSeq (a : AE') : AI' := fun env R => aFrz a env fun r env1 => match r with
  | .dat d => itemsR d fun l => R l env1
  | _ => False
section
variable {K : Fg} {H : Hp} {P : Ad}
theorem walk_lst {a : Addr} {us : List V} {ds : List D} (h : SL H P a us) (r : RDs K H P us ds) : WalkOk K (Itl K a) H P ds := by
  intro P0 P2 H2 s g _
  have h2 := g.sl s h
  have r2 := g.rds s r
  refine ⟨fun i hi => ?_, us, h2.sq, by rw [r.length]; exact Nat.le_refl _⟩
  have e : ds[i]? = some ds[i] := by simp [hi]
  obtain ⟨v, hv, rv⟩ := r2.get e
  refine ⟨⟨us, v, h2.sq, hv⟩, fun x H3 y => ?_⟩
  obtain ⟨e3, y⟩ := y
  subst e3
  have hx := y us h2.sq
  rw [hv] at hx; cases hx
  exact ⟨Same.refl _, _, e, rv⟩
theorem walk_tup {a : Addr} {us : List V} {ds : List D} (h : ST K H P a us) (r : RDs K H P us ds) : WalkOk K (Itt K a) H P ds := by
  intro P0 P2 H2 s g _
  have h2 := g.st s h
  have r2 := g.rds s r
  refine ⟨fun i hi => ?_, us, h2.sq, by rw [r.length]; exact Nat.le_refl _⟩
  have e : ds[i]? = some ds[i] := by simp [hi]
  obtain ⟨v, hv, rv⟩ := r2.get e
  refine ⟨⟨us, v, h2.sq, hv⟩, fun x H3 y => ?_⟩
  obtain ⟨e3, y⟩ := y
  subst e3
  have hx := y us h2.sq
  rw [hv] at hx; cases hx
  exact ⟨Same.refl _, _, e, rv⟩
theorem walk_str (z : Str) : WalkOk K (Its z) H P (z.cps.toList.map fun c => D.str ⟨#[c]⟩) := by
  intro P0 P2 H2 s g _
  refine ⟨fun i hi => ?_, by show z.cps.size ≤ _; simp⟩
  have hi' : i < z.cps.size := by simpa using hi
  refine ⟨hi', fun x H3 y => ?_⟩
  obtain ⟨e3, c, hc, rfl⟩ := y
  subst e3
  refine ⟨Same.refl _, .str ⟨#[c]⟩, ?_, .str _⟩
  rw [List.getElem?_map, Array.getElem?_toList, hc]
  rfl
theorem walk_keys {d : Addr} {od : Obj} {kvs : List (Key × V)} (h : H d = some (.frz od (.dK kvs))) (n : ¬ P d) : WalkOk K (Itk d od kvs) H P (kvs.map fun kv => kD kv.1) := by
  intro P0 P2 H2 s g _
  have h2 := (g.at s h n rfl).1
  refine ⟨fun i hi => ?_, h2, by rw [List.length_map]; exact Nat.le_refl _⟩
  have hi' : i < kvs.length := by simpa using hi
  refine ⟨⟨h2, hi'⟩, fun x H3 y => ?_⟩
  obtain ⟨e3, k, v, hk, e⟩ := y
  subst e3
  refine ⟨Same.refl _, kD k, by rw [List.getElem?_map, hk]; rfl, ?_⟩
  subst e
  cases k with
  | inl i => exact .int i
  | inr z => exact .str z
end
/-- a dict that is data is locked -/
theorem Rep.lock {K : Fg} {Y : Ad} {H : Hp} {σ : L2.St} {env : AEnv} {d : Addr} {kvs : List (Key × V)} {od : Obj} (R : Rep K Y H σ env) (h : H d = some (.dK kvs)) (n : ¬ Pw Y σ env d) :
    Rep K Y (upd H d (.frz od (.dK kvs))) σ env ∧ Adv σ Y env H Y env (upd H d (.frz od (.dK kvs))) := by
  have kp : ∀ a u, H a = some u → KeepO u (upd H d (.frz od (.dK kvs))) a := fun a u q => by
    by_cases e : a = d
    · subst e
      rw [h] at q; cases q
      exact .inr ⟨od, rfl, upd_same⟩
    · exact .inl (by rw [upd_ne e]; exact q)
  have g : Go (fun _ => False) (Pw Y σ env) (Pw Y σ env) H (upd H d (.frz od (.dK kvs))) := ⟨fun a u q _ => kp a u q, fun a z => .inl z⟩
  refine ⟨⟨R.len, fun i e q => ?_, fun i e q => ?_, fun a z => ?_, R.inj⟩, ⟨fun a u q _ => kp a u q, fun a z => ?_, fun _ z => z, fun _ z => .inl z, fun i => Sh.refl _, fun a u q => (kp a u q).some⟩⟩
  · obtain ⟨v, w, r⟩ := R.dat i e q
    exact ⟨v, w, r.go g fun _ z => z.elim⟩
  · obtain ⟨p, w, np, r⟩ := R.own i e q
    exact ⟨p, w, np, r.go g (fun _ z => z.elim) (upd_ne fun e' => n (by subst e'; exact .inr ⟨i, e, q, w⟩))⟩
  · obtain ⟨u, q⟩ := R.yin a z
    exact (kp a u q).some
  · exact upd_ne fun e' => n (by subst e'; exact .inl z)
section
variable {X : Cx} {tg e : Expr}
/-- a value that comes is walked: a list, a tuple, a text, a locked dict -/
inductive Seq4 (X : Cx) (H : Hp) : V → It → Prop
  | lst {a : Addr} {us : List V} : SqL X.K H a us → Seq4 X H (.ref a) (Itl X.K a)
  | tup {a : Addr} {us : List V} : SqT X.K H a us → Seq4 X H (.ref a) (Itt X.K a)
  | str (z : Str) : Seq4 X H (.str z) (Its z)
  | dic {a : Addr} {o : Obj} {kvs : List (Key × V)} : H a = some (.frz o (.dK kvs)) → Seq4 X H (.ref a) (Itk a o kvs)
theorem seq4_iter {pins : List (Addr × Obj)} {s : Shared} {σ : L2.St} {H : Hp} {v : V} {u : Value} {J : It} {R : It → Hp → Prop} {E : Value → Shared → Prop} (I : Inv X pins σ H s) (r : RelV v u) (q : Seq4 X H v J) (k : R J H) :
    wpAny (model X.prog X.w) X.A (pyIter u) (PIE X pins σ tg R) E s := by
  cases q with
  | lst h =>
    cases r
    obtain ⟨its, rv, pl, _⟩ := I.list h
    exact wpAny_pyIter_list pl.isList (pi_one I _ (turn_list _ _) ⟨_, Heap.get?_push_size _ rfl, rfl, rfl⟩ k)
  | tup h =>
    cases r
    obtain ⟨its, rv, pl, _⟩ := I.tuple h
    exact wpAny_pyIter_tuple (show s.heap.IsTuple _ its.toArray from pl) (pi_one I _ (turn_tuple _ _) ⟨_, Heap.get?_push_size _ rfl, rfl, rfl⟩ k)
  | str z =>
    obtain ⟨t, rfl⟩ := r
    by_cases asc : z.cps.all (· < 128) = true
    · exact wpAny_pyIter_ascii asc (pi_one I _ (turn_str _ z t _ (.inl rfl)) ⟨_, Heap.get?_push_size _ rfl, rfl, rfl⟩ k)
    · exact wpAny_pyIter_wide (by simpa using asc) (pi_one I _ (turn_str _ z t _ (.inr rfl)) ⟨_, Heap.get?_push_size _ rfl, rfl, rfl⟩ k)
  | dic h =>
    cases r
    obtain ⟨f1, f2, f3, es, ep, vs, f4, f5, f6, f7⟩ := I.frzK h
    refine iter_keys f1 f2 f3 f4 (pi_one I _ (turn_keys _ f4) ⟨_, Heap.get?_push_size _ rfl, rfl, ?_⟩ k)
    rw [f5] <;> rfl
def iSeq4 (X : Cx) (te : TE) : TI := fun σ H R => te σ H fun v H1 => ∃ J H2, ((H2 = H1 ∧ Seq4 X H1 v J ∧ R J H1) ∨ ∃ d kvs, v = .ref d ∧ H1 d = some (.dK kvs) ∧ ∀ od, R (Itk d od kvs) (upd H1 d (.frz od (.dK kvs))))
theorem pi_seq4 {te : TE} (h : PE X e te) : PI X tg e (iSeq4 X te) := by
  refine ⟨fun pins s σ H R I q => ?_⟩
  refine thn (h.run pins s σ H _ I q) fun v s1 ⟨x, H1, I1, r1, J, H2, q1⟩ => ?_
  rcases q1 with ⟨_, sq, k⟩ | ⟨d, kvs, e1, hd, k⟩
  · exact seq4_iter I1 r1 sq k
  · subst e1
    obtain ⟨od, I2⟩ := I1.lock hd trivial
    exact seq4_iter I2 r1 (.dic upd_same) (k od)
theorem ai_seq {a : AE'} (h : AE X e a) : AI X tg e (aiSeq a) := by
  obtain ⟨t, p, s⟩ := h.frz
  refine ⟨_, pi_seq4 p, fun Y H σ env R Q rep q k => ?_⟩
  refine s Y H σ env _ _ rep q fun v H1 env1 r1 Y1 rep1 g1 ok1 q1 => ?_
  match r1, ok1, q1 with
  | .dat d, ok1, q1 =>
    obtain ⟨ey, rd⟩ := ok1
    subst ey
    match d, rd, q1 with
    | .lst l, rd, q1 =>
      cases rd with
      | lst sl r => exact ⟨_, H1, .inl ⟨rfl, .lst sl.sq, k _ H1 env1 l rep1 g1 (walk_lst sl r) (q1 (by rw [← r.length]; exact sl.2.2))⟩⟩
    | .tup l, rd, q1 =>
      cases rd with
      | tup sl r => exact ⟨_, H1, .inl ⟨rfl, .tup sl.sq, k _ H1 env1 l rep1 g1 (walk_tup sl r) (q1 (by rw [← r.length]; exact sl.len))⟩⟩
    | .str z, rd, q1 =>
      cases rd
      exact ⟨_, H1, .inl ⟨rfl, .str z, k _ H1 env1 _ rep1 g1 (walk_str z) q1.2⟩⟩
    | .dic ks vs, rd, q1 =>
      cases rd with
      | dK hr n e1 r =>
        subst e1
        rcases hr with hr | ⟨o, hr⟩
        · refine ⟨Its ⟨#[]⟩, H1, .inr ⟨_, _, rfl, hr, fun od => ?_⟩⟩
          obtain ⟨rep2, g2⟩ := rep1.lock (od := od) hr n
          exact k _ _ env1 _ rep2 (g1.trans g2) (walk_keys upd_same n) q1.2
        · exact ⟨_, H1, .inl ⟨rfl, .dic hr, k _ H1 env1 _ rep1 g1 (walk_keys hr n) q1.2⟩⟩
end

/-! ### ranges -/
def rangeD (lo : Int) (n : Nat) : List D := (List.range n).map fun (i : Nat) => D.int (lo + (i : Int))
theorem walk_range {K : Fg} {H : Hp} {P : Ad} (lo : Int) (n : Nat) : WalkOk K (Itr lo n) H P (rangeD lo n) := by
  intro P0 P2 H2 s g _
  refine ⟨fun i hi => ?_, by show n ≤ _; simp [rangeD]⟩
  have hi' : i < n := by simpa [rangeD] using hi
  refine ⟨hi', fun x H3 y => ?_⟩
  obtain ⟨e3, rfl⟩ := y
  subst e3
  exact ⟨Same.refl _, .int (lo + i), by simp [rangeD, hi'], .int _⟩
def small62 (j : Int) : Prop := -(2 ^ 62) ≤ j ∧ j < 2 ^ 62
def aiRange1 (t : AA') : AI' := fun env R => t env fun rs env1 => match rs with
  | [.dat (.int j)] => small62 j ∧ R (rangeD 0 j.toNat) env1
  | _ => False
def aiRange2 (t : AA') : AI' := fun env R => t env fun rs env1 => match rs with
  | [.dat (.int i), .dat (.int j)] => small62 i ∧ small62 j ∧ R (rangeD i (j - i).toNat) env1
  | _ => False
section
variable {X : Cx} {tg : Expr}
theorem ai_range1 {a : Expr} {t : AA'} {p pos : Pos} (hg : Gl X "range") (hm : X.mg "range" = none) (ha : AA X [a] t) (hs : starEach [a] X.env = [(false, eval a X.env)] := by rfl) : AI X tg (.Call (.Name "range" p) [a] [] pos) (aiRange1 t) := by
  obtain ⟨u, pa, s⟩ := ha
  refine ⟨_, pi_range1 hg hm pa hs, fun Y H σ env R Q rep q k => ?_⟩
  refine s Y H σ env _ _ rep q fun vs H1 env1 rs rep1 g1 ok q1 => ?_
  match rs, ok, q1 with
  | [.dat (.int j)], .cons h .nil, q1 =>
    obtain ⟨_, rd⟩ := h
    cases rd
    exact ⟨j, rfl, q1.1.1, q1.1.2, k _ H1 env1 _ rep1 g1 (walk_range 0 _) q1.2⟩
theorem ai_range2 {a b : Expr} {t : AA'} {p pos : Pos} (hg : Gl X "range") (hm : X.mg "range" = none) (ha : AA X [a, b] t) (hs : starEach [a, b] X.env = [(false, eval a X.env), (false, eval b X.env)] := by rfl) (hs2 : starEach [b] X.env = [(false, eval b X.env)] := by rfl) : AI X tg (.Call (.Name "range" p) [a, b] [] pos) (aiRange2 t) := by
  obtain ⟨u, pa, s⟩ := ha
  refine ⟨_, pi_range2 hg hm pa hs hs2, fun Y H σ env R Q rep q k => ?_⟩
  refine s Y H σ env _ _ rep q fun vs H1 env1 rs rep1 g1 ok q1 => ?_
  match rs, ok, q1 with
  | [.dat (.int i), .dat (.int j)], .cons h (.cons h2 .nil), q1 =>
    obtain ⟨_, rd⟩ := h
    obtain ⟨_, rd2⟩ := h2
    cases rd
    cases rd2
    exact ⟨i, j, rfl, ⟨q1.1.1, q1.1.2, q1.2.1.1, q1.2.1.2⟩, k _ H1 env1 _ rep1 g1 (walk_range i _) q1.2.2⟩
end

/-! ### for -/
def forL (g : AG') (b : AS') (A : AEnds) : List D → AEnv → Prop
  | [], env => A.nx env
  | d :: ds, env => g d env fun env1 => b { nx := forL g b A ds, ct := forL g b A ds, bk := A.nx, rt := A.rt } env1
def aFor (ai : AI') (g : AG') (b : AS') : AS' := fun A env => ai env fun items env1 => forL g b A items env1
theorem as_for {X : Cx} {B : Nat → Bool} {tg iter : Expr} {body : List Stmt} {ai : AI'} {g : AG'} {b : AS'} {pos : Pos} (hp : PassesOwn (model X.prog X.w) X.A X.env X.xe) (hc : X.calm = true) (hi : AI X tg iter ai) (hg : AG X B tg g) (hb : ASs X B body b)
    (hs : ∀ x, foldedSetIterable iter X.env x = pure x := by intro _; rfl) : AS X B (.For tg iter body [] pos) (aFor ai g b) := by
  obtain ⟨wi, pI, sI⟩ := hi
  obtain ⟨tg', pG, sG⟩ := hg
  obtain ⟨tb, pB, sB⟩ := hb
  refine ⟨_, ps_for hp hc pI pG pB hs, fun Y H0 σ0 env0 D A rep0 q k => ?_⟩
  refine sI Y H0 σ0 env0 _ _ rep0 q fun J H1 env1 items rep1 g1 walk q1 => ?_
  -- the base of the loop: (σ0, env1, H1)
  have kb := k.after rep0 g1.toS
  refine ⟨fun i m σ H => ∃ env, m = items.length - i ∧ i ≤ items.length ∧ Rep X.K Y H σ env ∧ AdvS B σ0 Y env1 H1 Y σ env H ∧ forL g b A (items.drop i) env, ⟨_, env1, rfl, Nat.zero_le _, rep1, AdvS.refl, q1⟩, ?_⟩
  rintro i m σ H ⟨env, rfl, hi, rep, adv, q⟩
  have wk := walk (Own σ0 env1) (Pw Y σ env) H (fun a z => .inr z) (adv.go rep1) fun a z => by
    rcases z with z | ⟨j, d, e, w⟩
    · exact rep.yin a z
    · obtain ⟨p, hp, _, r⟩ := rep.own j d e
      rw [w] at hp; cases hp
      obtain ⟨o, e, _⟩ := r.some
      exact ⟨o, e⟩
  by_cases hlt : i < items.length
  · obtain ⟨hgo, hy⟩ := wk.1 i hlt
    refine .inr ⟨hgo, fun σ' H' => ∃ env', Rep X.K Y H' σ' env' ∧ AdvS B σ0 Y env1 H1 Y σ' env' H' ∧ forL g b A (items.drop (i + 1)) env', fun σ' H' ⟨env', r', a', q'⟩ => ⟨_, by omega, env', rfl, hlt, r', a', q'⟩, fun x H3 y => ?_⟩
    obtain ⟨same, d, hd, rd⟩ := hy x H3 y
    have e : items.drop i = d :: items.drop (i + 1) := by
      rw [List.drop_eq_getElem_cons hlt]
      rw [List.getElem?_eq_getElem hlt] at hd
      rw [Option.some.inj hd]
    rw [e] at q
    have rep3 : Rep X.K Y H3 σ env := rep.same same
    have adv3 : AdvS B σ0 Y env1 H1 Y σ env H3 := adv.trans rep1 (Adv.same rep same).toS
    refine sG Y H3 σ env x d _ _ rep3 rd q fun H4 σ4 env4 rep4 g4 q4 => ?_
    have adv4 := adv3.trans rep1 g4
    refine sB Y H4 σ4 env4 _ _ rep4 q4 ⟨fun H5 σ5 env5 r5 a5 q5 => ⟨env5, r5, adv4.trans rep1 a5, q5⟩, fun v H5 σ5 env5 r Y5 r5 a5 ok5 q5 => kb.rt v H5 σ5 env5 r Y5 r5 (adv4.trans rep1 a5) ok5 q5,
      fun H5 σ5 env5 r5 a5 q5 => kb.nx H5 σ5 env5 r5 (adv4.trans rep1 a5) q5, fun H5 σ5 env5 r5 a5 q5 => ⟨env5, r5, adv4.trans rep1 a5, q5⟩⟩
  · have e : i = items.length := by omega
    subst e
    rw [List.drop_length] at q
    exact .inl ⟨wk.2, kb.nx H σ env rep adv q⟩
end AL
namespace AL
open PySem L2
/-! AL10: comprehensions. -/
def wipeE (env : AEnv) : List Nat → AEnv
  | [] => env
  | v :: vs => (wipeE env vs).set v .un
theorem wipeE_len (env : AEnv) : ∀ vs : List Nat, (wipeE env vs).length = env.length
  | [] => rfl
  | v :: vs => by unfold wipeE; rw [List.length_set, wipeE_len env vs]
theorem wipeE_out {env : AEnv} {i : Nat} : ∀ {vs : List Nat}, i ∉ vs → (wipeE env vs)[i]? = env[i]?
  | [], _ => rfl
  | v :: vs, h => by
    unfold wipeE
    rw [List.getElem?_set_ne (fun e => h (by simp [e])), wipeE_out (fun z => h (by simp [z]))]
theorem wipeE_in {env : AEnv} {i : Nat} : ∀ {vs : List Nat} {a : AV}, i ∈ vs → (wipeE env vs)[i]? = some a → a = .un
  | v :: vs, a, h, e => by
    unfold wipeE at e
    by_cases z : v = i
    · subst z
      by_cases hl : v < (wipeE env vs).length
      · rw [List.getElem?_set_self hl] at e
        exact (Option.some.inj e).symm
      · rw [List.getElem?_eq_none (by rw [List.length_set]; omega)] at e; cases e
    · rw [List.getElem?_set_ne z] at e
      exact wipeE_in (by rcases List.mem_cons.mp h with y | y; exact absurd y.symm z; exact y) e
theorem wipe_out {σ : L2.St} {i : Nat} : ∀ {vs : List Nat}, i ∉ vs → (wipe σ vs)[i]? = σ[i]?
  | [], _ => rfl
  | v :: vs, h => by
    unfold wipe
    rw [List.getElem?_set_ne (fun e => h (by simp [e])), wipe_out (fun z => h (by simp [z]))]
theorem wipe_in {σ : L2.St} {i : Nat} : ∀ {vs : List Nat}, i ∈ vs → (wipe σ vs)[i]? = if i < σ.length then some none else none
  | v :: vs, h => by
    unfold wipe
    by_cases z : v = i
    · subst z
      by_cases hl : v < σ.length
      · rw [if_pos hl, List.getElem?_set_self (by rw [wipe_length]; exact hl)]
      · rw [if_neg hl, List.getElem?_eq_none (by rw [List.length_set, wipe_length]; omega)]
    · rw [List.getElem?_set_ne z]
      exact wipe_in (by rcases List.mem_cons.mp h with y | y; exact absurd y.symm z; exact y)
theorem wipe_eq {σ σ2 : L2.St} {vs : List Nat} (hl : σ2.length = σ.length) (h : ∀ i, i ∉ vs → σ2[i]? = σ[i]?) : wipe σ2 vs = wipe σ vs := by
  apply List.ext_getElem?
  intro i
  by_cases m : i ∈ vs
  · rw [wipe_in m, wipe_in m, hl]
  · rw [wipe_out m, wipe_out m, h i m]
theorem wipe_wipe (σ : L2.St) (vs : List Nat) : wipe (wipe σ vs) vs = wipe σ vs := wipe_eq (wipe_length σ vs) fun i h => wipe_out h
def noOwn (env : AEnv) (vs : List Nat) : Prop := ∀ v ∈ vs, ∀ d, env[v]? ≠ some (.own d)
/-- a target that stores at these slots alone -/
def GLoc (vs : List Nat) (g : AG') : Prop := ∀ d env N, noOwn env vs → g d env N → g d env (fun env' => N env' ∧ (∀ i, i ∉ vs → env'[i]? = env[i]?) ∧ noOwn env' vs)
def GLocs (vs : List Nat) (g : AGs') : Prop := ∀ d env N, noOwn env vs → g d env N → g d env (fun env' => N env' ∧ (∀ i, i ∉ vs → env'[i]? = env[i]?) ∧ noOwn env' vs)
theorem gloc_name {vs : List Nat} {j : Nat} (h : j ∈ vs := by decide) : GLoc vs (agName j) := fun d env N no q => ⟨q, fun i hi => List.getElem?_set_ne (fun (e : j = i) => hi (by rw [← e]; exact h)), fun v hv d' => by
  by_cases e : j = v
  · subst e
    by_cases hl : j < env.length
    · rw [List.getElem?_set_self hl]
      intro z; cases z
    · rw [List.getElem?_eq_none (by rw [List.length_set]; omega)]
      intro z; cases z
  · rw [List.getElem?_set_ne e]
    exact no v hv d'⟩
theorem gloc_nil {vs : List Nat} : GLocs vs agNil := fun d env N no q => ⟨q.1, q.2, fun _ _ => rfl, no⟩
theorem AGmono {X : Cx} {B : Nat → Bool} {tg : Expr} {a : AG'} (h : AG X B tg a) : True := trivial
/-- targets are monotone -/
def GMono (g : AG') : Prop := ∀ d env (N N' : AEnv → Prop), (∀ e, N e → N' e) → g d env N → g d env N'
def GMonos (g : AGs') : Prop := ∀ d env (N N' : AEnv → Prop), (∀ e, N e → N' e) → g d env N → g d env N'
theorem gmono_name (j : Nat) : GMono (agName j) := fun d env N N' h q => h _ q
theorem gmono_nil : GMonos agNil := fun d env N N' h q => ⟨q.1, h _ q.2⟩
theorem gmono_cons {a : AG'} {b : AGs'} (ha : GMono a) (hb : GMonos b) : GMonos (agCons a b) := fun d env N N' h q => by
  match d, q with
  | d :: r, q => exact ha d env _ _ (fun e q' => hb r e _ _ h q') q
theorem gmono_tup {n : Nat} {a : AGs'} (ha : GMonos a) : GMono (agTup n a) := fun d env N N' h q => by
  match d, q with
  | .tup ds, q => exact ⟨q.1, ha ds env _ _ h q.2⟩
  | .lst ds, q => exact ⟨q.1, ha ds env _ _ h q.2⟩
theorem gloc_cons {vs : List Nat} {a : AG'} {b : AGs'} (ha : GLoc vs a) (hb : GLocs vs b) (ma : GMono a) (mb : GMonos b) : GLocs vs (agCons a b) := fun d env N no q => by
  match d, q with
  | d :: r, q =>
    refine ma d env _ _ (fun e q' => ?_) (ha d env _ no q)
    exact mb r e _ _ (fun e2 q2 => ⟨q2.1, fun i hi => (q2.2.1 i hi).trans (q'.2.1 i hi), q2.2.2⟩) (hb r e _ q'.2.2 q'.1)
theorem gloc_tup {vs : List Nat} {n : Nat} {a : AGs'} (h : GLocs vs a) : GLoc vs (agTup n a) := fun d env N no q => by
  match d, q with
  | .tup ds, q => exact ⟨q.1, h ds env N no q.2⟩
  | .lst ds, q => exact ⟨q.1, h ds env N no q.2⟩
/-! ### tests of a clause -/
def atYes : AT' := fun env R => R true env
def ATs (X : Cx) (ifs : List Expr) (a : AT') : Prop := ∃ t, PTs X ifs t ∧ SndT X.K t a
theorem ats_nil {X : Cx} : ATs X [] atYes := ⟨_, pts_nil, fun Y H σ env R Q rep q k => k true H env rep Adv.refl q⟩
theorem ats_one {X : Cx} {c : Expr} {t : AT'} (h : AT X c t) : ATs X [c] t := let ⟨u, p, s⟩ := h; ⟨u, pts_one p, s⟩
/-! ### the reading -/
def lcL (g : AG') (t : AT') (e : AE') (vs : List Nat) : List D → (List D → AEnv → Prop) → AEnv → Prop
  | [], R, env => R [] env
  | d :: ds, R, env => g d env fun env1 => t env1 fun b env2 => brP b (aFrz e env2 (fun r env3 => match r with
      | .dat z => lcL g t e vs ds (fun zs env4 => R (z :: zs) env4) (wipeE env3 vs)
      | _ => False)) (lcL g t e vs ds R (wipeE env2 vs))
/-- the block's names stand as they stood ahead -/
def restoreE (env1 : AEnv) (env : AEnv) : List Nat → AEnv
  | [] => env
  | v :: vs => match env1[v]? with
    | some a => (restoreE env1 env vs).set v a
    | none => restoreE env1 env vs
def aLc (ai : AI') (g : AG') (t : AT') (e : AE') (vs : List Nat) : AE' := fun env R => ai env fun items env1 => noOwn env1 vs ∧ items.length ≤ sizeLine ∧ lcL g t e vs items (fun zs env2 => R (.new (.lst zs)) (restoreE env1 env2 vs)) (wipeE env1 vs)
theorem restoreE_len (env1 env : AEnv) : ∀ vs : List Nat, (restoreE env1 env vs).length = env.length
  | [] => rfl
  | v :: vs => by
    unfold restoreE
    split
    · rw [List.length_set, restoreE_len env1 env vs]
    · exact restoreE_len env1 env vs
theorem restoreE_out {env1 env : AEnv} {i : Nat} : ∀ {vs : List Nat}, i ∉ vs → (restoreE env1 env vs)[i]? = env[i]?
  | [], _ => rfl
  | v :: vs, h => by
    have hv : v ≠ i := fun e => h (by simp [e])
    have hi : i ∉ vs := fun z => h (by simp [z])
    unfold restoreE
    split
    · rw [List.getElem?_set_ne hv, restoreE_out hi]
    · exact restoreE_out hi
theorem restoreE_in {env1 env : AEnv} (hl : env.length = env1.length) {i : Nat} : ∀ {vs : List Nat}, i ∈ vs → (restoreE env1 env vs)[i]? = env1[i]?
  | v :: vs, h => by
    unfold restoreE
    by_cases z : v = i
    · subst z
      cases w : env1[v]? with
      | none =>
        simp only
        have : env1.length ≤ v := List.getElem?_eq_none_iff.mp w
        exact List.getElem?_eq_none (by rw [restoreE_len]; omega)
      | some a =>
        simp only
        have : v < env1.length := (List.getElem?_eq_some_iff.mp w).1
        rw [List.getElem?_set_self (by rw [restoreE_len]; omega)]
    · have hi : i ∈ vs := by
        rcases List.mem_cons.mp h with y | y
        · exact absurd y.symm z
        · exact y
      cases w : env1[v]? with
      | none => exact restoreE_in hl hi
      | some a =>
        simp only
        rw [List.getElem?_set_ne z]
        exact restoreE_in hl hi
section
variable {K : Fg} {B : Nat → Bool} {σ σ2 : L2.St} {Y : Ad} {env : AEnv} {H : Hp} {vs : List Nat}
/-- some slots forgotten -/
theorem Rep.wipe (R : Rep K Y H σ2 env) (hl : σ.length = σ2.length) (h : ∀ i, i ∉ vs → σ[i]? = σ2[i]?) : Rep K Y H σ (wipeE env vs) ∧ (∀ a, Own σ (wipeE env vs) a → Own σ2 env a) := by
  have back : ∀ (j : Nat) (e : AV), (wipeE env vs)[j]? = some e → e ≠ .un → j ∉ vs ∧ env[j]? = some e := fun j e q n => by
    by_cases m : j ∈ vs
    · exact absurd (wipeE_in m q) n
    · exact ⟨m, by rw [wipeE_out m] at q; exact q⟩
  have ow : ∀ a, Own σ (wipeE env vs) a → Own σ2 env a := fun a ⟨j, e, q, w⟩ => by
    obtain ⟨m, q'⟩ := back j _ q (fun z => by cases z)
    exact ⟨j, e, q', by rw [← h j m]; exact w⟩
  have pw : ∀ a, Pw Y σ (wipeE env vs) a → Pw Y σ2 env a := fun a z => z.imp id (ow a)
  refine ⟨⟨by rw [wipeE_len, hl]; exact R.len, fun j e q => ?_, fun j e q => ?_, R.yin, fun j k e f a q1 q2 w1 w2 => ?_⟩, ow⟩
  · obtain ⟨m, q'⟩ := back j _ q (fun z => by cases z)
    obtain ⟨v, w, r⟩ := R.dat j e q'
    exact ⟨v, by rw [h j m]; exact w, r.less pw⟩
  · obtain ⟨m, q'⟩ := back j _ q (fun z => by cases z)
    obtain ⟨p, w, n, r⟩ := R.own j e q'
    exact ⟨p, by rw [h j m]; exact w, n, r.less pw⟩
  · obtain ⟨m1, q1'⟩ := back j _ q1 (fun z => by cases z)
    obtain ⟨m2, q2'⟩ := back k _ q2 (fun z => by cases z)
    rw [h j m1] at w1
    rw [h k m2] at w2
    exact R.inj j k e f a q1' q2' w1 w2
/-- a borrowed thing of the caller's changes: nothing here speaks of it -/
theorem Rep.updY {p : Addr} {o : HO} (R : Rep K Y H σ env) (hp : Y p) : Rep K Y (upd H p o) σ env := by
  have g : Go (fun a => a = p) (Pw Y σ env) (Pw Y σ env) H (upd H p o) := ⟨fun a u q n => .inl (by rw [upd_ne n]; exact q), fun a z => .inl z⟩
  have sub : ∀ a, a = p → Pw Y σ env a := fun a e => by subst e; exact .inl hp
  refine ⟨R.len, fun j e q => ?_, fun j e q => ?_, fun a z => ?_, R.inj⟩
  · obtain ⟨v, w, r⟩ := R.dat j e q
    exact ⟨v, w, r.go g sub⟩
  · obtain ⟨p', w, n, r⟩ := R.own j e q
    exact ⟨p', w, n, r.go g sub (upd_ne fun e' => n (by rw [e']; exact hp))⟩
  · by_cases e : a = p
    · subst e; exact ⟨o, upd_same⟩
    · obtain ⟨u, q⟩ := R.yin a z
      exact ⟨u, by rw [upd_ne e]; exact q⟩
end

/-- the relation to the base of a block, which the new list does not touch -/
structure Bk (σ : L2.St) (Y : Ad) (env1 : AEnv) (H1 : Hp) (σw : L2.St) (vs : List Nat) (env : AEnv) (H : Hp) : Prop where
  keep : ∀ a o, H1 a = some o → ¬ Own σ env1 a → KeepO o H a
  ky : ∀ a, Y a → H a = H1 a
  ow : ∀ a, Own σw env a → Own σ env1 a
  live : ∀ a o, H1 a = some o → ∃ o', H a = some o'
  sh : ∀ i, i ∉ vs → Sh env1[i]? env[i]?
section
variable {K : Fg} {σ σw σ2 : L2.St} {Y : Ad} {env1 env env2 : AEnv} {H1 H H2 : Hp} {vs : List Nat} {L : Addr}
theorem Bk.step {B : Nat → Bool} (b : Bk σ Y env1 H1 σw vs env H) (R : Rep K (fun a => Y a ∨ a = L) H σw env) (g : AdvS B σw (fun a => Y a ∨ a = L) env H (fun a => Y a ∨ a = L) σ2 env2 H2) (ow2 : ∀ a, Own σ2 env2 a → Own σw env a) (sh2 : ∀ i, i ∉ vs → Sh env[i]? env2[i]?) : Bk σ Y env1 H1 σ2 vs env2 H2 := by
  refine ⟨fun a o h n => (b.keep a o h n).trans fun u q => g.keep a u q fun z => n (b.ow a z), fun a z => (g.ky a (.inl z)).trans (b.ky a z), fun a z => b.ow a (ow2 a z), fun a o h => ?_, fun i hi => (b.sh i hi).trans (sh2 i hi)⟩
  obtain ⟨o', w⟩ := b.live a o h
  exact g.live a o' w
theorem Bk.upd {o : HO} (b : Bk σ Y env1 H1 σw vs env H) (n : H1 L = none) (R1 : Rep K Y H1 σ env1) : Bk σ Y env1 H1 σw vs env (upd H L o) := by
  have ne : ∀ a u, H1 a = some u → a ≠ L := fun a u q e => by subst e; rw [n] at q; cases q
  refine ⟨fun a u h w => ?_, fun a z => ?_, b.ow, fun a u h => ?_, b.sh⟩
  · rcases b.keep a u h w with q | ⟨od, d, q⟩
    · exact .inl (by rw [upd_ne (ne a u h)]; exact q)
    · exact .inr ⟨od, d, by rw [upd_ne (ne a u h)]; exact q⟩
  · obtain ⟨u, q⟩ := R1.yin a z
    rw [upd_ne (ne a u q)]
    exact b.ky a z
  · obtain ⟨o', w⟩ := b.live a u h
    exact ⟨o', by rw [upd_ne (ne a u h)]; exact w⟩
theorem Bk.go (b : Bk σ Y env1 H1 σw vs env H) (n : H1 L = none) : Go (Own σ env1) (Pw Y σ env1) (Pw (fun a => Y a ∨ a = L) σw env) H1 H := by
  refine ⟨b.keep, fun a z => ?_⟩
  rcases z with (z | z) | z
  · exact .inl (.inl z)
  · subst z; exact .inr n
  · exact .inl (.inr (b.ow a z))
end
theorem adv_at {X : Cx} : True := trivial
theorem snd_lc {K : Fg} {wi : TI} {g : TG} {tt : TT} {te : TE} {ai : AI'} {ag : AG'} {at' : AT'} {e : AE'} {vs : List Nat} (hi : SndI K wi ai) (hg : SndG K (fun i => !decide (i ∈ vs)) g ag) (hl : GLoc vs ag) (ht : SndT K tt at') (he : Snd K te e) :
    Snd K (tLc wi g tt te vs) (aLc ai ag at' e vs) := by
  intro Y H0 σ env0 R Q rep0 q k
  refine hi Y H0 σ env0 _ _ rep0 q fun J H1 env1 items rep1 g1 walk q1 => ?_
  obtain ⟨no, hlen, q1⟩ := q1
  intro L nL
  have R0 := rep1.wipe (σ := wipe σ vs) (vs := vs) (by rw [wipe_length]) (fun i h => wipe_out h)
  have b0 : Bk σ Y env1 H1 (wipe σ vs) vs (wipeE env1 vs) (upd H1 L (.lst [])) := Bk.upd (K := K) ⟨fun a o h _ => .inl h, fun _ _ => rfl, R0.2, fun a o h => ⟨o, h⟩, fun i h => by rw [wipeE_out h]; exact Sh.refl _⟩ nL rep1
  have repL0 : Rep K (fun a => Y a ∨ a = L) (upd H1 L (.lst [])) (wipe σ vs) (wipeE env1 vs) := R0.1.grow (fun a z => z.imp id fun e => by rw [e]; exact nL) (upd_keep nL) fun a z => by
    rcases z with z | z
    · obtain ⟨u, q⟩ := R0.1.yin a z
      exact ⟨u, upd_keep nL a u q⟩
    · subst z; exact ⟨_, upd_same⟩
  refine ⟨fun i m H => ∃ env zs acc, m = items.length - i ∧ i ≤ items.length ∧ Rep K (fun a => Y a ∨ a = L) H (wipe σ vs) env ∧ Bk σ Y env1 H1 (wipe σ vs) vs env H ∧ (H L = some (.lst acc) ∧ RDs K H (Pw (fun a => Y a ∨ a = L) (wipe σ vs) env) acc zs ∧ zs.length ≤ i) ∧ (∀ v ∈ vs, ∀ a, env[v]? = some a → a = .un) ∧
    lcL ag at' e vs (items.drop i) (fun ds env2 => R (.new (.lst (zs ++ ds))) (restoreE env1 env2 vs)) env, ⟨_, wipeE env1 vs, [], [], rfl, Nat.zero_le _, repL0, b0, ⟨upd_same, .nil, Nat.le_refl _⟩, fun v hv a z => wipeE_in hv z, q1⟩, ?_⟩
  rintro i m H ⟨env, zs, acc, rfl, hi', rep, bk, ⟨hL, rz, lz⟩, bk0, q⟩
  have wk := walk (Own σ env1) (Pw (fun a => Y a ∨ a = L) (wipe σ vs) env) H (fun a z => .inr z) (bk.go nL) fun a z => by
    rcases z with z | ⟨j, d, e, w⟩
    · exact rep.yin a z
    · obtain ⟨p, hp, _, r⟩ := rep.own j d e
      rw [w] at hp; cases hp
      obtain ⟨o, e, _⟩ := r.some
      exact ⟨o, e⟩
  by_cases hlt : i < items.length
  · obtain ⟨hgo, hy⟩ := wk.1 i hlt
    refine .inr ⟨hgo, fun H' => ∃ env zs acc, Rep K (fun a => Y a ∨ a = L) H' (wipe σ vs) env ∧ Bk σ Y env1 H1 (wipe σ vs) vs env H' ∧ (H' L = some (.lst acc) ∧ RDs K H' (Pw (fun a => Y a ∨ a = L) (wipe σ vs) env) acc zs ∧ zs.length ≤ i + 1) ∧ (∀ v ∈ vs, ∀ a, env[v]? = some a → a = .un) ∧
      lcL ag at' e vs (items.drop (i + 1)) (fun ds env2 => R (.new (.lst (zs ++ ds))) (restoreE env1 env2 vs)) env, fun H' ⟨env, zs, acc, r, b, c, u, q⟩ => ⟨_, by omega, env, zs, acc, rfl, hlt, r, b, c, u, q⟩, fun x H3 y => ?_⟩
    obtain ⟨same, d, hd, rd⟩ := hy x H3 y
    have ed : items.drop i = d :: items.drop (i + 1) := by
      rw [List.drop_eq_getElem_cons hlt]
      rw [List.getElem?_eq_getElem hlt] at hd
      rw [Option.some.inj hd]
    rw [ed] at q
    have rep3 := rep.same same
    have bk3 : Bk σ Y env1 H1 (wipe σ vs) vs env H3 := bk.step (B := fun _ => true) rep (Adv.same rep same).toS (fun _ z => z) fun _ _ => Sh.refl _
    have no0 : noOwn env vs := fun v hv d' z => by
      have := bk0 v hv (.own d') z
      cases this
    refine hg _ H3 (wipe σ vs) env x d _ _ rep3 rd (hl _ _ _ no0 q) fun H4 σ4 env4 rep4 g4 q4 => ?_
    obtain ⟨q4, eq4, no4⟩ := q4
    have st4 : ∀ j, j ∉ vs → σ4[j]? = (wipe σ vs)[j]? := fun j hj => g4.st j (by simp [hj])
    have l4 : σ4.length = (wipe σ vs).length := g4.len
    have w4 : wipe σ4 vs = wipe σ vs := by
      rw [wipe_eq l4 st4, wipe_wipe]
    refine ⟨w4, ?_⟩
    have own4 : ∀ a, Own σ4 env4 a → Own (wipe σ vs) env a := fun a ⟨j, e', q', w'⟩ => by
      by_cases hj : j ∈ vs
      · exact (no4 j hj e' q').elim
      · rw [eq4 j hj] at q'
        rw [st4 j hj] at w'
        exact ⟨j, e', q', w'⟩
    have bk4 : Bk σ Y env1 H1 σ4 vs env4 H4 := bk3.step rep3 g4 own4 fun i hi => by rw [eq4 i hi]; exact Sh.refl _
    have hL4 : H4 L = some (.lst acc) := (g4.ky L (.inr rfl)).trans (same _ _ hL)
    have rz4 := g4.rds rep3 (rz.same same)
    refine ht _ H4 σ4 env4 _ _ rep4 q4 fun b H5 env5 rep5 g5 q5 => ?_
    have bk5 : Bk σ Y env1 H1 σ4 vs env5 H5 := bk4.step (B := fun _ => true) rep4 g5.toS (fun a z => g5.own z) fun i _ => g5.sh i
    have hL5 : H5 L = some (.lst acc) := (g5.ky L (.inr rfl)).trans hL4
    have rz5 := g5.rds rz4
    have back : ∀ {env6 : AEnv} {H6 : Hp}, Rep K (fun a => Y a ∨ a = L) H6 σ4 env6 → Bk σ Y env1 H1 σ4 vs env6 H6 → Rep K (fun a => Y a ∨ a = L) H6 (wipe σ vs) (wipeE env6 vs) ∧ Bk σ Y env1 H1 (wipe σ vs) vs (wipeE env6 vs) H6 ∧ ∀ a, Pw (fun a => Y a ∨ a = L) (wipe σ vs) (wipeE env6 vs) a → Pw (fun a => Y a ∨ a = L) σ4 env6 a := fun {env6 H6} r b => by
      obtain ⟨r', o'⟩ := r.wipe (σ := wipe σ vs) (vs := vs) l4.symm fun i hi => (st4 i hi).symm
      exact ⟨r', ⟨b.keep, b.ky, fun a z => b.ow a (o' a z), b.live, fun i hi => by rw [wipeE_out hi]; exact b.sh i hi⟩, fun a z => z.imp id (o' a)⟩
    cases b with
    | false =>
      refine iteF ?_
      obtain ⟨r6, b6, p6⟩ := back rep5 bk5
      have q5' : lcL ag at' e vs (items.drop (i + 1)) (fun ds env2 => R (.new (.lst (zs ++ ds))) (restoreE env1 env2 vs)) (wipeE env5 vs) := by simpa using q5
      exact ⟨_, zs, acc, r6, b6, ⟨hL5, rz5.less p6, by omega⟩, fun v hv a z => wipeE_in hv z, q5'⟩
    | true =>
      refine iteT ?_
      have q5' := q5
      simp only [brP_true] at q5'
      refine he.frz _ H5 σ4 env5 _ _ rep5 q5' fun v H6 env6 r6 Y6 rep6 g6 ok6 q6 => ?_
      match r6, ok6, q6 with
      | .dat z, ok6, q6 =>
        obtain ⟨ey, rd6⟩ := ok6
        subst ey
        have bk6 : Bk σ Y env1 H1 σ4 vs env6 H6 := bk5.step (B := fun _ => true) rep5 g6.toS (fun a z => g6.own z) fun i _ => g6.sh i
        have hL6 : H6 L = some (.lst acc) := (g6.ky L (.inr rfl)).trans hL5
        have rz6 := g6.rds rz5
        obtain ⟨r7, b7, p7⟩ := back rep6 bk6
        have gu : Go (fun a => a = L) (Pw (fun a => Y a ∨ a = L) (wipe σ vs) (wipeE env6 vs)) (Pw (fun a => Y a ∨ a = L) (wipe σ vs) (wipeE env6 vs)) H6 (upd H6 L (.lst (acc ++ [v]))) := ⟨fun a u q n => .inl (by rw [upd_ne n]; exact q), fun a z => .inl z⟩
        have su : ∀ a, a = L → Pw (fun a => Y a ∨ a = L) (wipe σ vs) (wipeE env6 vs) a := fun a z => .inl (.inr z)
        have la : acc.length = zs.length := rz.length
        refine ⟨acc, hL6, by omega, wipeE env6 vs, zs ++ [z], acc ++ [v], r7.updY (.inr rfl), b7.upd nL rep1, ⟨upd_same, (((rz6.less p7).append (.cons (rd6.less p7) .nil)).go gu su), by rw [List.length_append]; exact Nat.succ_le_succ lz⟩, fun w hv a z => wipeE_in hv z, ?_⟩
        simpa using q6
  · have ei : i = items.length := by omega
    subst ei
    rw [List.drop_length] at q
    refine .inl ⟨wk.2, ?_⟩
    have q' : R (.new (.lst (zs ++ []))) (restoreE env1 env vs) := q
    rw [List.append_nil] at q'
    have lenE : env.length = env1.length := by rw [← rep.len, wipe_length, rep1.len]
    have backO : ∀ (j : Nat) (d : D), (restoreE env1 env vs)[j]? = some (.own d) → j ∉ vs ∧ env[j]? = some (.own d) := fun j d z => by
      by_cases hj : j ∈ vs
      · rw [restoreE_in lenE hj] at z
        exact (no j hj d z).elim
      · exact ⟨hj, by rw [restoreE_out hj] at z; exact z⟩
    have owf : ∀ a, Own σ (restoreE env1 env vs) a → Own (wipe σ vs) env a := fun a ⟨j, d, z, w⟩ => by
      obtain ⟨hj, z'⟩ := backO j d z
      exact ⟨j, d, z', by rw [wipe_out hj]; exact w⟩
    have pwf : ∀ a, Pw (fun a => Y a ∨ a = L) σ (restoreE env1 env vs) a → Pw (fun a => Y a ∨ a = L) (wipe σ vs) env a := fun a z => z.imp id (owf a)
    have repF : Rep K (fun a => Y a ∨ a = L) H σ (restoreE env1 env vs) := by
      refine ⟨by rw [restoreE_len, lenE]; exact rep1.len, fun j d z => ?_, fun j d z => ?_, rep.yin, fun j k d f a z1 z2 w1 w2 => ?_⟩
      · by_cases hj : j ∈ vs
        · rw [restoreE_in lenE hj] at z
          obtain ⟨v, w, r⟩ := rep1.dat j d z
          exact ⟨v, w, (r.go (bk.go nL) fun a z => .inr z).less pwf⟩
        · rw [restoreE_out hj] at z
          obtain ⟨v, w, r⟩ := rep.dat j d z
          rw [wipe_out hj] at w
          exact ⟨v, w, r.less pwf⟩
      · obtain ⟨hj, z'⟩ := backO j d z
        obtain ⟨p, w, n, r⟩ := rep.own j d z'
        rw [wipe_out hj] at w
        exact ⟨p, w, n, r.less pwf⟩
      · obtain ⟨h1, z1'⟩ := backO j d z1
        obtain ⟨h2, z2'⟩ := backO k f z2
        exact rep.inj j k d f a z1' z2' (by rw [wipe_out h1]; exact w1) (by rw [wipe_out h2]; exact w2)
    have advF : Adv σ Y env1 H1 (fun a => Y a ∨ a = L) (restoreE env1 env vs) H := ⟨bk.keep, bk.ky, fun _ z => .inl z, fun a z => z.imp id fun e => by rw [e]; exact nL, fun j => by
      by_cases hj : j ∈ vs
      · rw [restoreE_in lenE hj]; exact Sh.refl _
      · rw [restoreE_out hj]; exact bk.sh j hj, bk.live⟩
    refine k (.ref L) H (restoreE env1 env vs) (.new (.lst zs)) _ repF (g1.trans advF) ⟨L, rfl, rfl, fun z => ?_, acc, hL, rz.less pwf, ?_⟩ q'
    · rcases z with z | z
      · obtain ⟨u, w⟩ := rep1.yin L z
        rw [nL] at w; cases w
      · obtain ⟨j, d, e', w'⟩ := owf L z
        obtain ⟨p, hp, n, r⟩ := rep.own j d e'
        rw [w'] at hp; cases hp
        exact n (.inr rfl)
    · have la : acc.length = zs.length := rz.length
      omega
end AL
namespace AL
open PySem L2
/-! AL11: comprehensions as expressions; built-in calls and methods by data. -/
def canE (K : Fg) (a : AE') : TE := fun σ H Q => ∃ Y env R, Rep K Y H σ env ∧ a env R ∧ ∀ v H' env' r Y', Rep K Y' H' σ env' → Adv σ Y env H Y' env' H' → ResOk K H' Y Y' σ env' v r → R r env' → Q v H'
def canT (K : Fg) (a : AT') : TT := fun σ H Q => ∃ Y env R, Rep K Y H σ env ∧ a env R ∧ ∀ b H' env', Rep K Y H' σ env' → Adv σ Y env H Y env' H' → R b env' → Q b H'
def canG (K : Fg) (B : Nat → Bool) (a : AG') : TG := fun v σ H Q => ∃ Y env d N, Rep K Y H σ env ∧ RD K H (Pw Y σ env) v d ∧ a d env N ∧ ∀ H' σ' env', Rep K Y H' σ' env' → AdvS B σ Y env H Y σ' env' H' → N env' → Q σ' H'
section
variable {K : Fg} {X : Cx}
theorem snd_canE {a : AE'} : Snd K (canE K a) a := fun Y H σ env R Q rep h k => ⟨Y, env, R, rep, h, k⟩
theorem snd_canT {a : AT'} : SndT K (canT K a) a := fun Y H σ env R Q rep h k => ⟨Y, env, R, rep, h, k⟩
theorem snd_canG {B : Nat → Bool} {a : AG'} : SndG K B (canG K B a) a := fun Y H σ env v d N Q rep rd h k => ⟨Y, env, d, N, rep, rd, h, k⟩
theorem AE.can {e : Expr} {a : AE'} (h : AE X e a) : PE X e (canE X.K a) := by
  obtain ⟨t, p, s⟩ := h
  exact ⟨fun pins s0 σ H Q I ⟨Y, env, R, rep, h', k⟩ => p.run pins s0 σ H Q I (s Y H σ env R Q rep h' k)⟩
theorem ATs.can {e : List Expr} {a : AT'} (h : ATs X e a) : PTs X e (canT X.K a) := by
  obtain ⟨t, p, s⟩ := h
  exact ⟨fun pins s0 σ H Q I ⟨Y, env, R, rep, h', k⟩ => p.run pins s0 σ H Q I (s Y H σ env R Q rep h' k)⟩
theorem AG.can {B : Nat → Bool} {e : Expr} {a : AG'} (h : AG X B e a) : PG X e (canG X.K B a) := by
  obtain ⟨t, p, s⟩ := h
  exact ⟨fun pins s0 σ H v u Q I r ⟨Y, env, d, N, rep, rd, h', k⟩ => p.run pins s0 σ H v u Q I r (s Y H σ env v d N Q rep rd h' k)⟩
end
section
variable {X : Cx} {elt tg iter : Expr} {ifs : List Expr} {scope : Scope} {own : List (Str × Nat)} {pos : Pos} {ai : AI'} {ag : AG'} {t : AT'} {e : AE'}
theorem ae_lc (hc : X.calm = true) (hN : X.N.Nodup) (hi : AI X tg iter ai) (ok : BlkOk X.N X.env.scope scope own) (hl : GLoc (own.map (·.2)) ag)
    (hg : ∀ (s : Shared) (H : Hp) (C : Addr) (cl : List (Str × Addr)) (fp : List Addr), AG (X.blk s H scope (compEnvC scope cl C X.env) fp) (fun i => !decide (i ∈ own.map (·.2))) tg ag)
    (ht : ∀ (s : Shared) (H : Hp) (C : Addr) (cl : List (Str × Addr)) (fp : List Addr), ATs (X.blk s H scope (compEnvC scope cl C X.env) fp) ifs t)
    (he : ∀ (s : Shared) (H : Hp) (C : Addr) (cl : List (Str × Addr)) (fp : List Addr), AE (X.blk s H scope (compEnvC scope cl C X.env) fp) elt e) (hs : ∀ x, foldedSetIterable iter X.env x = pure x := by intro _; rfl) :
    AE X (.ListComp elt [⟨tg, iter, ifs, 0⟩] scope pos) (aLc ai ag t e (own.map (·.2))) := by
  obtain ⟨wi, pI, sI⟩ := hi
  have h1 : ∀ (s : Shared) (H : Hp) (C : Addr) (cl : List (Str × Addr)) (fp : List Addr), PG (X.blk s H scope (compEnvC scope cl C X.env) fp) tg (canG X.K (fun i => !decide (i ∈ own.map (·.2))) ag) := fun s H C cl fp => (hg s H C cl fp).can
  have h2 : ∀ (s : Shared) (H : Hp) (C : Addr) (cl : List (Str × Addr)) (fp : List Addr), PTs (X.blk s H scope (compEnvC scope cl C X.env) fp) ifs (canT X.K t) := fun s H C cl fp => (ht s H C cl fp).can
  have h3 : ∀ (s : Shared) (H : Hp) (C : Addr) (cl : List (Str × Addr)) (fp : List Addr), PE (X.blk s H scope (compEnvC scope cl C X.env) fp) elt (canE X.K e) := fun s H C cl fp => (he s H C cl fp).can
  exact ⟨_, pe_lc (own := own) hc hN pI ok h1 h2 h3 hs, snd_lc sI snd_canG hl snd_canT snd_canE⟩
/-- name = [..] on one line, the name a local -/
theorem as_setLc {B : Nat → Bool} {i : Nat} {y : Str} {py spos : Pos} (hc : X.calm = true) (hN : X.N.Nodup) (hy : X.N[i]? = some y) (hyl : X.env.scope.names.lookup y = some .local)
    (hsw : swapsWith (.ListComp elt [⟨tg, iter, ifs, 0⟩] scope pos) (some (.Name y py)) spos.line X.env = pure true) (hi : AI X tg iter ai) (ok : BlkOk X.N X.env.scope scope own) (hl : GLoc (own.map (·.2)) ag)
    (hg : ∀ (s : Shared) (H : Hp) (C : Addr) (cl : List (Str × Addr)) (fp : List Addr), AG (X.blk s H scope (compEnvC scope cl C X.env) fp) (fun i => !decide (i ∈ own.map (·.2))) tg ag)
    (ht : ∀ (s : Shared) (H : Hp) (C : Addr) (cl : List (Str × Addr)) (fp : List Addr), ATs (X.blk s H scope (compEnvC scope cl C X.env) fp) ifs t)
    (he : ∀ (s : Shared) (H : Hp) (C : Addr) (cl : List (Str × Addr)) (fp : List Addr), AE (X.blk s H scope (compEnvC scope cl C X.env) fp) elt e) (hb : B i = false := by rfl) (hs : ∀ x, foldedSetIterable iter X.env x = pure x := by intro _; rfl) :
    AS X B (.Assign [.Name y py] (.ListComp elt [⟨tg, iter, ifs, 0⟩] scope pos) spos) (aSet i (aLc ai ag t e (own.map (·.2)))) := by
  obtain ⟨wi, pI, sI⟩ := hi
  have h1 : ∀ (s : Shared) (H : Hp) (C : Addr) (cl : List (Str × Addr)) (fp : List Addr), PG (X.blk s H scope (compEnvC scope cl C X.env) fp) tg (canG X.K (fun i => !decide (i ∈ own.map (·.2))) ag) := fun s H C cl fp => (hg s H C cl fp).can
  have h2 : ∀ (s : Shared) (H : Hp) (C : Addr) (cl : List (Str × Addr)) (fp : List Addr), PTs (X.blk s H scope (compEnvC scope cl C X.env) fp) ifs (canT X.K t) := fun s H C cl fp => (ht s H C cl fp).can
  have h3 : ∀ (s : Shared) (H : Hp) (C : Addr) (cl : List (Str × Addr)) (fp : List Addr), PE (X.blk s H scope (compEnvC scope cl C X.env) fp) elt (canE X.K e) := fun s H C cl fp => (he s H C cl fp).can
  refine ⟨_, ps_setLc (own := own) hc hN hy hyl hsw pI ok h1 h2 h3 hs, fun Y H σ env D A rep q k => ?_⟩
  refine snd_lc sI snd_canG hl snd_canT snd_canE Y H σ env _ _ rep q fun v H' env' r Y' rep' g ok q' => ?_
  exact set_ok hb rep g rep' ok q' fun env2 r2 g2 q2 => k.nx H' _ env2 r2 g2 q2
end
/-! ### built-in functions by data -/
abbrev OpN := List D → (RV → Prop) → Prop
def CallS (K : Fg) (r : List V → Hp → VK → Prop) (f : OpN) : Prop := ∀ (Y : Ad) (H : Hp) (σ : L2.St) (env : AEnv) (us : List V) (ds : List D) (F : RV → Prop) (Q : VK), Rep K Y H σ env → RDs K H (Pw Y σ env) us ds → f ds F → Fin K Y H σ env F Q → r us H Q
def aCall (f : OpN) (t : AA') : AE' := fun env R => t env fun rs env1 => match dats rs with
  | some ds => f ds fun z => R z env1
  | none => False
theorem snd_call {K : Fg} {r : List V → Hp → VK → Prop} {f : OpN} {ta : TA} {t : AA'} (o : CallS K r f) (s : SndA K ta t) : Snd K (tCB r ta) (aCall f t) := by
  intro Y H σ env R Q rep q k
  refine s Y H σ env _ _ rep q fun vs H' env' rs rep' g ok q' => ?_
  match w : dats rs, q' with
  | some ds, q' => exact o Y H' σ env' vs ds _ _ rep' (ok.dats w) q' fun v H2 z Y2 rep2 g2 ok2 q2 => k v H2 env' z Y2 rep2 (g.trans g2) ok2 q2
section
variable {X : Cx} {x : Str} {p pos : Pos} {e : Expr} {es : List Expr} {t : AA'} {f : OpN}
theorem ae_callB {id : String} {r : List V → Hp → VK → Prop} (hc : CallR X (.builtin id) r) (o : CallS X.K r f) (hg : Gl X x) (hm : X.mg x = none) (hv : bootBuiltins x = some (.builtin id)) (ha : AA X (e :: es) t) (hn : x ≠ "__name__" := by decide) (hdb : (x == ("__debug__" : Str)) = false := by decide)
    (he : starEach (e :: es) X.env = (false, eval e X.env) :: starEach es X.env := by rfl) (hpl : (backTo pos (starEach es X.env)).any (·.1) = false := by rfl) : AE X (.Call (.Name x p) (e :: es) [] pos) (aCall f t) := by
  obtain ⟨u, pa, s⟩ := ha
  exact ⟨_, pe_callB hc hg hm hv pa hn hdb he hpl, snd_call o s⟩
theorem ae_callTy {T : String} {r : List V → Hp → VK → Prop} (hc : CallR X (.type T) r) (o : CallS X.K r f) (hg : Gl X x) (hm : X.mg x = none) (hv : bootBuiltins x = some (.type T)) (ha : AA X (e :: es) t) (hn : x ≠ "__name__" := by decide) (hdb : (x == ("__debug__" : Str)) = false := by decide)
    (he : starEach (e :: es) X.env = (false, eval e X.env) :: starEach es X.env := by rfl) (hpl : (backTo pos (starEach es X.env)).any (·.1) = false := by rfl) : AE X (.Call (.Name x p) (e :: es) [] pos) (aCall f t) := by
  obtain ⟨u, pa, s⟩ := ha
  exact ⟨_, pe_callTy hc hg hm hv pa hn hdb he hpl, snd_call o s⟩
end
end AL
namespace AL
open PySem L2
/-! AL12: promises of defs over data, and their calls. -/
abbrev ASp := AEnv → (RV → AEnv → Prop) → Prop
def toSp (K : Fg) (S : ASp) : Sp := fun vs H Q _ => ∃ Y avs R, Rep K Y H (vs.map some) avs ∧ S avs R ∧ ∀ v H' r avs' Y', Rep K Y' H' (vs.map some) avs' → AdvS (fun _ => true) (vs.map some) Y avs H Y' (vs.map some) avs' H' →
  (∀ a, Y' a → Y a ∨ H a = none) → ResOk K H' Y Y' (vs.map some) avs' v r → (∀ i, r ≠ .at i) → R r avs' → Q v H'
/-- the parameters' slots behind a call: a lent one as the body left it -/
def outs : AEnv → AEnv → AEnv
  | [], _ => []
  | .own _ :: r, e :: es => e :: outs r es
  | a :: r, _ :: es => a :: outs r es
  | a :: r, [] => a :: r
theorem outs_len : ∀ (a e : AEnv), (outs a e).length = a.length
  | [], _ => rfl
  | .own _ :: r, _ :: es => by simp [outs, outs_len r es]
  | .dat _ :: r, _ :: es => by simp [outs, outs_len r es]
  | .un :: r, _ :: es => by simp [outs, outs_len r es]
  | .own _ :: r, [] => rfl
  | .dat _ :: r, [] => rfl
  | .un :: r, [] => rfl
theorem outs_get : ∀ {a e : AEnv} {i : Nat} {x : AV}, (outs a e)[i]? = some x → a.length ≤ e.length → (∃ d, a[i]? = some (.own d) ∧ e[i]? = some x) ∨ (a[i]? = some x ∧ ∀ d, x ≠ .own d)
  | .own d :: r, y :: es, 0, x, h, _ => by
    simp only [outs, List.getElem?_cons_zero, Option.some.injEq] at h
    subst h
    exact .inl ⟨d, rfl, rfl⟩
  | .dat d :: r, y :: es, 0, x, h, _ => by
    simp only [outs, List.getElem?_cons_zero, Option.some.injEq] at h
    subst h
    exact .inr ⟨rfl, fun d z => by cases z⟩
  | .un :: r, y :: es, 0, x, h, _ => by
    simp only [outs, List.getElem?_cons_zero, Option.some.injEq] at h
    subst h
    exact .inr ⟨rfl, fun d z => by cases z⟩
  | .own d :: r, y :: es, i + 1, x, h, l => by
    simp only [outs, List.getElem?_cons_succ] at h
    simpa using outs_get h (by simpa using l)
  | .dat d :: r, y :: es, i + 1, x, h, l => by
    simp only [outs, List.getElem?_cons_succ] at h
    simpa using outs_get h (by simpa using l)
  | .un :: r, y :: es, i + 1, x, h, l => by
    simp only [outs, List.getElem?_cons_succ] at h
    simpa using outs_get h (by simpa using l)
  | _ :: _, [], _, _, _, l => by simp at l
  | [], _, _, _, h, _ => by simp [outs] at h
theorem outs_sh : ∀ {a e : AEnv} (i : Nat), a.length ≤ e.length → (∀ d, a[i]? = some (.own d) → Sh a[i]? e[i]?) → Sh a[i]? (outs a e)[i]?
  | [], _, i, _, _ => by simp [outs, Sh]
  | .own d :: r, y :: es, 0, _, h => h d rfl
  | .dat d :: r, y :: es, 0, _, h => Sh.refl _
  | .un :: r, y :: es, 0, _, h => Sh.refl _
  | .own d :: r, y :: es, i + 1, l, h => by simpa [outs] using outs_sh i (by simpa using l) (by simpa using h)
  | .dat d :: r, y :: es, i + 1, l, h => by simpa [outs] using outs_sh i (by simpa using l) (by simpa using h)
  | .un :: r, y :: es, i + 1, l, h => by simpa [outs] using outs_sh i (by simpa using l) (by simpa using h)
  | _ :: _, [], _, l, _ => by simp at l
def start0 (n : Nat) (avs : AEnv) : AEnv := avs ++ List.replicate (n - avs.length) .un
section
variable {K : Fg} {σ : L2.St} {Y : Ad} {env avs : AEnv} {H : Hp} {vs : List V}
theorem own_start {N : List Str} (hl : vs.length = avs.length) : ∀ a, Own (L2.start N vs) (start0 N.length avs) a ↔ Own (vs.map some) avs a := fun a => by
  have e1 : ∀ (i : Nat) (d : D), (start0 N.length avs)[i]? = some (.own d) → avs[i]? = some (.own d) := fun i d q => by
    unfold start0 at q
    by_cases h : i < avs.length
    · rwa [List.getElem?_append_left h] at q
    · rw [List.getElem?_append_right (by omega), List.getElem?_replicate] at q
      split at q <;> cases q
  constructor
  · rintro ⟨i, d, q, w⟩
    have q' := e1 i d q
    have h : i < avs.length := (List.getElem?_eq_some_iff.mp q').1
    unfold L2.start at w
    rw [List.getElem?_append_left (by rw [List.length_map]; omega)] at w
    exact ⟨i, d, q', w⟩
  · rintro ⟨i, d, q, w⟩
    have h : i < avs.length := (List.getElem?_eq_some_iff.mp q).1
    refine ⟨i, d, ?_, ?_⟩
    · unfold start0
      rw [List.getElem?_append_left h]; exact q
    · unfold L2.start
      rw [List.getElem?_append_left (by rw [List.length_map]; omega)]; exact w
theorem Rep.start {N : List Str} (R : Rep K Y H (vs.map some) avs) (hN : avs.length ≤ N.length) : Rep K Y H (L2.start N vs) (start0 N.length avs) := by
  have hl : vs.length = avs.length := by simpa using R.len
  have pw : ∀ a, Pw Y (L2.start N vs) (start0 N.length avs) a ↔ Pw Y (vs.map some) avs a := fun a => or_congr Iff.rfl (own_start hl a)
  have e1 : ∀ (i : Nat) (x : AV), (start0 N.length avs)[i]? = some x → x ≠ .un → avs[i]? = some x := fun i x q n => by
    unfold start0 at q
    by_cases h : i < avs.length
    · rwa [List.getElem?_append_left h] at q
    · rw [List.getElem?_append_right (by omega), List.getElem?_replicate] at q
      split at q
      · cases q; exact absurd rfl n
      · cases q
  have s1 : ∀ i, i < avs.length → (L2.start N vs)[i]? = (vs.map some)[i]? := fun i h => by
    unfold L2.start
    rw [List.getElem?_append_left (by rw [List.length_map]; omega)]
  refine ⟨?_, fun i d q => ?_, fun i d q => ?_, R.yin, fun i j d e p q1 q2 w1 w2 => ?_⟩
  · unfold L2.start start0
    simp only [List.length_append, List.length_map, List.length_replicate]
    omega
  · have q' := e1 i _ q (fun z => by cases z)
    obtain ⟨v, w, r⟩ := R.dat i d q'
    exact ⟨v, by rw [s1 i (List.getElem?_eq_some_iff.mp q').1]; exact w, r.less fun a z => (pw a).mp z⟩
  · have q' := e1 i _ q (fun z => by cases z)
    obtain ⟨p, w, n, r⟩ := R.own i d q'
    exact ⟨p, by rw [s1 i (List.getElem?_eq_some_iff.mp q').1]; exact w, n, r.less fun a z => (pw a).mp z⟩
  · have q1' := e1 i _ q1 (fun z => by cases z)
    have q2' := e1 j _ q2 (fun z => by cases z)
    rw [s1 i (List.getElem?_eq_some_iff.mp q1').1] at w1
    rw [s1 j (List.getElem?_eq_some_iff.mp q2').1] at w2
    exact R.inj i j d e p q1' q2' w1 w2
end
theorem RD.ref_not {K : Fg} {H : Hp} {P : Ad} {a : Addr} {d : D} (h : RD K H P (.ref a) d) (o : ownable d = true) : ¬ P a := by
  cases h with
  | tup s r => cases o
  | lst s r => exact s.2.1
  | dK s n e r => exact n
  | dT s n e r => exact n
  | obj s n e r => exact n
  | scr s r => cases o
section
variable {P : Program} {w : World} {K : Fg} {mg : Str → Option Value} {base : Heap}
/-- the end of a body -/
theorem fin_body {N : List Str} {B : Nat → Bool} {vs : List V} {avs : AEnv} {Y Y' : Ad} {H H' : Hp} {σ' : L2.St} {env' : AEnv} {v : V} {r : RV} (R : Rep K Y H (vs.map some) avs) (hN : avs.length ≤ N.length) (hB : ∀ (i : Nat) (d : D), avs[i]? = some (.own d) → B i = true)
    (R' : Rep K Y' H' σ' env') (g : AdvS B (L2.start N vs) Y (start0 N.length avs) H Y' σ' env' H') (hr : ∀ i, r ≠ .at i) (ok : ResOk K H' Y Y' σ' env' v r) :
    Rep K Y' H' (vs.map some) (outs avs env') ∧ AdvS (fun _ => true) (vs.map some) Y avs H Y' (vs.map some) (outs avs env') H' ∧ (∀ a, Y' a → Y a ∨ H a = none) ∧ ResOk K H' Y Y' (vs.map some) (outs avs env') v r := by
  have hl : vs.length = avs.length := by simpa using R.len
  have R0 := R.start hN
  have ow0 := own_start (N := N) hl
  have e0 : ∀ i, i < avs.length → (start0 N.length avs)[i]? = avs[i]? := fun i h => by
    unfold start0
    rw [List.getElem?_append_left h]
  have s0 : ∀ i, i < avs.length → (L2.start N vs)[i]? = (vs.map some)[i]? := fun i h => by
    unfold L2.start
    rw [List.getElem?_append_left (by rw [List.length_map]; omega)]
  have lenE : avs.length ≤ env'.length := by
    rw [← R'.len, g.len, R0.len]
    unfold start0
    rw [List.length_append]
    omega
  have shp : ∀ (i : Nat) (d : D), avs[i]? = some (.own d) → Sh avs[i]? env'[i]? := fun i d q => by
    have h : i < avs.length := (List.getElem?_eq_some_iff.mp q).1
    have := g.pr i (hB i d q)
    rwa [e0 i h] at this
  have sts : ∀ (i : Nat) (d : D), avs[i]? = some (.own d) → σ'[i]? = (vs.map some)[i]? := fun i d q => by
    have h : i < avs.length := (List.getElem?_eq_some_iff.mp q).1
    rw [g.st i (hB i d q), s0 i h]
  have bk : ∀ (i : Nat) (d : D), (outs avs env')[i]? = some (.own d) → (∃ e, avs[i]? = some (.own e)) ∧ env'[i]? = some (.own d) := fun i d q => by
    rcases outs_get q lenE with ⟨e, a, b⟩ | ⟨_, b⟩
    · exact ⟨⟨e, a⟩, b⟩
    · exact absurd rfl (b d)
  have owF : ∀ a, Own (vs.map some) (outs avs env') a → Own σ' env' a := fun a ⟨i, d, q, w⟩ => by
    obtain ⟨⟨e, a1⟩, b1⟩ := bk i d q
    exact ⟨i, d, b1, by rw [sts i e a1]; exact w⟩
  have pwF : ∀ a, Pw Y' (vs.map some) (outs avs env') a → Pw Y' σ' env' a := fun a z => z.imp id (owF a)
  have gd := g.go R0
  have y3 : ∀ a, Y' a → Y a ∨ H a = none := fun a z => by
    rcases g.yn a z with q | q | q
    · exact .inl q
    · exact .inr q
    · exfalso
      obtain ⟨i, d, q1, q2⟩ := (ow0 a).mp q
      have s := shp i d q1
      rw [← sts i d q1] at q2
      rw [q1] at s
      match w : env'[i]?, s with
      | some (.own d'), _ =>
        obtain ⟨p, hp, n, _⟩ := R'.own i d' w
        rw [q2] at hp; cases hp
        exact n z
      | some (.dat d'), s =>
        obtain ⟨u, hu, rd⟩ := R'.dat i d' w
        rw [q2] at hu; cases hu
        exact rd.ref_not s (.inl z)
  refine ⟨⟨by rw [outs_len]; simpa using hl, fun i d q => ?_, fun i d q => ?_, R'.yin, fun i j d e p q1 q2 w1 w2 => ?_⟩, ⟨fun a o h n => g.keep a o h fun z => n ((ow0 a).mp z), g.ky, g.yu, fun a z => (y3 a z).imp id .inl, fun a z => ?_, g.live, fun _ _ => rfl, fun i _ => outs_sh i lenE (shp i), rfl⟩, y3, ?_⟩
  · rcases outs_get q lenE with ⟨e, a1, b1⟩ | ⟨a1, _⟩
    · obtain ⟨u, hu, rd⟩ := R'.dat i d b1
      exact ⟨u, by rw [← sts i e a1]; exact hu, rd.less pwF⟩
    · obtain ⟨u, hu, rd⟩ := R.dat i d a1
      refine ⟨u, hu, ((rd.less (P' := Pw Y (L2.start N vs) (start0 N.length avs)) fun a z => z.imp id (ow0 a).mp).go gd fun _ z => .inr z).less pwF⟩
  · obtain ⟨⟨e, a1⟩, b1⟩ := bk i d q
    obtain ⟨p, hp, n, ro⟩ := R'.own i d b1
    exact ⟨p, by rw [← sts i e a1]; exact hp, n, ro.less pwF⟩
  · obtain ⟨⟨e1, a1⟩, b1⟩ := bk i d q1
    obtain ⟨⟨e2, a2⟩, b2⟩ := bk j e q2
    exact R'.inj i j d e p b1 b2 (by rw [sts i e1 a1]; exact w1) (by rw [sts j e2 a2]; exact w2)
  · obtain ⟨i, d, q, w⟩ := z
    obtain ⟨⟨e, a1⟩, _⟩ := bk i d q
    exact .inl ⟨i, e, a1, w⟩
  · match r, hr, ok with
    | .dat d, _, ok =>
      obtain ⟨ey, rd⟩ := ok
      subst ey
      exact ⟨rfl, rd.less pwF⟩
    | .new d, _, ok =>
      obtain ⟨p, e, ey, n, ro⟩ := ok
      refine ⟨p, e, ey, fun z => n (z.imp id (owF p)), ro.less pwF⟩
    | .at i, hr, _ => exact absurd rfl (hr i)
/-- THE RULE for a def: its body's reading -/
theorem fn_of {x qual : Str} {st : Stmt} {f : Addr} {fd : FuncData} {N ps : List Str} {k : Nat} {S : ASp} {B : Nat → Bool} {a : AS'} (F : Fun K x qual st f fd) (Sc : FnScope N ps (defScope st)) (hlen : ps.length ≤ N.length)
    (hbody : ∀ (cdv : Value) (A : Around) (outer : List Env) (s : Shared) (H : Hp) (E : XK), Room k (A.deeper (PyProof.Rows.envOfC qual (defScope st) s.heap.objs.size f cdv)) →
      ASs (cxOf CX0 P w K mg base N qual (defScope st) f cdv A outer s H E).nox B (defBody st) a)
    (hspec : ∀ avs R, S avs R → avs.length = ps.length ∧ (∀ (i : Nat) (d : D), avs[i]? = some (.own d) → B i = true) ∧
      a { nx := fun env => R (.dat .non) (outs avs env), rt := fun r env => (∀ i, r ≠ .at i) ∧ R r (outs avs env) } (start0 N.length avs)) :
    FnOk P w K mg base CX0 (k + 1) f fd ps (toSp K S) := by
  refine F.ok Sc (fun vs H Q E h => ?_) (fun cdv A outer s H vs Q E hr h => ?_)
  · obtain ⟨Y, avs, R, rep, hs, _⟩ := h
    have := (hspec avs R hs).1
    have hl : vs.length = avs.length := by simpa using rep.len
    omega
  · obtain ⟨Y, avs, R, rep, hs, fin⟩ := h
    obtain ⟨h1, h2, h3⟩ := hspec avs R hs
    have hN : avs.length ≤ N.length := by omega
    obtain ⟨t, p, sd⟩ := hbody cdv A outer s H E hr
    refine ⟨t, p, sd Y H (L2.start N vs) (start0 N.length avs) _ _ (rep.start hN) h3 ⟨fun H' σ' env' r' g q => ?_, fun v H' σ' env' r Y' r' g ok q => ?_, fun H' σ' env' _ _ q => q.elim, fun H' σ' env' _ _ q => q.elim⟩⟩
    · obtain ⟨a1, a2, a3, a4⟩ := fin_body (B := B) rep hN h2 r' g (r := .dat .non) (v := .non) (fun i z => by cases z) ⟨rfl, .non⟩
      exact fin .non H' (.dat .non) _ Y a1 a2 a3 a4 (fun i z => by cases z) q
    · obtain ⟨a1, a2, a3, a4⟩ := fin_body (B := B) rep hN h2 r' g (r := r) (v := v) q.1 ok
      exact fin v H' r _ Y' a1 a2 a3 a4 q.1 q.2
end
end AL
namespace AL
open PySem L2
/-! AL13: calls of defs. -/
/-- the slots that are lent -/
def lents : List RV → List Nat
  | [] => []
  | .at i :: r => i :: lents r
  | _ :: r => lents r
/-- the parameters as they are handed in -/
def argsE (env : AEnv) : List RV → AEnv
  | [] => []
  | .dat d :: r => .dat d :: argsE env r
  | .at i :: r => (match env[i]? with | some a => a | none => .un) :: argsE env r
  | .new _ :: r => .un :: argsE env r
/-- the lent ones come back -/
def backE (env : AEnv) : List RV → AEnv → AEnv
  | .at i :: r, a :: as => backE (env.set i a) r as
  | _ :: r, _ :: as => backE env r as
  | _, _ => env
def lentOk (env : AEnv) (rs : List RV) : Prop := (lents rs).Nodup ∧ ∀ i ∈ lents rs, ∃ d, env[i]? = some (.own d)
@[irreducible] def callR (S : ASp) (rs : List RV) (env : AEnv) (R : RV → AEnv → Prop) : Prop := lentOk env rs ∧ S (argsE env rs) fun r avs' => R r (backE env rs avs')
def aFn (S : ASp) (t : AA') : AE' := fun env R => t env fun rs env1 => callR S rs env1 R
theorem argsE_len (env : AEnv) : ∀ rs : List RV, (argsE env rs).length = rs.length
  | [] => rfl
  | .dat d :: r => congrArg Nat.succ (argsE_len env r)
  | .at i :: r => congrArg Nat.succ (argsE_len env r)
  | .new d :: r => congrArg Nat.succ (argsE_len env r)
theorem backE_len : ∀ (env : AEnv) (rs : List RV) (as : AEnv), (backE env rs as).length = env.length
  | env, .at i :: r, a :: as => by rw [backE, backE_len, List.length_set]
  | env, .dat _ :: r, a :: as => backE_len env r as
  | env, .new _ :: r, a :: as => backE_len env r as
  | env, [], _ => by simp [backE]
  | env, .at i :: r, [] => rfl
  | env, .dat i :: r, [] => rfl
  | env, .new i :: r, [] => rfl
theorem backE_out : ∀ {env : AEnv} {rs : List RV} {as : AEnv} {i : Nat}, i ∉ lents rs → (backE env rs as)[i]? = env[i]?
  | env, .at j :: r, a :: as, i, h => by
    rw [backE, backE_out (fun z => h (by simp [lents, z])), List.getElem?_set_ne (fun e => h (by simp [lents, e]))]
  | env, .dat _ :: r, a :: as, i, h => backE_out (rs := r) (as := as) h
  | env, .new _ :: r, a :: as, i, h => backE_out (rs := r) (as := as) h
  | env, [], _, i, h => by simp [backE]
  | env, .at j :: r, [], i, h => rfl
  | env, .dat j :: r, [], i, h => rfl
  | env, .new j :: r, [], i, h => rfl
theorem backE_in : ∀ {env : AEnv} {rs : List RV} {as : AEnv} {j i : Nat} {a : AV}, (lents rs).Nodup → rs[j]? = some (.at i) → as[j]? = some a → i < env.length → (backE env rs as)[i]? = some a
  | env, .at k :: r, b :: as, 0, i, a, n, h, e, l => by
    simp only [List.getElem?_cons_zero, Option.some.injEq] at h e
    cases h
    subst e
    rw [backE, backE_out (List.nodup_cons.mp n).1, List.getElem?_set_self l]
  | env, .dat k :: r, b :: as, 0, i, a, n, h, e, l => by simp at h
  | env, .new k :: r, b :: as, 0, i, a, n, h, e, l => by simp at h
  | env, .at k :: r, b :: as, j + 1, i, a, n, h, e, l => by
    rw [backE]
    exact backE_in (j := j) (List.nodup_cons.mp n).2 (by simpa using h) (by simpa using e) (by rw [List.length_set]; exact l)
  | env, .dat k :: r, b :: as, j + 1, i, a, n, h, e, l => backE_in (rs := r) (as := as) (j := j) n (by simpa using h) (by simpa using e) l
  | env, .new k :: r, b :: as, j + 1, i, a, n, h, e, l => backE_in (rs := r) (as := as) (j := j) n (by simpa using h) (by simpa using e) l
  | env, [], _, j, i, a, n, h, e, l => by simp at h
  | env, _ :: _, [], j, i, a, n, h, e, l => by simp at e
theorem lents_mem : ∀ {rs : List RV} {i : Nat}, i ∈ lents rs ↔ ∃ j : Nat, rs[j]? = some (.at i)
  | [], i => by simp [lents]
  | .at k :: r, i => by
    simp only [lents, List.mem_cons]
    constructor
    · rintro (h | h)
      · subst h; exact ⟨0, rfl⟩
      · obtain ⟨j, e⟩ := lents_mem.mp h
        exact ⟨j + 1, e⟩
    · rintro ⟨j, e⟩
      cases j with
      | zero => simp at e; exact .inl e.symm
      | succ j => exact .inr (lents_mem.mpr ⟨j, by simpa using e⟩)
  | .dat k :: r, i => by
    simp only [lents]
    constructor
    · intro h
      obtain ⟨j, e⟩ := lents_mem.mp h
      exact ⟨j + 1, e⟩
    · rintro ⟨j, e⟩
      cases j with
      | zero => simp at e
      | succ j => exact lents_mem.mpr ⟨j, by simpa using e⟩
  | .new k :: r, i => by
    simp only [lents]
    constructor
    · intro h
      obtain ⟨j, e⟩ := lents_mem.mp h
      exact ⟨j + 1, e⟩
    · rintro ⟨j, e⟩
      cases j with
      | zero => simp at e
      | succ j => exact lents_mem.mpr ⟨j, by simpa using e⟩
theorem lents_inj : ∀ {rs : List RV} {j k i : Nat}, (lents rs).Nodup → rs[j]? = some (.at i) → rs[k]? = some (.at i) → j = k
  | .at m :: r, 0, 0, i, n, _, _ => rfl
  | .at m :: r, 0, k + 1, i, n, h, e => by
    simp at h
    subst h
    exact ((List.nodup_cons.mp n).1 (lents_mem.mpr ⟨k, by simpa using e⟩)).elim
  | .at m :: r, j + 1, 0, i, n, h, e => by
    simp at e
    subst e
    exact ((List.nodup_cons.mp n).1 (lents_mem.mpr ⟨j, by simpa using h⟩)).elim
  | .at m :: r, j + 1, k + 1, i, n, h, e => congrArg Nat.succ (lents_inj (List.nodup_cons.mp n).2 (by simpa using h) (by simpa using e))
  | .dat m :: r, 0, _, i, n, h, e => by simp at h
  | .dat m :: r, _ + 1, 0, i, n, h, e => by simp at e
  | .dat m :: r, j + 1, k + 1, i, n, h, e => congrArg Nat.succ (lents_inj (rs := r) n (by simpa using h) (by simpa using e))
  | .new m :: r, 0, _, i, n, h, e => by simp at h
  | .new m :: r, _ + 1, 0, i, n, h, e => by simp at e
  | .new m :: r, j + 1, k + 1, i, n, h, e => congrArg Nat.succ (lents_inj (rs := r) n (by simpa using h) (by simpa using e))
  | [], _, _, i, n, h, e => by simp at h
theorem argsE_get : ∀ {env : AEnv} {rs : List RV} {j : Nat} {r : RV}, rs[j]? = some r → (argsE env rs)[j]? = some (match r with | .dat d => .dat d | .at i => (match env[i]? with | some a => a | none => .un) | .new _ => .un)
  | env, .dat d :: rs, 0, r, h => by simp at h; subst h; rfl
  | env, .at d :: rs, 0, r, h => by simp at h; subst h; rfl
  | env, .new d :: rs, 0, r, h => by simp at h; subst h; rfl
  | env, .dat d :: rs, j + 1, r, h => by
    have := argsE_get (env := env) (rs := rs) (j := j) (r := r) (by simpa using h)
    simpa [argsE] using this
  | env, .at d :: rs, j + 1, r, h => by
    have := argsE_get (env := env) (rs := rs) (j := j) (r := r) (by simpa using h)
    simpa [argsE] using this
  | env, .new d :: rs, j + 1, r, h => by
    have := argsE_get (env := env) (rs := rs) (j := j) (r := r) (by simpa using h)
    simpa [argsE] using this
  | env, [], j, r, h => by simp at h
section
variable {K : Fg} {σ : L2.St} {Y : Ad} {env : AEnv} {H : Hp}
theorem ArgsOk.len : ∀ {vs : List V} {rs : List RV}, ArgsOk K H Y σ env vs rs → vs.length = rs.length
  | _, _, .nil => rfl
  | _, _, .cons _ r => congrArg Nat.succ r.len
theorem ArgsOk.get : ∀ {vs : List V} {rs : List RV} {j : Nat} {r : RV}, ArgsOk K H Y σ env vs rs → rs[j]? = some r → ∃ v, vs[j]? = some v ∧ ResOk K H Y Y σ env v r
  | _, _, 0, r, .cons h _, e => by simp at e; subst e; exact ⟨_, rfl, h⟩
  | _, _, j + 1, r, .cons _ t, e => by
    obtain ⟨v, a, b⟩ := ArgsOk.get (j := j) (r := r) t (by simpa using e)
    exact ⟨v, by simpa using a, b⟩
  | _, _, j, r, .nil, e => by simp at e
/-- a call by a promise over data -/
theorem call_ok {S : ASp} {rs : List RV} {vs : List V} {R : RV → AEnv → Prop} {Q : VK} (rep : Rep K Y H σ env) (ok : ArgsOk K H Y σ env vs rs) (q : callR S rs env R)
    (k : ∀ v H' env' r Y', Rep K Y' H' σ env' → Adv σ Y env H Y' env' H' → ResOk K H' Y Y' σ env' v r → R r env' → Q v H') (E : XK) : toSp K S vs H Q E := by
  unfold callR at q
  obtain ⟨⟨nd, low⟩, q⟩ := q
  -- the address lent at a place
  have lent : ∀ {j i : Nat}, rs[j]? = some (.at i) → ∃ p d, vs[j]? = some (.ref p) ∧ σ[i]? = some (some (.ref p)) ∧ env[i]? = some (.own d) ∧ ¬ Y p ∧ RO K H (Pw Y σ env) p d := fun {j i} h => by
    obtain ⟨v, hv, o⟩ := ok.get h
    obtain ⟨d, hd⟩ := low i (lents_mem.mpr ⟨j, h⟩)
    obtain ⟨p, hp, np, ro⟩ := rep.own i d hd
    have hs := o.2.1
    rw [hp] at hs
    cases hs
    exact ⟨p, d, hv, hp, hd, np, ro⟩
  have hl : vs.length = rs.length := ok.len
  have getr : ∀ {j : Nat} {a : AV}, (argsE env rs)[j]? = some a → ∃ r, rs[j]? = some r := fun {j a} h => by
    have : j < rs.length := by
      have := (List.getElem?_eq_some_iff.mp h).1
      rwa [argsE_len] at this
    exact ⟨rs[j], by simp [this]⟩
  -- an owned parameter is a lent slot
  have ownA : ∀ {j : Nat} {d : D}, (argsE env rs)[j]? = some (.own d) → ∃ i, rs[j]? = some (.at i) ∧ env[i]? = some (.own d) := fun {j d} h => by
    obtain ⟨r, hr⟩ := getr h
    rw [argsE_get hr] at h
    match r, h with
    | .at i, h =>
      obtain ⟨p, d', _, _, hd, _⟩ := lent hr
      simp only [hd, Option.some.injEq] at h
      exact ⟨i, hr, by rw [hd]; exact congrArg some h⟩
  let L : Addr → Prop := fun a => ∃ i, i ∈ lents rs ∧ σ[i]? = some (some (.ref a))
  let Yc : Ad := fun a => Pw Y σ env a ∧ ¬ L a
  have ownC : ∀ a, Own (vs.map some) (argsE env rs) a ↔ L a := fun a => by
    constructor
    · rintro ⟨j, d, h, w⟩
      obtain ⟨i, hr, hd⟩ := ownA h
      obtain ⟨p, _, hv, hp, _, _⟩ := lent hr
      rw [List.getElem?_map, hv] at w
      cases w
      exact ⟨i, lents_mem.mpr ⟨j, hr⟩, hp⟩
    · rintro ⟨i, hi, w⟩
      obtain ⟨j, hr⟩ := lents_mem.mp hi
      obtain ⟨p, d, hv, hp, hd, _⟩ := lent hr
      rw [w] at hp; cases hp
      exact ⟨j, d, by rw [argsE_get hr]; simp [hd], by rw [List.getElem?_map, hv]; rfl⟩
  have lPw : ∀ a, L a → Pw Y σ env a := fun a ⟨i, hi, w⟩ => by
    obtain ⟨d, hd⟩ := low i hi
    exact .inr ⟨i, d, hd, w⟩
  have pwC : ∀ a, Pw Yc (vs.map some) (argsE env rs) a ↔ Pw Y σ env a := fun a => by
    constructor
    · rintro (z | z)
      · exact z.1
      · exact lPw a ((ownC a).mp z)
    · intro z
      by_cases h : L a
      · exact .inr ((ownC a).mpr h)
      · exact .inl ⟨z, h⟩
  have tracked : ∀ a, Pw Y σ env a → ∃ o, H a = some o := fun a z => by
    rcases z with z | ⟨i, d, e, w⟩
    · exact rep.yin a z
    · obtain ⟨p, hp, _, ro⟩ := rep.own i d e
      rw [w] at hp; cases hp
      obtain ⟨o, h, _⟩ := ro.some
      exact ⟨o, h⟩
  have repC : Rep K Yc H (vs.map some) (argsE env rs) := by
    refine ⟨by rw [List.length_map, argsE_len, hl], fun j d h => ?_, fun j d h => ?_, fun a z => tracked a z.1, fun j m d e p h1 h2 w1 w2 => ?_⟩
    · obtain ⟨r, hr⟩ := getr h
      obtain ⟨v, hv, o⟩ := ok.get hr
      rw [argsE_get hr] at h
      match r, o, h, hr with
      | .dat d', o, h, hr =>
        cases h
        exact ⟨v, by rw [List.getElem?_map, hv]; rfl, o.2.less fun a z => (pwC a).mp z⟩
      | .at i, o, h, hr =>
        obtain ⟨p, d', _, _, hd, _⟩ := lent hr
        simp only [hd] at h
        cases h
    · obtain ⟨i, hr, hd⟩ := ownA h
      obtain ⟨p, d', hv, hp, hd', np, ro⟩ := lent hr
      rw [hd] at hd'; cases hd'
      exact ⟨p, by rw [List.getElem?_map, hv]; rfl, fun z => z.2 ⟨i, lents_mem.mpr ⟨j, hr⟩, hp⟩, ro.less fun a z => (pwC a).mp z⟩
    · obtain ⟨i1, hr1, hd1⟩ := ownA h1
      obtain ⟨i2, hr2, hd2⟩ := ownA h2
      obtain ⟨p1, _, hv1, hp1, _⟩ := lent hr1
      obtain ⟨p2, _, hv2, hp2, _⟩ := lent hr2
      rw [List.getElem?_map, hv1] at w1
      rw [List.getElem?_map, hv2] at w2
      cases w1
      cases w2
      have := rep.inj i1 i2 d e p hd1 hd2 hp1 hp2
      subst this
      exact lents_inj nd hr1 hr2
  refine ⟨Yc, argsE env rs, _, repC, q, fun v H' r avs' Yc' repc advc yc okc noat q' => ?_⟩
  -- what the result adds
  have goC := advc.go repC
  have yk : ∀ a, Yc a → H' a = H a := advc.ky
  have yy : ∀ a, Y a → Yc a := fun a z => ⟨.inl z, fun ⟨i, hi, w⟩ => by
    obtain ⟨d, hd⟩ := low i hi
    obtain ⟨p, hp, np, _⟩ := rep.own i d hd
    rw [w] at hp; cases hp
    exact np z⟩
  have lav : avs'.length = rs.length := by
    have := repc.len
    rw [List.length_map] at this
    omega
  have bin : ∀ {j i : Nat}, rs[j]? = some (.at i) → ∃ a, avs'[j]? = some a ∧ (backE env rs avs')[i]? = some a := fun {j i} h => by
    have hj : j < avs'.length := by
      rw [lav]
      exact (List.getElem?_eq_some_iff.mp h).1
    obtain ⟨p, d, _, _, hd, _⟩ := lent h
    exact ⟨avs'[j], by simp [hj], backE_in nd h (by simp [hj]) (List.getElem?_eq_some_iff.mp hd).1⟩
  have fin : ∀ (Y' : Ad), (∀ a, Y' a → Yc' a) → (∀ a, Y a → Y' a) → (∀ a, Y' a → Y a ∨ H a = none) → Rep K Y' H' σ (backE env rs avs') ∧ Adv σ Y env H Y' (backE env rs avs') H' ∧ (∀ a, Own σ (backE env rs avs') a → Yc a ∨ Own (vs.map some) avs' a) := fun Y' y1 y2 y3 => by
    have slot : ∀ (i : Nat) (a : AV), (backE env rs avs')[i]? = some a → (i ∉ lents rs ∧ env[i]? = some a) ∨ ∃ j : Nat, rs[j]? = some (.at i) ∧ avs'[j]? = some a := fun i a h => by
      by_cases hi : i ∈ lents rs
      · obtain ⟨j, hr⟩ := lents_mem.mp hi
        obtain ⟨b, h1, h2⟩ := bin hr
        rw [h2] at h
        exact .inr ⟨j, hr, by rw [h1]; exact h⟩
      · rw [backE_out hi] at h
        exact .inl ⟨hi, h⟩
    have notL : ∀ {i : Nat} {d : D} {p : Addr}, i ∉ lents rs → env[i]? = some (.own d) → σ[i]? = some (some (.ref p)) → Yc p := fun {i d p} hi h w => by
      refine ⟨.inr ⟨i, d, h, w⟩, fun ⟨m, hm, w2⟩ => ?_⟩
      obtain ⟨e, he⟩ := low m hm
      exact hi (rep.inj i m d e p h he w w2 ▸ hm)
    have owB : ∀ a, Own σ (backE env rs avs') a → Yc a ∨ Own (vs.map some) avs' a := fun a ⟨i, d, h, w⟩ => by
      rcases slot i _ h with ⟨hi, h'⟩ | ⟨j, hr, h'⟩
      · exact .inl (notL hi h' w)
      · obtain ⟨p, _, hv, hp, _⟩ := lent hr
        rw [w] at hp; cases hp
        exact .inr ⟨j, d, h', by rw [List.getElem?_map, hv]; rfl⟩
    have pwB : ∀ a, Pw Y' σ (backE env rs avs') a → Pw Yc' (vs.map some) avs' a := fun a z => by
      rcases z with z | z
      · exact .inl (y1 a z)
      · rcases owB a z with z | z
        · exact .inl (advc.yu a z)
        · exact .inr z
    have move : ∀ {v : V} {d : D}, RD K H (Pw Y σ env) v d → RD K H' (Pw Y' σ (backE env rs avs')) v d := fun {v d} r => (((r.less fun a z => (pwC a).mp z).go goC fun a z => .inr z).less pwB)
    refine ⟨⟨by rw [backE_len]; exact rep.len, fun i d h => ?_, fun i d h => ?_, fun a z => ?_, fun i m d e p h1 h2 w1 w2 => ?_⟩, ⟨fun a o h n => advc.keep a o h fun z => ?_, fun a z => yk a (yy a z), y2, y3, fun i => ?_, advc.live⟩, owB⟩
    · rcases slot i _ h with ⟨hi, h'⟩ | ⟨j, hr, h'⟩
      · obtain ⟨v, w, r⟩ := rep.dat i d h'
        exact ⟨v, w, move r⟩
      · obtain ⟨v, w, r⟩ := repc.dat j d h'
        obtain ⟨p, _, hv, hp, _⟩ := lent hr
        rw [List.getElem?_map, hv] at w
        cases w
        exact ⟨_, hp, r.less pwB⟩
    · rcases slot i _ h with ⟨hi, h'⟩ | ⟨j, hr, h'⟩
      · obtain ⟨p, w, n, ro⟩ := rep.own i d h'
        have yp := notL hi h' w
        refine ⟨p, w, fun z => ?_, ((ro.less fun a z => (pwC a).mp z).go goC (fun a z => .inr z) (yk p yp)).less pwB⟩
        rcases y3 p z with z | z
        · exact n z
        · obtain ⟨o, e, _⟩ := ro.some
          rw [e] at z; cases z
      · obtain ⟨p, w, n, ro⟩ := repc.own j d h'
        obtain ⟨p', _, hv, hp, _⟩ := lent hr
        rw [List.getElem?_map, hv] at w
        cases w
        exact ⟨_, hp, fun z => n (y1 _ z), ro.less pwB⟩
    · exact repc.yin a (y1 a z)
    · rcases slot i _ h1 with ⟨hi, h1'⟩ | ⟨j1, hr1, h1'⟩
      · rcases slot m _ h2 with ⟨hm, h2'⟩ | ⟨j2, hr2, h2'⟩
        · exact rep.inj i m d e p h1' h2' w1 w2
        · obtain ⟨p2, d2, _, hp2, hd2, _⟩ := lent hr2
          rw [w2] at hp2; cases hp2
          exact rep.inj i m d d2 p h1' hd2 w1 w2
      · obtain ⟨p1, d1, _, hp1, hd1, _⟩ := lent hr1
        rw [w1] at hp1; cases hp1
        rcases slot m _ h2 with ⟨hm, h2'⟩ | ⟨j2, hr2, h2'⟩
        · exact rep.inj i m d1 e p hd1 h2' w1 w2
        · obtain ⟨p2, d2, _, hp2, hd2, _⟩ := lent hr2
          rw [w2] at hp2; cases hp2
          exact rep.inj i m d1 d2 p hd1 hd2 w1 w2
    · obtain ⟨i, hi, w⟩ := (ownC a).mp z
      obtain ⟨d, hd⟩ := low i hi
      exact n ⟨i, d, hd, w⟩
    · by_cases hi : i ∈ lents rs
      · obtain ⟨j, hr⟩ := lents_mem.mp hi
        obtain ⟨b, h1, h2⟩ := bin hr
        obtain ⟨p, d, _, _, hd, _⟩ := lent hr
        have s := advc.pr j rfl
        rw [argsE_get hr, h1] at s
        rw [hd, h2]
        simpa [hd] using s
      · rw [backE_out hi]
        exact Sh.refl _
  match r, okc, q', noat with
  | .dat d, okc, q', _ =>
    obtain ⟨ey, rd⟩ := okc
    subst ey
    obtain ⟨a, b, c⟩ := fin Y yy (fun _ z => z) fun _ z => .inl z
    refine k v H' _ (.dat d) Y a b ⟨rfl, rd.less fun x z => ?_⟩ q'
    rcases z with z | z
    · exact .inl (yy x z)
    · exact (c x z).imp id id
  | .new d, okc, q', _ =>
    obtain ⟨p, e, ey, n, ro⟩ := okc
    have nY : ∀ a, a = p → H a = none := fun a z => by
      subst z
      rcases yc a (by rw [ey]; exact .inr rfl) with w | w
      · exact (n (.inl w)).elim
      · exact w
    obtain ⟨a, b, c⟩ := fin (fun a => Y a ∨ a = p) (fun a z => by rw [ey]; exact z.imp (yy a) id) (fun _ z => .inl z) fun a z => z.imp id (nY a)
    refine k v H' _ (.new d) _ a b ⟨p, e, rfl, fun z => ?_, ro.less fun x z => ?_⟩ q'
    · rcases z with z | z
      · exact n (.inl (yy p z))
      · exact n (c p z)
    · rw [ey]
      rcases z with z | z
      · exact .inl (z.imp (yy x) id)
      · rcases c x z with z | z
        · exact .inl (.inl z)
        · exact .inr z
  | .at i, okc, q', noat => exact absurd rfl (noat i)
end
section
variable {X : Cx} {x : Str} {p pos : Pos} {e : Expr} {es : List Expr} {t : AA'} {S : ASp} {k : Nat} {f : Addr} {fd : FuncData} {ps : List Str}
theorem ae_fn (F : FnOk X.prog X.w X.K X.mg X.base CX0 k f fd ps (toSp X.K S)) (hr : Room k X.A) (hg : Gl X x) (hm : X.mg x = some (.ref f)) (hk : PySem.W.keepIn X.K (.ref f) = true) (hb : Binds X.K fd ps []) (ha : AA X (e :: es) t) (hdb : (x == ("__debug__" : Str)) = false := by decide)
    (he : starEach (e :: es) X.env = (false, eval e X.env) :: starEach es X.env := by rfl) (hpl : (backTo pos (starEach es X.env)).any (·.1) = false := by rfl) : AE X (.Call (.Name x p) (e :: es) [] pos) (aFn S t) := by
  obtain ⟨u, pa, s⟩ := ha
  refine ⟨_, pe_call F hr hg hm hk hb .nil pass0 pa hdb he hpl, fun Y H σ env R Q rep q k => ?_⟩
  refine s Y H σ env _ _ rep q fun vs H' env' rs rep' g ok q' => ?_
  rw [List.append_nil]
  exact call_ok rep' ok q' (fun v H2 env2 r Y2 rep2 g2 ok2 q2 => k v H2 env2 r Y2 rep2 (g.trans g2) ok2 q2) _
end
end AL
namespace AL
open PySem L2
/-! AL14: built-in functions of one thing that is read, methods, fields, instances. -/
abbrev Op1 := D → (RV → Prop) → Prop
def Rd1S (K : Fg) (r : List V → Hp → VK → Prop) (f : Op1) : Prop := ∀ (Y : Ad) (H : Hp) (σ : L2.St) (env : AEnv) (x : V) (d : D) (F : RV → Prop) (Q : VK), Rep K Y H σ env → RC K H (Pw Y σ env) x d → f d F → Fin K Y H σ env F Q → r [x] H Q
/-- a thing is read: not handed over -/
def aRd (f : Op1) (a : AE') : AE' := fun env R => a env fun r env1 => match val env1 r with
  | some d => f d fun z => R z env1
  | none => False
theorem snd_rd {K : Fg} {r : List V → Hp → VK → Prop} {f : Op1} {t : TE} {a : AE'} (o : Rd1S K r f) (s : Snd K t a) : Snd K (tCB r (tCons t tNil)) (aRd f a) := by
  intro Y H σ env R Q rep q k
  refine s Y H σ env _ _ rep q fun v H' env' z Y' rep' g ok q' => ?_
  obtain ⟨d, e1, c⟩ := ok.rc rep'
  simp only [e1] at q'
  exact o Y H' σ env' v d _ _ (rep'.less g.yu) (c.less (pw_less g.yu)) q' fun w H2 z2 Y2 rep2 g2 ok2 q2 => k w H2 env' z2 Y2 rep2 (g.drop.trans g2) ok2 q2
section
variable {X : Cx} {x : Str} {p pos : Pos} {e : Expr} {a : AE'} {f : Op1}
theorem ae_rdB {id : String} {r : List V → Hp → VK → Prop} (hc : CallR X (.builtin id) r) (o : Rd1S X.K r f) (hg : Gl X x) (hm : X.mg x = none) (hv : bootBuiltins x = some (.builtin id)) (ha : AE X e a) (hn : x ≠ "__name__" := by decide) (hdb : (x == ("__debug__" : Str)) = false := by decide)
    (he : starEach [e] X.env = (false, eval e X.env) :: starEach [] X.env := by rfl) : AE X (.Call (.Name x p) [e] [] pos) (aRd f a) := by
  obtain ⟨u, pe, s⟩ := ha
  exact ⟨_, pe_callB hc hg hm hv (pa_cons pe pa_nil he) hn hdb he rfl, snd_rd o s⟩
theorem ae_rdT {T : String} {r : List V → Hp → VK → Prop} (hc : CallR X (.type T) r) (o : Rd1S X.K r f) (hg : Gl X x) (hm : X.mg x = none) (hv : bootBuiltins x = some (.type T)) (ha : AE X e a) (hn : x ≠ "__name__" := by decide) (hdb : (x == ("__debug__" : Str)) = false := by decide)
    (he : starEach [e] X.env = (false, eval e X.env) :: starEach [] X.env := by rfl) : AE X (.Call (.Name x p) [e] [] pos) (aRd f a) := by
  obtain ⟨u, pe, s⟩ := ha
  exact ⟨_, pe_callTy hc hg hm hv (pa_cons pe pa_nil he) hn hdb he rfl, snd_rd o s⟩
end
/-! len -/
def fLen : Op1 := fun d F => match d with
  | .lst l => F (.dat (.int l.length))
  | .tup l => F (.dat (.int l.length))
  | .str z => z.length ≤ sizeLine ∧ F (.dat (.int z.length))
  | _ => False
abbrev rLen1 (K : Fg) : List V → Hp → VK → Prop := fun xs H Q => ∃ x n, xs = [x] ∧ LenV K x H n ∧ Q (.int n) H
theorem rs_len (K : Fg) : Rd1S K (rLen1 K) fLen := by
  intro Y H σ env x d F Q R c f k
  match d, c, f with
  | .lst l, c, f =>
    obtain ⟨p, us, e, h, r, _⟩ := c.lst
    subst e
    refine ⟨_, us.length, rfl, .inl ⟨us, .of h, rfl⟩, ?_⟩
    rw [r.length]
    exact fin_dat R k (.int _) f
  | .tup l, c, f =>
    obtain ⟨p, us, e, h, r, _, _⟩ := c.tup
    subst e
    refine ⟨_, us.length, rfl, .inr ⟨us, h, rfl⟩, ?_⟩
    rw [r.length]
    exact fin_dat R k (.int _) f
  | .str z, c, f =>
    rw [c.str]
    exact ⟨_, z.length, rfl, ⟨f.1, rfl⟩, fin_dat R k (.int _) f.2⟩
/-! int -/
def fInt : Op1 := fun d F => match d with
  | .int i => F (.dat (.int i))
  | .bl b => F (.dat (.int (if b then 1 else 0)))
  | _ => False
theorem rs_int (K : Fg) : Rd1S K (fun xs H Q => (∃ i, xs = [.int i] ∧ Q (.int i) H) ∨ ∃ k, xs = [.bl k] ∧ Q (.int (if k then 1 else 0)) H) fInt := by
  intro Y H σ env x d F Q R c f k
  match d, c, f with
  | .int i, c, f => rw [c.int]; exact .inl ⟨i, rfl, fin_dat R k (.int _) f⟩
  | .bl b, c, f => rw [c.bl]; exact .inr ⟨b, rfl, fin_dat R k (.int _) f⟩
/-! list, tuple -/
def fList : Op1 := fun d F => match d with
  | .lst l => F (.new (.lst l))
  | .tup l => F (.new (.lst l))
  | _ => False
def fTuple : Op1 := fun d F => match d with
  | .lst l => F (.dat (.tup l))
  | .tup l => F (.dat (.tup l))
  | _ => False
theorem rs_list (K : Fg) : Rd1S K (fun xs H Q => ∃ p ys, xs = [.ref p] ∧ (SqL K H p ys ∨ SqT K H p ys) ∧ ∀ l, H l = none → Q (.ref l) (upd H l (.lst ys))) fList := by
  intro Y H σ env x d F Q R c f k
  match d, c, f with
  | .lst l, c, f =>
    obtain ⟨p, us, e, h, r, hl⟩ := c.lst
    subst e
    exact ⟨p, us, rfl, .inl (.of h), fun q n => fin_lst R k r hl f n⟩
  | .tup l, c, f =>
    obtain ⟨p, us, e, h, r, _, hl⟩ := c.tup
    subst e
    exact ⟨p, us, rfl, .inr h, fun q n => fin_lst R k r hl f n⟩
theorem rs_tuple (K : Fg) : Rd1S K (fun xs H Q => ∃ p ys, xs = [.ref p] ∧ ((SqL K H p ys ∧ ∀ l, H l = none → Q (.ref l) (upd H l (.tup ys))) ∨ (SqT K H p ys ∧ Q (.ref p) H))) fTuple := by
  intro Y H σ env x d F Q R c f k
  match d, c, f with
  | .lst l, c, f =>
    obtain ⟨p, us, e, h, r, hl⟩ := c.lst
    subst e
    exact ⟨p, us, rfl, .inl ⟨.of h, fun q n => fin_tup R k r hl f n⟩⟩
  | .tup l, c, f =>
    obtain ⟨p, us, e, h, r, rd, hl⟩ := c.tup
    subst e
    exact ⟨p, us, rfl, .inr ⟨h, fin_dat R k rd f⟩⟩
/-! all, any -/
def fAll : Op1 := fun d F => match d with
  | .lst l => ∃ bs : List Bool, l = bs.map D.bl ∧ F (.dat (.bl (bs.all id)))
  | _ => False
def fAny : Op1 := fun d F => match d with
  | .lst l => ∃ bs : List Bool, l = bs.map D.bl ∧ F (.dat (.bl (bs.any id)))
  | _ => False
theorem rs_all (K : Fg) : Rd1S K (rAll K) fAll := by
  intro Y H σ env x d F Q R c f k
  match d, c, f with
  | .lst l, c, f =>
    obtain ⟨bs, rfl, f⟩ := f
    obtain ⟨p, us, e, h, r, hl⟩ := c.lst
    subst e
    have := r.ofBls
    subst this
    exact ⟨p, bs, rfl, .of h, fin_dat R k (.bl _) f⟩
theorem rs_any (K : Fg) : Rd1S K (rAny K) fAny := by
  intro Y H σ env x d F Q R c f k
  match d, c, f with
  | .lst l, c, f =>
    obtain ⟨bs, rfl, f⟩ := f
    obtain ⟨p, us, e, h, r, hl⟩ := c.lst
    subst e
    have := r.ofBls
    subst this
    exact ⟨p, bs, rfl, .of h, fin_dat R k (.bl _) f⟩
/-! sorted of ints -/
def fSorted : Op1 := fun d F => match d with
  | .lst l => ∃ ns : List Int, l = ns.map D.int ∧ ∀ ns' : List Int, ns'.Perm ns → ns'.Pairwise (· ≤ ·) → F (.new (.lst (ns'.map D.int)))
  | _ => False
theorem rs_sorted (K : Fg) : Rd1S K (rSortedI K) fSorted := by
  intro Y H σ env x d F Q R c f k
  match d, c, f with
  | .lst l, c, f =>
    obtain ⟨ns, rfl, f⟩ := f
    obtain ⟨p, us, e, h, r, hl⟩ := c.lst
    subst e
    have := r.ofInts
    subst this
    refine ⟨p, ns, rfl, .of h, fun ns' q pm pw n => fin_lst R k (RDs.ints ns') ?_ (f ns' pm pw) n⟩
    have := pm.length_eq
    rw [List.length_map] at hl ⊢
    omega
/-! isinstance with a built-in type -/
def tyD : D → Option String
  | .non => some "NoneType"
  | .bl _ => some "bool"
  | .int _ => some "int"
  | .str _ => some "str"
  | .tup _ => some "tuple"
  | .lst _ => some "list"
  | .dic _ _ => some "dict"
  | _ => none
def aIsi (T : String) (a : AE') : AE' := fun env R => a env fun r env1 => match val env1 r with
  | some d => ∃ ty b, tyD d = some ty ∧ kitB ty T = some b ∧ R (.dat (.bl b)) env1
  | none => False
theorem RC.ty {K : Fg} {H : Hp} {P : Ad} {v : V} {d : D} {ty : String} (c : RC K H P v d) (h : tyD d = some ty) : TyX K H v (.type ty) := by
  match d, c, h with
  | .non, c, h => cases h; rw [c.non]; exact .base .non
  | .bl b, c, h => cases h; rw [c.bl]; exact .base (.bl b)
  | .int b, c, h => cases h; rw [c.int]; exact .base (.int b)
  | .str b, c, h => cases h; rw [c.str]; exact .base (.str b)
  | .lst l, c, h =>
    cases h
    obtain ⟨p, us, e, h, r, _⟩ := c.lst
    subst e
    exact .base (.lst h)
  | .tup l, c, h =>
    cases h
    obtain ⟨p, us, e, h, r, _, _⟩ := c.tup
    subst e
    rcases h with (h | ⟨o, h⟩) | ⟨o, its, n, h1, h2, _⟩
    · exact .base (.tup h)
    · exact .fTuple h
    · exact .kTuple h1 h2
  | .dic l m, c, h =>
    cases h
    obtain ⟨p, e, kvs, h, _⟩ := c.dic
    subst e
    rcases h with h | ⟨o, h⟩
    · exact .base (.dK h)
    · exact .fDict h
theorem ae_isi {X : Cx} {e : Expr} {a : AE'} {T : String} {y : Str} {p p2 pos : Pos} (ha : AE X e a) (hg : Gl X "isinstance") (hm : X.mg "isinstance" = none) (gT : Gl X y) (mT : X.mg y = none) (vT : bootBuiltins y = some (.type T)) (nT : y ≠ "__name__" := by decide) (dT : (y == ("__debug__" : Str)) = false := by decide)
    (he : starEach [e, .Name y p2] X.env = (false, eval e X.env) :: starEach [.Name y p2] X.env := by rfl) (he2 : starEach [.Name y p2] X.env = (false, eval (.Name y p2) X.env) :: starEach [] X.env := by rfl) (hpl : (backTo pos (starEach [.Name y p2] X.env)).any (·.1) = false := by rfl) :
    AE X (.Call (.Name "isinstance" p) [e, .Name y p2] [] pos) (aIsi T a) := by
  obtain ⟨t, pe, s⟩ := ha
  refine ⟨_, pe_callB call_isi hg hm (by decide +kernel) (pa_cons pe (pa_cons (pe_bltn (v := .ty T) gT mT vT rfl nT dT) pa_nil he2) he) (by decide) (by decide) he hpl, fun Y H σ env R Q rep q k => ?_⟩
  refine s Y H σ env _ _ rep q fun v H' env' z Y' rep' g ok q' => ?_
  obtain ⟨d, e1, c⟩ := ok.rc rep'
  simp only [e1] at q'
  obtain ⟨ty, b, h1, h2, q'⟩ := q'
  exact ⟨v, .ty T, _, _, b, rfl, .ty T, c.ty h1, kit_ty h2, k (.bl b) H' env' (.dat (.bl b)) Y (rep'.less g.yu) g.drop ⟨rfl, .bl b⟩ q'⟩

/-! ### methods of lists -/
/-- x.append(e), x.extend(e), x.pop(e): x an owned list's name, e data -/
def aMut (i : Nat) (t : AA') (f : List D → List D → (List D → D → Prop) → Prop) : AE' := fun env R => (∃ l, env[i]? = some (.own (.lst l))) ∧ t env fun rs env1 => match env1[i]?, dats rs with
  | some (.own (.lst l)), some ds => f l ds fun l' z => R (.dat z) (env1.set i (.own (.lst l')))
  | _, _ => False
def fAppend (l : List D) (ds : List D) (N : List D → D → Prop) : Prop := match ds with
  | [d] => l.length < sizeLine ∧ N (l ++ [d]) .non
  | _ => False
def fExtend (l : List D) (ds : List D) (N : List D → D → Prop) : Prop := match ds with
  | [.lst m] => l.length + m.length ≤ sizeLine ∧ N (l ++ m) .non
  | _ => False
def fPopAt (l : List D) (ds : List D) (N : List D → D → Prop) : Prop := match ds with
  | [.int i] => -(2 ^ 63) ≤ i ∧ i < 2 ^ 63 ∧ ∃ k z, seqIndex? i l.length = some k ∧ l[k]? = some z ∧ N (l.eraseIdx k) z
  | _ => False
end AL
namespace AL
open PySem L2
/-! AL15: methods, fields, instances. -/
/-- what a method that changes an owned list does -/
def MutS (K : Fg) (r : V → List V → Hp → VK → Prop) (f : List D → List D → (List D → D → Prop) → Prop) : Prop := ∀ (Y : Ad) (H : Hp) (σ : L2.St) (env : AEnv) (i : Nat) (p : Addr) (l ds : List D) (us : List V) (N : List D → D → Prop) (Q : VK), Rep K Y H σ env →
  env[i]? = some (.own (.lst l)) → σ[i]? = some (some (.ref p)) → RDs K H (Pw Y σ env) us ds → f l ds N →
  (∀ v H' l' z, Rep K Y H' σ (env.set i (.own (.lst l'))) → Adv σ Y env H Y (env.set i (.own (.lst l'))) H' → RD K H' (Pw Y σ (env.set i (.own (.lst l')))) v z → N l' z → Q v H') → r (.ref p) us H Q
section
variable {K : Fg} {σ : L2.St} {Y : Ad} {env : AEnv} {H : Hp}
/-- an owned list is stored anew -/
theorem mut_lst {i : Nat} {p : Addr} {l l' : List D} {us' : List V} (R : Rep K Y H σ env) (h : env[i]? = some (.own (.lst l))) (hp : σ[i]? = some (some (.ref p))) (r : RDs K H (Pw Y σ env) us' l') (hl : l'.length ≤ sizeLine) :
    Rep K Y (upd H p (.lst us')) σ (env.set i (.own (.lst l'))) ∧ Adv σ Y env H Y (env.set i (.own (.lst l'))) (upd H p (.lst us')) ∧ (∀ {v : V} {d : D}, RD K H (Pw Y σ env) v d → RD K (upd H p (.lst us')) (Pw Y σ (env.set i (.own (.lst l')))) v d) := by
  have hi : i < env.length := (List.getElem?_eq_some_iff.mp h).1
  obtain ⟨a, b⟩ := R.mut (B := fun _ => false) (o := .lst us') (d1 := .lst l') h hp fun P pw g => ⟨us', upd_same, Go.rds g (fun a e => by subst e; exact .inr ⟨i, _, h, hp⟩) r, by rw [r.length]; exact hl⟩
  refine ⟨a, ⟨b.keep, b.ky, b.yu, fun a z => .inl z, fun j => ?_, b.live⟩, fun rd => b.rd R rd⟩
  by_cases e : i = j
  · subst e
    rw [List.getElem?_set_self hi, h]
    trivial
  · rw [List.getElem?_set_ne e]
    exact Sh.refl _
end
theorem ms_append (K : Fg) : MutS K rAppend fAppend := by
  intro Y H σ env i p l ds us N Q R h hp r f k
  match ds, r, f with
  | [d], .cons r .nil, f =>
    obtain ⟨q, hq, _, us0, hu, r0, hl⟩ := R.own i _ h
    rw [hp] at hq; cases hq
    obtain ⟨a, b, c⟩ := mut_lst (us' := us0 ++ [_]) (l' := l ++ [d]) R h hp (r0.append (.cons r .nil)) (by rw [List.length_append]; exact f.1)
    exact ⟨p, us0, _, rfl, rfl, hu, by rw [r0.length]; exact f.1, k .non _ _ .non a b .non f.2⟩
theorem ms_extend (K : Fg) : MutS K rExtend fExtend := by
  intro Y H σ env i p l ds us N Q R h hp r f k
  match ds, r, f with
  | [.lst m], .cons r .nil, f =>
    obtain ⟨q, hq, _, us0, hu, r0, hl⟩ := R.own i _ h
    rw [hp] at hq; cases hq
    cases r with
    | lst sl rm =>
      obtain ⟨a, b, c⟩ := mut_lst (us' := us0 ++ _) (l' := l ++ m) R h hp (r0.append rm) (by rw [List.length_append]; exact f.1)
      exact ⟨p, _, us0, _, rfl, rfl, hu, sl.1, by rw [r0.length, rm.length]; exact f.1, k .non _ _ .non a b .non f.2⟩
theorem RDs.eraseIdx {K : Fg} {H : Hp} {P : Ad} : ∀ {us : List V} {ds : List D} (n : Nat), RDs K H P us ds → RDs K H P (us.eraseIdx n) (ds.eraseIdx n)
  | _, _, _, .nil => .nil
  | _, _, 0, .cons _ t => t
  | _, _, n + 1, .cons r t => .cons r (RDs.eraseIdx n t)
theorem ms_popAt (K : Fg) : MutS K rPopAt fPopAt := by
  intro Y H σ env i p l ds us N Q R h hp r f k
  match ds, r, f with
  | [.int j], .cons r .nil, f =>
    cases r
    obtain ⟨f1, f2, m, z, f3, f4, f⟩ := f
    obtain ⟨q, hq, _, us0, hu, r0, hl⟩ := R.own i _ h
    rw [hp] at hq; cases hq
    obtain ⟨v, hv, rz⟩ := r0.get f4
    obtain ⟨a, b, c⟩ := mut_lst (us' := us0.eraseIdx m) (l' := l.eraseIdx m) R h hp (r0.eraseIdx m) (by
      have := List.length_eraseIdx_le l m
      rw [r0.length] at hl
      omega)
    exact ⟨p, us0, j, m, v, rfl, rfl, hu, f1, f2, by rw [r0.length]; exact f3, hv, k v _ _ z a b (c rz) f⟩
section
variable {X : Cx} {x name : Str} {pos apos cpos : Pos} {e : Expr} {es : List Expr} {t : AA'} {f : List D → List D → (List D → D → Prop) → Prop} {id : String} {r : V → List V → Hp → VK → Prop}
theorem ae_mut (i : Nat) (slot : Slot "list" name id) (hty : typeOf (.builtin id) = pure (.type "method_descriptor")) (hm : MtR X id r) (ms : MutS X.K r f) (ha : AA X (e :: es) t)
    (hN : X.N[i]? = some x := by rfl) (hv : Vis X.env.scope x := by first | exact Or.inl rfl | exact Or.inr (Or.inl rfl) | exact Or.inr (Or.inr rfl)) (hd : (x == ("__debug__" : Str)) = false := by decide) (hcd : (x == ("__classdict__" : Str)) = false := by decide)
    (hbase : attributeBase (.Name x pos) name X.env (eval (.Name x pos) X.env) = eval (.Name x pos) X.env := by rfl)
    (hfew : ((backTo cpos (starEach (e :: es) X.env)).all (fun x => !x.1) && (backToKw cpos (keywordEach [] X.env)).all (fun x => x.1.isSome)
      && decide ((e :: es).length + ([] : List Keyword).length + (if ([] : List Keyword).isEmpty then 0 else 1) < 30)) = true := by rfl)
    (hline : (apos.endLine == cpos.line) = true := by rfl) (hs : starEach (e :: es) X.env = (false, eval e X.env) :: starEach es X.env := by rfl) (hplain : (backTo cpos (starEach es X.env)).any (·.1) = false := by rfl) :
    AE X (.Call (.Attribute (.Name x pos) name apos) (e :: es) [] cpos) (aMut i t f) := by
  obtain ⟨ta, pa, sa⟩ := ha
  refine ⟨_, pe_bm PySem.F.plainAttrs_list slot hty hm (pe_var hN hv hd hcd) pa hbase hfew hline hs hplain, fun Y H σ env R Q rep q k => ?_⟩
  obtain ⟨⟨l0, h0⟩, q⟩ := q
  obtain ⟨p, hp, np, us0, hu0, _, _⟩ := rep.own i _ h0
  refine ⟨.ref p, hp, .inl ⟨rfl, us0, .of hu0⟩, ?_⟩
  refine sa Y H σ env _ _ rep q fun vs H1 env1 rs rep1 g1 ok1 q1 => ?_
  match w : env1[i]?, w2 : dats rs, q1 with
  | some (.own (.lst l)), some ds, q1 =>
    exact ms Y H1 σ env1 i p l ds vs _ _ rep1 w hp (ok1.dats w2) q1 fun v H2 l' z rep2 g2 rd q2 => k v H2 _ (.dat z) Y rep2 (g1.trans g2) ⟨rfl, rd⟩ q2
end
/-! ### d.get(k, e) -/
def aGet (o k e : AE') : AE' := fun env R => o env fun r env1 => (match val env1 r with | some (.dic _ _) => True | _ => False) ∧ aFrz k env1 fun rk env2 => aFrz e env2 fun re env3 => match val env3 r, rk, re with
  | some (.dic ks vs), .dat key, .dat dflt => isKey key = true ∧ R (.dat ((dGet ks vs key).getD dflt)) env3
  | _, _, _ => False
theorem ae_get {X : Cx} {o e f : Expr} {apos cpos : Pos} {fo fk fe : AE'} {j : Nat} (hr : Room j X.A) (ho : AE X o fo) (hk : AE X e fk) (he : AE X f fe) (m : M2 X o "get" apos e f cpos := by exact ⟨rfl, rfl, rfl, rfl⟩) : AE X (.Call (.Attribute o "get" apos) [e, f] [] cpos) (aGet fo fk fe) := by
  obtain ⟨t1, p1, s1⟩ := ho
  obtain ⟨t2, p2, s2⟩ := hk.frz
  obtain ⟨t3, p3, s3⟩ := he.frz
  refine ⟨_, pe_dget2 (by have := hr.un; omega) p1 p2 p3 m, fun Y H σ env R Q rep q k => ?_⟩
  refine s1 Y H σ env _ _ rep q fun v H1 env1 r1 Y1 rep1 g1 ok1 q1 => ?_
  obtain ⟨isd, q1⟩ := q1
  obtain ⟨d1, e1, c1⟩ := ok1.rc rep1
  rw [e1] at isd
  match d1, c1, isd with
  | .dic ks0 vs0, c1, _ =>
    obtain ⟨p, ep, kvs, hrd, _, _⟩ := c1.dic
    refine ⟨p, ep, .inl ⟨kvs, hrd⟩, ?_⟩
    refine s2 Y1 H1 σ env1 _ _ rep1 q1 fun vk H2 env2 r2 Y2 rep2 g2 ok2 q2 => ?_
    refine s3 Y2 H2 σ env2 _ _ rep2 q2 fun ve H3 env3 r3 Y3 rep3 g3 ok3 q3 => ?_
    obtain ⟨d, ed, cd⟩ := ok1.later (g2.trans g3) rep3
    have gg := (g1.trans g2).trans g3
    rw [ed] at q3
    match d, cd, r2, ok2, r3, ok3, q3 with
    | .dic ks vs, cd, .dat key, ok2, .dat dflt, ok3, q3 =>
      obtain ⟨hk, q3⟩ := q3
      obtain ⟨ey2, rd2⟩ := ok2
      obtain ⟨ey3, rd3⟩ := ok3
      subst ey2
      subst ey3
      obtain ⟨ky, rfl⟩ := isKey_of hk
      obtain ⟨p', ov, ep', g, _, _, hs, hn⟩ := dic_get cd (.inl (g3.rd rd2))
      rw [ep] at ep'
      cases ep'
      refine ⟨ov, g, ?_⟩
      have rd : RD X.K H3 (Pw Y3 σ env3) (ov.getD ve) ((dGet ks vs (kD ky)).getD dflt) := by
        cases w : dGet ks vs (kD ky) with
        | none => rw [hn w]; exact rd3
        | some z =>
          obtain ⟨u, e2, r⟩ := hs z w
          rw [e2]
          exact r
      exact k _ H3 env3 (.dat _) Y (rep3.less gg.yu) gg.drop ⟨rfl, rd.less (pw_less gg.yu)⟩ q3
/-! ### "".join(e) -/
def aJoin (s : Str) (a : AE') : AE' := fun env R => aFrz a env fun r env1 => match r with
  | .dat (.lst l) => ∃ ys : List Str, l = ys.map D.str ∧ (ys.map (·.length)).sum + ys.length * s.length ≤ 16777216 ∧ R (.dat (.str (Txt.join s ys))) env1
  | _ => False
theorem ae_join {X : Cx} {s : Str} {e : Expr} {j : Nat} {apos pos p : Pos} {a : AE'} (he : AE X e a) (hs : starEach [e] X.env = [(false, eval e X.env)] := by rfl) (hline : (apos.endLine == pos.line) = true := by rfl)
    (hbase : attributeBase (.Constant (.str s) j p) "join" X.env (eval (.Constant (.str s) j p) X.env) = eval (.Constant (.str s) j p) X.env := by rfl) :
    AE X (.Call (.Attribute (.Constant (.str s) j p) "join" apos) [e] [] pos) (aJoin s a) := by
  obtain ⟨t, pe, se⟩ := he.frz
  refine ⟨_, pe_join pe_str pe hs hbase hline, fun Y H σ env R Q rep q k => ⟨⟨s, rfl⟩, ?_⟩⟩
  refine se Y H σ env _ _ rep q fun v H1 env1 r1 Y1 rep1 g1 ok1 q1 => ?_
  match r1, ok1, q1 with
  | .dat (.lst l), ok1, q1 =>
    obtain ⟨ys, e1, hz, q1⟩ := q1
    obtain ⟨ey, rd⟩ := ok1
    subst ey
    subst e1
    cases rd with
    | lst sl r =>
      have := r.ofStrs
      subst this
      exact ⟨s, _, ys, rfl, rfl, .inl sl.sq, hz, k _ H1 env1 (.dat _) Y1 rep1 g1 ⟨rfl, .str _⟩ q1⟩
/-! ### l.index(e) -/
def aIndex (o e : AE') : AE' := fun env R => o env fun r env1 => (match val env1 r with | some (.lst _) => True | _ => False) ∧ aFrz e env1 fun re env2 => match val env2 r, re with
  | some (.lst l), .dat d => d.sh ∧ (D.lst l).sh ∧ ∃ (j : Nat) (z : D), l[j]? = some z ∧ PyData.eqv z.pd d.pd = true ∧ (∀ (m : Nat) (z' : D), m < j → l[m]? = some z' → PyData.eqv z'.pd d.pd = false) ∧ R (.dat (.int j)) env2
  | _, _ => False
theorem pds_get : ∀ {l : List D} {j : Nat}, (pds l)[j]? = (l[j]?).map D.pd
  | [], _ => rfl
  | d :: l, 0 => rfl
  | d :: l, j + 1 => by
    simp only [pds, List.getElem?_cons_succ]
    exact pds_get
theorem ae_index {X : Cx} {o e : Expr} {apos cpos : Pos} {fo fe : AE'} {j : Nat} (hr : Room j X.A) (ho : AE X o fo) (he : AE X e fe)
    (hbase : attributeBase o "index" X.env (eval o X.env) = eval o X.env := by rfl)
    (hfew : ((backTo cpos (starEach [e] X.env)).all (fun x => !x.1) && (backToKw cpos (keywordEach [] X.env)).all (fun x => x.1.isSome)
      && decide (([e] : List Expr).length + ([] : List Keyword).length + (if ([] : List Keyword).isEmpty then 0 else 1) < 30)) = true := by rfl)
    (hline : (apos.endLine == cpos.line) = true := by rfl) (hs : starEach [e] X.env = (false, eval e X.env) :: starEach [] X.env := by rfl) : AE X (.Call (.Attribute o "index" apos) [e] [] cpos) (aIndex fo fe) := by
  obtain ⟨t1, p1, s1⟩ := ho
  obtain ⟨t2, p2, s2⟩ := he.frz
  refine ⟨_, pe_bm PySem.F.plainAttrs_list PySem.F.slot_list_index PySem.F.type_list_index (mt_indexD (by have := hr.un; omega)) p1 (pa_cons p2 pa_nil hs) hbase hfew hline hs rfl, fun Y H σ env R Q rep q k => ?_⟩
  refine s1 Y H σ env _ _ rep q fun v H1 env1 r1 Y1 rep1 g1 ok1 q1 => ?_
  obtain ⟨isl, q1⟩ := q1
  obtain ⟨d1, e1, c1⟩ := ok1.rc rep1
  rw [e1] at isl
  match d1, c1, isl with
  | .lst l0, c1, _ =>
    obtain ⟨p, us0, ep, hu0, _, _⟩ := c1.lst
    subst ep
    refine ⟨.inl ⟨rfl, us0, .of hu0⟩, ?_⟩
    refine s2 Y1 H1 σ env1 _ _ rep1 q1 fun ve H2 env2 r2 Y2 rep2 g2 ok2 q2 => ?_
    obtain ⟨d, ed, cd⟩ := ok1.later g2 rep2
    have gg := g1.trans g2
    rw [ed] at q2
    match d, cd, r2, ok2, q2 with
    | .lst l, cd, .dat x, ok2, q2 =>
      obtain ⟨h1, h2, jj, z, h3, h4, h5, q2⟩ := q2
      obtain ⟨ey, rd⟩ := ok2
      subst ey
      have hd := cd.dp h2
      simp only [D.pd, D.sh] at hd h2
      refine ⟨p, ve, x.pd, pds l, jj, z.pd, rfl, rfl, hd, (RC.dp (.inl rd) h1), h2, h1, by rw [pds_get, h3]; rfl, h4, fun m z' hm hz' => ?_, k _ H2 env2 (.dat (.int jj)) Y (rep2.less gg.yu) gg.drop ⟨rfl, .int _⟩ q2⟩
      rw [pds_get] at hz'
      cases w : l[m]? with
      | none => rw [w] at hz'; cases hz'
      | some y =>
        rw [w] at hz'
        cases hz'
        exact h5 m y hm w
/-! ### fields -/
def fldD (C : Addr) (f : Str) : D → Option D
  | .obj C' ns l => if C' = C then (ns.zip l).lookup f else none
  | _ => none
def aFld (C : Addr) (f : Str) (a : AE') : AE' := fun env R => a env fun r env1 => match val env1 r with
  | some d => ∃ z, fldD C f d = some z ∧ R (.dat z) env1
  | none => False
theorem RDs.lookup {K : Fg} {H : Hp} {P : Ad} {f : Str} {z : D} : ∀ {fs : List (Str × V)} {l : List D}, RDs K H P (fs.map (·.2)) l → ((fs.map (·.1)).zip l).lookup f = some z → ∃ v, fs.lookup f = some v ∧ RD K H P v z
  | [], _, .nil, h => by cases h
  | (g, v) :: r, _, .cons h1 h2, h => by
    simp only [List.map_cons, List.zip_cons_cons, List.lookup_cons] at h ⊢
    cases e : (f == g) with
    | true =>
      rw [e] at h
      cases h
      exact ⟨v, rfl, h1⟩
    | false =>
      rw [e] at h
      exact RDs.lookup h2 h
theorem RC.obj {K : Fg} {H : Hp} {P : Ad} {v : V} {C : Addr} {ns : List Str} {l : List D} (h : RC K H P v (.obj C ns l)) : ∃ p dx fs, v = .ref p ∧ H p = some (.ins C dx fs) ∧ ns = fs.map (·.1) ∧ RDs K H P (fs.map (·.2)) l := by
  rcases h with h | ⟨p, e, h⟩
  · cases h with
    | obj s n e r => exact ⟨_, _, _, rfl, s, e, r⟩
  · obtain ⟨dx, fs, a, b, c⟩ := h
    exact ⟨p, dx, fs, e, a, b, c⟩
theorem ae_fld {X : Cx} {e : Expr} {f : Str} {pos : Pos} {a : AE'} {C : Addr} (c : Cls X.K C) (n : NoAttr X.K C f) (h : AE X e a) (hb : attributeBase e f X.env (eval e X.env) = eval e X.env := by rfl) : AE X (.Attribute e f pos) (aFld C f a) := by
  obtain ⟨t, p, s⟩ := h
  refine ⟨_, pe_fld p hb, fun Y H σ env R Q rep q k => ?_⟩
  refine s Y H σ env _ _ rep q fun v H1 env1 r1 Y1 rep1 g1 ok1 q1 => ?_
  obtain ⟨d, e1, cd⟩ := ok1.rc rep1
  simp only [e1] at q1
  obtain ⟨z, hz, q1⟩ := q1
  match d, cd, hz with
  | .obj C' ns l, cd, hz =>
    simp only [fldD] at hz
    split at hz
    · rename_i ec
      subst ec
      obtain ⟨p, dx, fs, e2, h2, e3, r⟩ := cd.obj
      subst e3
      obtain ⟨u, h3, r3⟩ := r.lookup hz
      exact ⟨p, C', dx, fs, u, e2, h2, c, n, h3, k u H1 env1 (.dat z) Y (rep1.less g1.yu) g1.drop ⟨rfl, r3.less (pw_less g1.yu)⟩ q1⟩
    · cases hz
end AL
namespace AL
open PySem L2
/-! AL16: fields stored, methods of objects, objects made. -/
def oPut (f : Str) (d : D) : List Str → List D → List Str × List D
  | [], _ => ([f], [d])
  | g :: ns, u :: l => if g = f then (g :: ns, d :: l) else (g :: (oPut f d ns l).1, u :: (oPut f d ns l).2)
  | g :: ns, [] => (g :: ns, [])
theorem RDs.putF {K : Fg} {H : Hp} {P : Ad} {f : Str} {v : V} {d : D} (h : RD K H P v d) : ∀ {fs : List (Str × V)} {l : List D}, RDs K H P (fs.map (·.2)) l →
    (oPut f d (fs.map (·.1)) l).1 = (L2.putF f v fs).map (·.1) ∧ RDs K H P ((L2.putF f v fs).map (·.2)) (oPut f d (fs.map (·.1)) l).2
  | [], _, .nil => ⟨rfl, .cons h .nil⟩
  | (g, u) :: r, _, .cons h1 h2 => by
    simp only [List.map_cons, oPut, L2.putF]
    by_cases e : g = f
    · rw [if_pos e, if_pos e]
      exact ⟨rfl, .cons h h2⟩
    · rw [if_neg e, if_neg e]
      obtain ⟨a, b⟩ := RDs.putF h h2
      exact ⟨congrArg (g :: ·) a, .cons h1 b⟩
/-- x.f = e: x an owned object's name -/
def aFldSet (i : Nat) (C : Addr) (f : Str) (a : AE') : AS' := fun A env => aFrz a env fun r env1 => match r, env1[i]? with
  | .dat d, some (.own (.obj C' ns l)) => C' = C ∧ ns.length < 1000 ∧ A.nx (env1.set i (.own (.obj C (oPut f d ns l).1 (oPut f d ns l).2)))
  | _, _ => False
section
variable {X : Cx} {B : Nat → Bool} {x f m : Str} {e o : Expr} {es : List Expr} {pos p pos' apos : Pos} {a : AE'} {C : Addr}
theorem as_fldset (i : Nat) (c : Cls X.K C) (n : NoAttr X.K C f) (h : AE X e a) (hN : X.N[i]? = some x := by rfl) (hv : Vis X.env.scope x := by first | exact Or.inl rfl | exact Or.inr (Or.inl rfl) | exact Or.inr (Or.inr rfl)) (hd : (x == ("__debug__" : Str)) = false := by decide)
    (hcd : (x == ("__classdict__" : Str)) = false := by decide) (hs : swapsWith e (some (.Attribute (.Name x p) f pos')) pos.line X.env = pure false := by rfl) : AS X B (.Assign [.Attribute (.Name x p) f pos'] e pos) (aFldSet i C f a) := by
  obtain ⟨t, pe, s⟩ := h.frz
  refine ⟨_, ps_fld (pe_var hN hv hd hcd) pe hs, fun Y H σ env D A rep q k => ?_⟩
  refine s Y H σ env _ _ rep q fun v H1 env1 r Y1 rep1 g1 ok q1 => ?_
  match r, ok, w : env1[i]?, q1 with
  | .dat d, ok, some (.own (.obj C' ns l)), q1 =>
    obtain ⟨ey, rd⟩ := ok
    subst ey
    obtain ⟨rfl, hl, q1⟩ := q1
    obtain ⟨q0, hq, np, dx, fs, ha, en, r⟩ := rep1.own i _ w
    subst en
    obtain ⟨e1, r2⟩ := r.putF (f := f) rd
    obtain ⟨r3, g3⟩ := rep1.mut (B := B) (o := .ins C' dx (putF f v fs)) (d1 := .obj C' (oPut f d (fs.map (·.1)) l).1 (oPut f d (fs.map (·.1)) l).2) w hq fun P pw g => ⟨dx, _, upd_same, e1, Go.rds g (fun a e => by subst e; exact .inr ⟨i, _, w, hq⟩) r2⟩
    exact ⟨_, hq, q0, C', dx, fs, rfl, ha, c, n, by simpa using hl, k.nx _ σ _ r3 (g1.toS.trans rep g3) q1⟩
end
/-! ### o.m(e, ..) -/
def aMeth (C : Addr) (m : Str) (S : ASp) (a : AE') (t : AA') : AE' := fun env R => a env fun r env1 => (match r with | .new _ => False | _ => True) ∧ (∃ ns l, val env1 r = some (.obj C ns l) ∧ ns.all (fun g => !(m == g)) = true) ∧ t env1 fun rs env2 => callR S (r :: rs) env2 R
theorem lookup_none {m : Str} : ∀ {fs : List (Str × V)}, (fs.map (·.1)).all (fun g => !(m == g)) = true → fs.lookup m = none
  | [], _ => rfl
  | (g, v) :: r, h => by
    rw [List.map_cons, List.all_cons, Bool.and_eq_true] at h
    have e : (m == g) = false := by simpa using h.1
    rw [List.lookup_cons, e]
    exact lookup_none h.2
section
variable {X : Cx} {m : Str} {e o : Expr} {es : List Expr} {pos apos : Pos} {a : AE'} {t : AA'} {C f : Addr} {S : ASp} {k : Nat} {fd : FuncData} {ps : List Str}
theorem snd_meth {ta : TE} {tt : TA} (sa : Snd X.K ta a) (st : SndA X.K tt t) (E : XK) : Snd X.K (tMeth C m (toSp X.K S) [] E ta tt) (aMeth C m S a t) := by
  intro Y H σ env R Q rep q k
  refine sa Y H σ env _ _ rep q fun v H1 env1 r Y1 rep1 g1 ok1 q1 => ?_
  obtain ⟨nn, ⟨ns, l, e1, nm⟩, q1⟩ := q1
  have ey : Y1 = Y := by
    match r, ok1, nn with
    | .dat _, ok, _ => exact ok.1
    | .at _, ok, _ => exact ok.1
  subst ey
  obtain ⟨d, e2, c⟩ := ok1.rc rep1
  rw [e1] at e2
  cases e2
  obtain ⟨p, dx, fs, ev, hp, en, _⟩ := c.obj
  subst ev
  subst en
  refine ⟨p, dx, fs, rfl, hp, lookup_none nm, ?_⟩
  refine st Y1 H1 σ env1 _ _ rep1 q1 fun vs H2 env2 rs rep2 g2 ok2 q2 => ?_
  rw [List.append_nil]
  exact call_ok rep2 (.cons (ok1.on g2) ok2) q2 (fun v H3 env3 r Y3 rep3 g3 ok3 q3 => k v H3 env3 r Y3 rep3 ((g1.trans g2).trans g3) ok3 q3) _
theorem ae_meth {pl : Sem Bool} (c : Cls X.K C) (hm : Meth X.K C m f) (F : FnOk X.prog X.w X.K X.mg X.base CX0 k f fd ps (toSp X.K S)) (hr : Room k X.A) (hb : Binds X.K fd ps []) (he : AE X o a) (ha : AA X (e :: es) t)
    (hst : starEach (e :: es) X.env = (false, eval e X.env) :: starEach es X.env := by rfl) (hpl : (backTo pos (starEach es X.env)).any (·.1) = false := by rfl)
    (ht : eval (.Call (.Attribute o m apos) (e :: es) [] pos) X.env = (do
      let ov ← eval o X.env
      standAt apos.atName
      let (f, first) ← holding [ov] (getMethod ov m pl)
      callWith pos f first (backTo pos (starEach (e :: es) X.env)) (backToKw pos (keywordEach [] X.env))) := by rfl) : AE X (.Call (.Attribute o m apos) (e :: es) [] pos) (aMeth C m S a t) := by
  obtain ⟨ta, pa, sa⟩ := he
  obtain ⟨tt, pt, st⟩ := ha
  exact ⟨_, pe_meth (pl := pl) pa c hm F hr hb .nil pass0 pt hst hpl ht, snd_meth sa st _⟩
theorem ae_meth0 {pl : Sem Bool} (c : Cls X.K C) (hm : Meth X.K C m f) (F : FnOk X.prog X.w X.K X.mg X.base CX0 k f fd ps (toSp X.K S)) (hr : Room k X.A) (hb : Binds X.K fd ps []) (he : AE X o a)
    (ht : eval (.Call (.Attribute o m apos) [] [] pos) X.env = (do
      let ov ← eval o X.env
      standAt apos.atName
      let (f, first) ← holding [ov] (getMethod ov m pl)
      callWith pos f first (backTo pos (starEach [] X.env)) (backToKw pos (keywordEach [] X.env))) := by rfl) : AE X (.Call (.Attribute o m apos) [] [] pos) (aMeth C m S a aNil) := by
  obtain ⟨ta, pa, sa⟩ := he
  exact ⟨_, pe_meth0 (pl := pl) pa c hm F hr hb .nil pass0 ht, snd_meth sa (fun Y H σ env R Q rep h k => k [] H env [] rep Adv.refl .nil h) _⟩
theorem ae_fn0 {x : Str} {p : Pos} (F : FnOk X.prog X.w X.K X.mg X.base CX0 k f fd ps (toSp X.K S)) (hr : Room k X.A) (hg : Gl X x) (hm : X.mg x = some (.ref f)) (hk : PySem.W.keepIn X.K (.ref f) = true) (hb : Binds X.K fd ps []) (hdb : (x == ("__debug__" : Str)) = false := by decide) : AE X (.Call (.Name x p) [] [] pos) (aFn S aNil) := by
  refine ⟨_, pe_call0 F hr hg hm hk hb .nil pass0 hdb, fun Y H σ env R Q rep q k => ?_⟩
  exact call_ok rep .nil q (fun v H2 env2 r Y2 rep2 g2 ok2 q2 => k v H2 env2 r Y2 rep2 g2 ok2 q2) E0
end
/-! ### a slot more -/
section
variable {K : Fg} {σ : L2.St} {Y Y' : Ad} {env env' : AEnv} {H H' : Hp} {s : Option V}
theorem own_snoc_un (hl : σ.length = env.length) (a : Addr) : Own (σ ++ [s]) (env ++ [.un]) a ↔ Own σ env a := by
  constructor
  · rintro ⟨i, d, e, w⟩
    by_cases h : i < env.length
    · rw [List.getElem?_append_left h] at e
      rw [List.getElem?_append_left (by omega)] at w
      exact ⟨i, d, e, w⟩
    · rw [List.getElem?_append_right (by omega)] at e
      cases z : i - env.length with
      | zero => rw [z] at e; cases e
      | succ n => rw [z] at e; cases e
  · rintro ⟨i, d, e, w⟩
    have h : i < env.length := (List.getElem?_eq_some_iff.mp e).1
    exact ⟨i, d, by rw [List.getElem?_append_left h]; exact e, by rw [List.getElem?_append_left (by omega)]; exact w⟩
theorem Rep.unsnoc (R : Rep K Y H (σ ++ [s]) (env ++ [.un])) : Rep K Y H σ env := by
  have hl : σ.length = env.length := by simpa using R.len
  have pw : ∀ a, Pw Y σ env a → Pw Y (σ ++ [s]) (env ++ [.un]) a := fun a z => z.imp id (own_snoc_un hl a).mpr
  have up : ∀ {i : Nat} {x : AV}, env[i]? = some x → (env ++ [.un])[i]? = some x ∧ (σ ++ [s])[i]? = σ[i]? := fun {i x} e => by
    have h : i < env.length := (List.getElem?_eq_some_iff.mp e).1
    exact ⟨by rw [List.getElem?_append_left h]; exact e, by rw [List.getElem?_append_left (by omega)]⟩
  refine ⟨hl, fun i d e => ?_, fun i d e => ?_, R.yin, fun i j d e p q1 q2 w1 w2 => ?_⟩
  · obtain ⟨v, h, r⟩ := R.dat i d (up e).1
    rw [(up e).2] at h
    exact ⟨v, h, r.less pw⟩
  · obtain ⟨p, h, n, r⟩ := R.own i d (up e).1
    rw [(up e).2] at h
    exact ⟨p, h, n, r.less pw⟩
  · exact R.inj i j d e p (up q1).1 (up q2).1 (by rw [(up q1).2]; exact w1) (by rw [(up q2).2]; exact w2)
/-- a new thing stands at one slot more -/
theorem Rep.snoc {p : Addr} {d : D} {Y1 : Ad} (R : Rep K Y1 H σ env) (e : Y1 = fun a => Y a ∨ a = p) (n : ¬ Pw Y σ env p) (r : RO K H (Pw Y1 σ env) p d) : Rep K Y H (σ ++ [some (.ref p)]) (env ++ [.own d]) := by
  subst e
  have hl : σ.length = env.length := R.len
  have at_ : ∀ {i : Nat} {x : AV}, (env ++ [.own d])[i]? = some x → (env[i]? = some x ∧ (σ ++ [some (.ref p)])[i]? = σ[i]?) ∨ (x = .own d ∧ i = env.length ∧ (σ ++ [some (V.ref p)])[i]? = some (some (.ref p))) := fun {i x} q => by
    by_cases h : i < env.length
    · rw [List.getElem?_append_left h] at q
      exact .inl ⟨q, by rw [List.getElem?_append_left (by omega)]⟩
    · rw [List.getElem?_append_right (by omega)] at q
      cases z : i - env.length with
      | zero =>
        rw [z] at q
        cases q
        refine .inr ⟨rfl, by omega, ?_⟩
        rw [List.getElem?_append_right (by omega), hl, z]
        rfl
      | succ n => rw [z] at q; cases q
  have ow : ∀ a, Own (σ ++ [some (.ref p)]) (env ++ [.own d]) a → Own σ env a ∨ a = p := fun a ⟨i, d', q, w⟩ => by
    rcases at_ q with ⟨q1, q2⟩ | ⟨_, _, q2⟩
    · rw [q2] at w
      exact .inl ⟨i, d', q1, w⟩
    · rw [q2] at w
      cases w
      exact .inr rfl
  have pw : ∀ a, Pw Y (σ ++ [some (.ref p)]) (env ++ [.own d]) a → Pw (fun a => Y a ∨ a = p) σ env a := fun a z => by
    rcases z with z | z
    · exact .inl (.inl z)
    · rcases ow a z with z | z
      · exact .inr z
      · exact .inl (.inr z)
  refine ⟨by simp [hl], fun i d' q => ?_, fun i d' q => ?_, fun a z => R.yin a (.inl z), fun i j d1 d2 p' q1 q2 w1 w2 => ?_⟩
  · rcases at_ q with ⟨q1, q2⟩ | ⟨z, _, _⟩
    · obtain ⟨v, h, r⟩ := R.dat i d' q1
      exact ⟨v, by rw [q2]; exact h, r.less pw⟩
    · cases z
  · rcases at_ q with ⟨q1, q2⟩ | ⟨z, _, q2⟩
    · obtain ⟨p', h, m, r⟩ := R.own i d' q1
      exact ⟨p', by rw [q2]; exact h, fun z => m (.inl z), r.less pw⟩
    · cases z
      exact ⟨p, q2, fun z => n (.inl z), r.less pw⟩
  · rcases at_ q1 with ⟨a1, b1⟩ | ⟨z1, a1, b1⟩
    · rcases at_ q2 with ⟨a2, b2⟩ | ⟨z2, a2, b2⟩
      · exact R.inj i j d1 d2 p' a1 a2 (by rw [← b1]; exact w1) (by rw [← b2]; exact w2)
      · rw [b2] at w2
        cases w2
        rw [b1] at w1
        exact (n (.inr ⟨i, d1, a1, w1⟩)).elim
    · rcases at_ q2 with ⟨a2, b2⟩ | ⟨z2, a2, b2⟩
      · rw [b1] at w1
        cases w1
        rw [b2] at w2
        exact (n (.inr ⟨j, d2, a2, w2⟩)).elim
      · omega
end
end AL
namespace AL
open PySem L2
/-! AL17: objects made. -/
def aMake (C : Addr) (S : ASp) (t : AA') : AE' := fun env R => t env fun rs env1 => callR S (.at env1.length :: rs) (env1 ++ [.own (.obj C [] [])]) fun r env2 => r = .dat .non ∧ ∃ d, env2[env1.length]? = some (.own d) ∧ R (.new d) (env2.take env1.length)
section
variable {K : Fg} {σ : L2.St} {Y Y' : Ad} {env : AEnv} {H H' : Hp}
theorem own_snoc {p : Addr} {d : D} (hl : σ.length = env.length) {a : Addr} : Own (σ ++ [some (.ref p)]) (env ++ [.own d]) a → Own σ env a ∨ a = p := fun ⟨i, d', q, w⟩ => by
  by_cases h : i < env.length
  · rw [List.getElem?_append_left h] at q
    rw [List.getElem?_append_left (by omega)] at w
    exact .inl ⟨i, d', q, w⟩
  · rw [List.getElem?_append_right (by omega)] at q
    cases z : i - env.length with
    | zero =>
      rw [List.getElem?_append_right (by omega), hl, z] at w
      cases w
      exact .inr rfl
    | succ n => rw [z] at q; cases q
theorem ResOk.snoc {p : Addr} {d : D} {v : V} (hl : σ.length = env.length) (n : H p = none) (k : Same H H') : ∀ {r : RV}, ResOk K H Y Y σ env v r → ResOk K H' Y Y (σ ++ [some (.ref p)]) (env ++ [.own d]) v r
  | .dat e, h => by
    refine ⟨rfl, h.2.go (P0 := fun _ => False) ⟨fun a o q _ => .inl (k a o q), fun a z => ?_⟩ fun _ z => z.elim⟩
    rcases z with z | z
    · exact .inl (.inl z)
    · rcases own_snoc hl z with z | z
      · exact .inl (.inr z)
      · exact .inr (by rw [z]; exact n)
  | .at i, h => by
    obtain ⟨_, h1, e, h2⟩ := h
    have hi : i < env.length := by
      rcases h2 with h2 | h2 <;> exact (List.getElem?_eq_some_iff.mp h2).1
    refine ⟨rfl, by rw [List.getElem?_append_left (by omega)]; exact h1, e, ?_⟩
    rw [List.getElem?_append_left hi]
    exact h2
  | .new e, h => by
    obtain ⟨q, _, ey, m, _⟩ := h
    refine (m (.inl ?_)).elim
    rw [ey]
    exact .inr rfl
theorem ArgsOk.snoc {p : Addr} {d : D} (hl : σ.length = env.length) (n : H p = none) (k : Same H H') : ∀ {vs : List V} {rs : List RV}, ArgsOk K H Y σ env vs rs → ArgsOk K H' Y (σ ++ [some (.ref p)]) (env ++ [.own d]) vs rs
  | _, _, .nil => .nil
  | _, _, .cons h r => .cons (h.snoc hl n k) (ArgsOk.snoc hl n k r)
end
theorem snd_make {K : Fg} {C : Addr} {S : ASp} {tt : TA} {t : AA'} (st : SndA K tt t) (E : XK) : Snd K (tMake C (toSp K S) [] E tt) (aMake C S t) := by
  intro Y H σ env R Q rep q k
  refine st Y H σ env _ _ rep q fun vs H1 env1 rs rep1 g1 ok1 q1 => ?_
  intro x dx hx hdx hne
  rw [List.append_nil]
  have hl : σ.length = env1.length := rep1.len
  have s2 : Same H1 (upd (upd H1 dx (.own x)) x (.ins C dx [])) := fun b o e => by
    rw [upd_ne (ne_of_none e hx), upd_ne (ne_of_none e hdx)]
    exact e
  have nf := rep1.fresh hx
  have rep2 : Rep K (fun a => Y a ∨ a = x) (upd (upd H1 dx (.own x)) x (.ins C dx [])) σ env1 := rep1.grow (fun a z => z.imp id fun e => by rw [e]; exact hx) s2 fun a z => by
    rcases z with z | z
    · obtain ⟨o, e⟩ := rep1.yin a z
      exact ⟨o, s2 a o e⟩
    · subst z
      exact ⟨_, upd_same⟩
  have repE := rep2.snoc (d := .obj C [] []) rfl nf ⟨dx, [], upd_same, rfl, .nil⟩
  have okE : ArgsOk K (upd (upd H1 dx (.own x)) x (.ins C dx [])) Y (σ ++ [some (.ref x)]) (env1 ++ [.own (.obj C [] [])]) (V.ref x :: vs) (.at env1.length :: rs) := by
    refine .cons ⟨rfl, ?_, .obj C [] [], .inl ?_⟩ (ok1.snoc hl hx s2)
    · rw [← hl, List.getElem?_append_right (Nat.le_refl _), Nat.sub_self]
      rfl
    · rw [List.getElem?_append_right (Nat.le_refl _), Nat.sub_self]
      rfl
  refine call_ok repE okE q1 (fun v H3 env3 r Y3 rep3 g3 ok3 q3 => ?_) E
  obtain ⟨rfl, d, hd, q3⟩ := q3
  obtain ⟨ey, rd⟩ := ok3
  subst ey
  have hv : v = .non := by cases rd; rfl
  refine ⟨hv, ?_⟩
  have hx3 : (σ ++ [some (V.ref x)])[env1.length]? = some (some (.ref x)) := by
    rw [← hl, List.getElem?_append_right (Nat.le_refl _), Nat.sub_self]
    rfl
  obtain ⟨Y4, rep4, g4, ok4⟩ := rep3.give (B := fun _ => false) rfl hd hx3
  have l3 : env3.length = env1.length + 1 := by
    have := rep3.len
    rw [List.length_append, hl] at this
    simpa using this.symm
  have es : env3.set env1.length .un = env3.take env1.length ++ [.un] := by
    apply List.ext_getElem?
    intro i
    by_cases h : i = env1.length
    · subst h
      rw [List.getElem?_set_self (by omega), List.getElem?_append_right (by rw [List.length_take]; omega), List.length_take]
      have : env1.length - min env1.length env3.length = 0 := by omega
      rw [this]
      rfl
    · rw [List.getElem?_set_ne (Ne.symm h)]
      by_cases h2 : i < env1.length
      · rw [List.getElem?_append_left (by rw [List.length_take]; omega), List.getElem?_take_of_lt h2]
      · rw [List.getElem?_eq_none (by omega), List.getElem?_append_right (by rw [List.length_take]; omega), List.length_take]
        have : i - min env1.length env3.length = (i - env1.length - 1) + 1 := by omega
        rw [this]
        rfl
  rw [es] at rep4 ok4
  have lt : σ.length = (env3.take env1.length).length := by rw [List.length_take]; omega
  have rep5 := rep4.unsnoc
  obtain ⟨p, e1, e2, n4, ro4⟩ := ok4
  cases e1
  have pw : ∀ (Z : Ad) a, Pw Z σ (env3.take env1.length) a → Pw Z (σ ++ [some (V.ref x)]) (env3.take env1.length ++ [.un]) a := fun Z a z => z.imp id (own_snoc_un lt a).mpr
  have nz : ∀ {a : Addr} {o : HO}, H1 a = some o → ¬ Own σ env1 a → ¬ Own (σ ++ [some (V.ref x)]) (env1 ++ [.own (.obj C [] [])]) a := fun {a o} e n z => by
    rcases own_snoc hl z with z | z
    · exact n z
    · subst z
      rw [hx] at e; cases e
  refine k _ H3 (env3.take env1.length) (.new d) Y4 rep5 (g1.trans ⟨fun a o e n => g3.keep a o (s2 a o e) (nz e n), fun a z => ?_, fun a z => by rw [e2]; exact .inl z, fun a z => ?_, fun i => ?_, fun a o e => g3.live a o (s2 a o e)⟩) ⟨x, rfl, e2, fun z => n4 (pw _ _ z), ro4.less (pw _)⟩ q3
  · obtain ⟨o, e⟩ := rep1.yin a z
    rw [g3.ky a z, s2 a o e, e]
  · rw [e2] at z
    exact z.imp id fun e => by rw [e]; exact hx
  · have s := g3.sh i
    by_cases h : i < env1.length
    · rw [List.getElem?_append_left h] at s
      rw [List.getElem?_take_of_lt h]
      exact s
    · rw [List.getElem?_eq_none (by omega), List.getElem?_eq_none (by rw [List.length_take]; omega)]
      trivial
section
variable {X : Cx} {x : Str} {p pos : Pos} {e : Expr} {es : List Expr} {t : AA'} {S : ASp} {k : Nat} {C f : Addr} {fd : FuncData} {ps : List Str}
theorem ae_make (M : Mk X.K C f) (F : FnOk X.prog X.w X.K X.mg X.base CX0 k f fd ps (toSp X.K S)) (hr : Room (k + 1) X.A) (hg : Gl X x) (hm : X.mg x = some (.ref C)) (hb : Binds X.K fd ps []) (ha : AA X (e :: es) t) (hdb : (x == ("__debug__" : Str)) = false := by decide)
    (he : starEach (e :: es) X.env = (false, eval e X.env) :: starEach es X.env := by rfl) (hpl : (backTo pos (starEach es X.env)).any (·.1) = false := by rfl) : AE X (.Call (.Name x p) (e :: es) [] pos) (aMake C S t) := by
  obtain ⟨u, pa, s⟩ := ha
  exact ⟨_, pe_make M F hr hg hm hb .nil pass0 pa hdb he hpl, snd_make s _⟩
theorem ae_make0 (M : Mk X.K C f) (F : FnOk X.prog X.w X.K X.mg X.base CX0 k f fd ps (toSp X.K S)) (hr : Room (k + 1) X.A) (hg : Gl X x) (hm : X.mg x = some (.ref C)) (hb : Binds X.K fd ps []) (hdb : (x == ("__debug__" : Str)) = false := by decide) : AE X (.Call (.Name x p) [] [] pos) (aMake C S aNil) :=
  ⟨_, pe_make0 M F hr hg hm hb .nil pass0 hdb, snd_make (fun Y H σ env R Q rep h k => k [] H env [] rep Adv.refl .nil h) E0⟩
end
end AL
namespace AL
open PySem L2
/-! AL18: a, b = x, y where new things stay owned. -/
inductive News (K : Fg) (H : Hp) (σ : L2.St) (env : AEnv) (Y' : Ad) : Ad → List V → List RV → Prop
  | nil {Y : Ad} : News K H σ env Y' Y [] []
  | dat {Y : Ad} {v : V} {d : D} {vs : List V} {rs : List RV} : RD K H (Pw Y' σ env) v d → News K H σ env Y' Y vs rs → News K H σ env Y' Y (v :: vs) (.dat d :: rs)
  | new {Y : Ad} {p : Addr} {d : D} {vs : List V} {rs : List RV} : Y' p → ¬ Pw Y σ env p → RO K H (Pw Y' σ env) p d → News K H σ env Y' (fun a => Y a ∨ a = p) vs rs → News K H σ env Y' Y (.ref p :: vs) (.new d :: rs)
theorem News.len {K : Fg} {H : Hp} {σ : L2.St} {env : AEnv} {Y' : Ad} : ∀ {Y : Ad} {vs : List V} {rs : List RV}, News K H σ env Y' Y vs rs → vs.length = rs.length
  | _, _, _, .nil => rfl
  | _, _, _, .dat _ r => congrArg Nat.succ r.len
  | _, _, _, .new _ _ _ r => congrArg Nat.succ r.len
def SndN (K : Fg) (t : TA) (a : AA') : Prop := ∀ (Y : Ad) (H : Hp) (σ : L2.St) (env : AEnv) (R : List RV → AEnv → Prop) (Q : List V → Hp → Prop), Rep K Y H σ env → a env R →
  (∀ vs H' env' rs Y', Rep K Y' H' σ env' → Adv σ Y env H Y' env' H' → News K H' σ env' Y' Y vs rs → R rs env' → Q vs H') → t σ H Q
def AN (X : Cx) (es : List Expr) (a : AA') : Prop := ∃ t, PA X es t ∧ SndN X.K t a
def keepNew (env : AEnv) (R : RV → AEnv → Prop) : RV → Prop
  | .dat d => R (.dat d) env
  | .new d => R (.new d) env
  | .at i => match env[i]? with
    | some (.own d) => R (.dat d) (env.set i (.dat d))
    | some (.dat d) => R (.dat d) env
    | _ => False
def anCons (a : AE') (t : AA') : AA' := fun env R => a env fun r env1 => keepNew env1 (fun r' env2 => t env2 fun rs env3 => R (r' :: rs) env3) r
section
variable {X : Cx} {e : Expr} {es : List Expr} {a : AE'} {t : AA'}
theorem an_nil : AN X [] aNil := ⟨_, pa_nil, fun Y H σ env R Q rep h k => k [] H env [] Y rep Adv.refl .nil h⟩
theorem an_cons (h1 : AE X e a) (h2 : AN X es t) (hs : starEach (e :: es) X.env = (false, eval e X.env) :: starEach es X.env := by rfl) : AN X (e :: es) (anCons a t) := by
  obtain ⟨u, p, s⟩ := h1
  obtain ⟨u2, p2, s2⟩ := h2
  refine ⟨_, pa_cons p p2 hs, fun Y H σ env R Q rep h k => ?_⟩
  refine s Y H σ env _ _ rep h fun v H1 env1 r Y1 rep1 g1 ok1 q1 => ?_
  have go : ∀ (q : frz env1 (fun r' env2 => t env2 fun rs env3 => R (r' :: rs) env3) r), u2 σ H1 fun vs H2 => Q (v :: vs) H2 := fun q => by
    obtain ⟨env2, d, rep2, g2, rd, q2⟩ := frz_ok rep1 g1.yu ok1 q
    have gg := g1.drop.trans g2
    refine s2 Y H1 σ env2 _ _ rep2 q2 fun vs H3 env3 rs Y3 rep3 g3 nw q3 => ?_
    exact k _ H3 env3 _ Y3 rep3 (gg.trans g3) (.dat (g3.rd rd) nw) q3
  match r, ok1, q1, go with
  | .dat d, ok1, q1, go => exact go q1
  | .at i, ok1, q1, go =>
    refine go ?_
    simp only [keepNew] at q1
    simp only [frz]
    exact q1
  | .new d, ok1, q1, _ =>
    obtain ⟨p, e1, ey, n, ro⟩ := ok1
    subst ey
    subst e1
    refine s2 _ H1 σ env1 _ _ rep1 q1 fun vs H3 env3 rs Y3 rep3 g3 nw q3 => ?_
    refine k _ H3 env3 _ Y3 rep3 (g1.trans g3) (.new (g3.yu p (.inr rfl)) (fun z => ?_) (ro.go g3.go (fun _ z => .inr z) (g3.ky p (.inr rfl))) nw) q3
    rcases z with z | z
    · exact n (.inl z)
    · exact n (.inr (g3.own z))
end
/-! ### stores -/
def parS : L2.St → List Nat → List V → L2.St
  | σ, i :: is, v :: vs => parS (σ.set i (some v)) is vs
  | σ, _, _ => σ
def parE : AEnv → List Nat → List RV → AEnv
  | env, i :: is, .dat d :: rs => parE (env.set i (.dat d)) is rs
  | env, i :: is, .new d :: rs => parE (env.set i (.own d)) is rs
  | env, _, _ => env
section
variable {K : Fg} {B : Nat → Bool}
theorem News.move {H H2 : Hp} {σ σ2 : L2.St} {env env2 : AEnv} {Y' Y2' : Ad} (k : Same H H2) (s1 : ∀ a, Pw Y2' σ2 env2 a → Pw Y' σ env a) : ∀ {vs : List V} {rs : List RV} {Ya Yb : Ad}, (∀ a, Pw Yb σ2 env2 a → Pw Ya σ env a) → (∀ a, Y' a → ¬ Ya a → Y2' a) →
    News K H σ env Y' Ya vs rs → News K H2 σ2 env2 Y2' Yb vs rs
  | _, _, Ya, Yb, s2, s3, .nil => .nil
  | _, _, Ya, Yb, s2, s3, .dat r t => .dat ((r.same k).less s1) (News.move k s1 s2 s3 t)
  | _, _, Ya, Yb, s2, s3, .new (p := p) y n r t => by
    refine .new (s3 _ y fun z => n (.inl z)) (fun z => n (s2 _ z)) ?_ (News.move k s1 (fun a z => ?_) (fun a z m => s3 a z fun w => m (.inl w)) t)
    · obtain ⟨o, ho, _⟩ := r.some
      exact (r.go (P0 := fun _ => False) ⟨fun a o q _ => .inl (k a o q), fun a z => .inl z⟩ (fun _ z => z.elim) ((k _ _ ho).trans ho.symm)).less s1
    · rcases z with (z | z) | z
      · exact (s2 a (.inl z)).imp .inl id
      · exact .inl (.inr z)
      · exact (s2 a (.inr z)).imp .inl id
theorem Same.rfl {H : Hp} : Same H H := fun _ _ h => h
theorem AdvS.dropTo {σ0 σ : L2.St} {Y Y' Y2 : Ad} {env0 env : AEnv} {H0 H : Hp} (g : AdvS B σ0 Y env0 H0 Y' σ env H) (s : ∀ a, Y2 a → Y' a) (u : ∀ a, Y a → Y2 a) : AdvS B σ0 Y env0 H0 Y2 σ env H :=
  ⟨g.keep, g.ky, u, fun a z => g.yn a (s a z), g.ow, g.live, g.st, g.pr, g.len⟩
theorem AdvS.store {σ0 σ : L2.St} {Y Y' Y2 : Ad} {env0 env : AEnv} {H0 H : Hp} {i : Nat} {v : Option V} {x : AV} (g : AdvS B σ0 Y env0 H0 Y' σ env H) (bi : B i = false) (s : ∀ a, Y2 a → Y' a) (u : ∀ a, Y a → Y2 a)
    (ow : ∀ a, Own (σ.set i v) (env.set i x) a → Own σ env a ∨ (Y' a ∧ ¬ Y a)) : AdvS B σ0 Y env0 H0 Y2 (σ.set i v) (env.set i x) H := by
  refine ⟨g.keep, g.ky, u, fun a z => g.yn a (s a z), fun a z => ?_, g.live, fun j bj => ?_, fun j bj => ?_, by rw [List.length_set]; exact g.len⟩
  · rcases ow a z with z | ⟨z, n⟩
    · exact g.ow a z
    · rcases g.yn a z with w | w | w
      · exact (n w).elim
      · exact .inr w
      · exact .inl w
  · rw [List.getElem?_set_ne]
    · exact g.st j bj
    · intro z; subst z; rw [bi] at bj; cases bj
  · rw [List.getElem?_set_ne]
    · exact g.pr j bj
    · intro z; subst z; rw [bi] at bj; cases bj
theorem own_setDat {σ : L2.St} {env : AEnv} {i : Nat} {v : Option V} {d : D} {a : Addr} (h : Own (σ.set i v) (env.set i (.dat d)) a) : Own σ env a := by
  obtain ⟨j, e, q, w⟩ := h
  by_cases z : i = j
  · subst z
    by_cases hi : i < env.length
    · rw [List.getElem?_set_self hi] at q; cases q
    · rw [List.getElem?_eq_none (by rw [List.length_set]; omega)] at q; cases q
  · rw [List.getElem?_set_ne z] at q w
    exact ⟨j, e, q, w⟩
theorem own_setOwn {σ : L2.St} {env : AEnv} {i : Nat} {p : Addr} {d : D} {a : Addr} (h : Own (σ.set i (some (.ref p))) (env.set i (.own d)) a) : Own σ env a ∨ a = p := by
  obtain ⟨j, e, q, w⟩ := h
  by_cases z : i = j
  · subst z
    by_cases hi : i < σ.length
    · rw [List.getElem?_set_self hi] at w; cases w
      exact .inr rfl
    · rw [List.getElem?_eq_none (by rw [List.length_set]; omega)] at w; cases w
  · rw [List.getElem?_set_ne z] at q w
    exact .inl ⟨j, e, q, w⟩
theorem par_ok {σ0 : L2.St} {Y : Ad} {env0 : AEnv} {H0 H : Hp} : ∀ {is : List Nat} {vs : List V} {rs : List RV} {Y' Yb : Ad} {σ : L2.St} {env : AEnv}, (∀ i ∈ is, B i = false) → Rep K Y' H σ env → News K H σ env Y' Yb vs rs → (∀ a, Y a → Yb a) → (∀ a, Y a → Y' a) →
    AdvS B σ0 Y env0 H0 Y' σ env H → ∃ Ye, Rep K Ye H (parS σ is vs) (parE env is rs) ∧ AdvS B σ0 Y env0 H0 Ye (parS σ is vs) (parE env is rs) H ∧ ∀ a, Y a → Ye a
  | [], vs, rs, Y', Yb, σ, env, hB, R, nw, h1, h2, g => ⟨Y', by simpa [parS, parE] using R, by simpa [parS, parE] using g, h2⟩
  | i :: is, _, _, Y', Yb, σ, env, hB, R, .nil, h1, h2, g => ⟨Y', R, g, h2⟩
  | i :: is, _, _, Y', Yb, σ, env, hB, R, .dat (v := v) (d := d) r t, h1, h2, g => by
    have bi := hB i List.mem_cons_self
    have hB' : ∀ j ∈ is, B j = false := fun j hj => hB j (List.mem_cons_of_mem _ hj)
    have a := (R.setDat (B := B) bi r).1
    have g2 := g.store (Y2 := Y') (v := some v) (x := .dat d) bi (fun _ z => z) h2 fun x z => .inl (own_setDat z)
    exact par_ok (is := is) hB' a (t.move Same.rfl (fun x z => z.imp id own_setDat) (fun x z => z.imp id own_setDat) fun _ z _ => z) h1 h2 g2
  | i :: is, _, _, Y', Yb, σ, env, hB, R, .new (p := p) (d := d) y n r t, h1, h2, g => by
    have ye : Y' = fun a => (Y' a ∧ a ≠ p) ∨ a = p := by
      funext a
      refine propext ⟨fun z => ?_, fun z => ?_⟩
      · by_cases e : a = p
        · exact .inr e
        · exact .inl ⟨z, e⟩
      · rcases z with z | z
        · exact z.1
        · rw [z]; exact y
    have np : ¬ Y p := fun z => n (.inl (h1 p z))
    have bi := hB i List.mem_cons_self
    have hB' : ∀ j ∈ is, B j = false := fun j hj => hB j (List.mem_cons_of_mem _ hj)
    have ok : ResOk K H (fun a => Y' a ∧ a ≠ p) Y' σ env (.ref p) (.new d) := ⟨p, rfl, ye, fun z => z.elim (fun z => z.2 rfl) fun z => n (.inr z), r⟩
    obtain ⟨a, _, _⟩ := R.setNew (B := B) bi (fun _ z => z.1) ok
    have g2 : AdvS B σ0 Y env0 H0 (fun a => Y' a ∧ a ≠ p) (σ.set i (some (.ref p))) (env.set i (.own d)) H :=
      g.store bi (fun _ z => z.1) (fun x z => ⟨h2 x z, fun e => np (e ▸ z)⟩) fun x z => (own_setOwn z).imp id fun e => by rw [e]; exact ⟨y, np⟩
    have m1 : ∀ x, Pw (fun a => Y' a ∧ a ≠ p) (σ.set i (some (.ref p))) (env.set i (.own d)) x → Pw Y' σ env x := fun x z => by
      rcases z with z | z
      · exact .inl z.1
      · rcases own_setOwn z with z | z
        · exact .inr z
        · rw [z]; exact .inl y
    have m2 : ∀ x, Pw Yb (σ.set i (some (.ref p))) (env.set i (.own d)) x → Pw (fun a => Yb a ∨ a = p) σ env x := fun x z => by
      rcases z with z | z
      · exact .inl (.inl z)
      · rcases own_setOwn z with z | z
        · exact .inr z
        · exact .inl (.inr z)
    have t2 := News.move (Yb := Yb) Same.rfl m1 m2 (fun x z m => ⟨z, fun e => m (.inr e)⟩) t
    exact par_ok (is := is) hB' a t2 h1 (fun x z => ⟨h2 x z, fun e => np (e ▸ z)⟩) g2
end
def aPar (is : List Nat) (t : AA') : AS' := fun A env => t env fun rs env1 => rs.length = is.length ∧ A.nx (parE env1 is rs)
section
variable {X : Cx} {B : Nat → Bool} {pos : Pos} {t : AA'}
theorem par_fin {σ0 : L2.St} {Y Y1 : Ad} {env0 env1 : AEnv} {H0 H1 H2 : Hp} {D : Ends} {A : AEnds} {is : List Nat} {vs : List V} {rs : List RV} (hb : ∀ i ∈ is, B i = false) (rep0 : Rep X.K Y H0 σ0 env0) (k : EOk X.K B Y H0 σ0 env0 D A) (rep1 : Rep X.K Y1 H1 σ0 env1) (g1 : Adv σ0 Y env0 H0 Y1 env1 H1) (nw : News X.K H1 σ0 env1 Y1 Y vs rs)
    (sm : Same H1 H2) (q : A.nx (parE env1 is rs)) : D.nx (parS σ0 is vs) H2 := by
  have rep2 := rep1.same sm
  have g2 : Adv σ0 Y env0 H0 Y1 env1 H2 := g1.trans (Adv.same rep1 sm)
  obtain ⟨Ye, a, b, c⟩ := par_ok (B := B) hb rep2 (nw.move sm (fun _ z => z) (fun _ z => z) fun _ z _ => z) (fun _ z => z) g1.yu g2.toS
  exact k.nx H2 _ _ (a.less c) (b.dropTo c fun _ z => z) q
theorem as_par {i j : Nat} {x y : Str} {a b : Expr} {px py pt : Pos} {kt k2 pt2} (hc : X.calm = true) (hN : X.N.Nodup) (hi : X.N[i]? = some x) (hj : X.N[j]? = some y) (hx : X.env.scope.names.lookup x = some .local) (hy : X.env.scope.names.lookup y = some .local) (ha : AN X [a, b] t)
    (bi : B i = false := by rfl) (bj : B j = false := by rfl) (hij : i ≠ j := by decide)
    (hw : swappedStores [.Tuple [.Name x px, .Name y py] kt pt] (.Tuple [a, b] k2 pt2) X.env = pure (some [x, y]) := by rfl)
    (hs : swapsWithSole [.Tuple [.Name x px, .Name y py] kt pt] (.Tuple [a, b] k2 pt2) pos.line X.env = pure false := by rfl) :
    AS X B (.Assign [.Tuple [.Name x px, .Name y py] kt pt] (.Tuple [a, b] k2 pt2) pos) (aPar [i, j] t) := by
  obtain ⟨u, p, s⟩ := ha
  refine ⟨_, ps_par hc hN hi hj hij hx hy p hw hs, fun Y H σ env D A rep q k => ?_⟩
  refine s Y H σ env _ _ rep q fun vs H1 env1 rs Y1 rep1 g1 nw q1 => ?_
  have hl := nw.len
  rw [q1.1] at hl
  match vs, hl, nw with
  | [v, w], _, nw => exact ⟨v, w, rfl, par_fin (is := [i, j]) (fun m hm => by
      simp only [List.mem_cons, List.not_mem_nil, or_false] at hm
      rcases hm with e | e <;> (subst e; assumption)) rep k rep1 g1 nw Same.rfl q1.2⟩
theorem as_par3 {i j l : Nat} {x y z : Str} {a b c : Expr} {px py pz pt : Pos} {kt k2 pt2} (hc : X.calm = true) (hN : X.N.Nodup) (hi : X.N[i]? = some x) (hj : X.N[j]? = some y) (hl : X.N[l]? = some z) (hx : X.env.scope.names.lookup x = some .local) (hy : X.env.scope.names.lookup y = some .local) (hz : X.env.scope.names.lookup z = some .local) (ha : AN X [a, b, c] t)
    (bi : B i = false := by rfl) (bj : B j = false := by rfl) (bl : B l = false := by rfl) (hij : i ≠ j := by decide) (hil : i ≠ l := by decide) (hjl : j ≠ l := by decide)
    (hw : swappedStores [.Tuple [.Name x px, .Name y py, .Name z pz] kt pt] (.Tuple [a, b, c] k2 pt2) X.env = pure (some [x, y, z]) := by rfl)
    (hs : swapsWithSole [.Tuple [.Name x px, .Name y py, .Name z pz] kt pt] (.Tuple [a, b, c] k2 pt2) pos.line X.env = pure false := by rfl) :
    AS X B (.Assign [.Tuple [.Name x px, .Name y py, .Name z pz] kt pt] (.Tuple [a, b, c] k2 pt2) pos) (aPar [i, j, l] t) := by
  obtain ⟨u, p, s⟩ := ha
  refine ⟨_, ps_par3 hc hN hi hj hl hij hil hjl hx hy hz p hw hs, fun Y H σ env D A rep q k => ?_⟩
  refine s Y H σ env _ _ rep q fun vs H1 env1 rs Y1 rep1 g1 nw q1 => ?_
  have hl := nw.len
  rw [q1.1] at hl
  match vs, hl, nw with
  | [v, w, v3], _, nw => exact ⟨v, w, v3, rfl, par_fin (is := [i, j, l]) (fun m hm => by
      simp only [List.mem_cons, List.not_mem_nil, or_false] at hm
      rcases hm with e | e | e <;> (subst e; assumption)) rep k rep1 g1 nw Same.rfl q1.2⟩
/-- names as targets -/
def AGN (X : Cx) (B : Nat → Bool) (tgs : List Expr) (is : List Nat) : Prop := ∃ t, PGs X tgs t ∧ (∀ i ∈ is, B i = false) ∧ ∀ (vs : List V) (σ : L2.St) (H : Hp) (Q : L2.St → Hp → Prop), vs.length = is.length → Q (parS σ is vs) H → t vs σ H Q
theorem agn_nil : AGN X B [] [] := by
  refine ⟨_, pgs_nil, fun i h => (by cases h), fun vs σ H Q hl q => ?_⟩
  cases vs with
  | nil => exact ⟨rfl, q⟩
  | cons v r => cases hl
theorem agn_cons {es : List Expr} {is : List Nat} {x : Str} (i : Nat) (hN : X.N.Nodup) (hi : X.N[i]? = some x) (hx : Loc X.env.scope x) (h2 : AGN X B es is) (hb : B i = false := by rfl) (hf : X.fn x = true ∨ X.env.scope.names.lookup x = some .local := by first | exact .inl rfl | exact .inr rfl | assumption)
    (hs : (assignEach (.Name x pos :: es) X.env).map (·.2) = assign (.Name x pos) X.env :: (assignEach es X.env).map (·.2) := by rfl) : AGN X B (.Name x pos :: es) (i :: is) := by
  obtain ⟨t, p, b, s⟩ := h2
  refine ⟨_, pgs_cons (pg_name (i := i) hN hi hx hf) p hs, fun j hj => ?_, fun vs σ H Q hl q => ?_⟩
  · rcases List.mem_cons.mp hj with e | e
    · rw [e]; exact hb
    · exact b j e
  · match vs, hl, q with
    | v :: vs, hl, q => exact ⟨v, vs, rfl, s vs _ H Q (by simpa using hl) q⟩
theorem as_parN {tgs es : List Expr} {is : List Nat} {k k2 pt pt2} (hc : X.calm = true) (hg : AGN X B tgs is) (ha : AN X es t) (hz : is.length ≤ sizeLine := by decide)
    (hn : (assignEach tgs X.env).length = is.length := by rfl) (hst : (assignEach tgs X.env).findIdx? (·.1) = none := by rfl)
    (hs : swapsWithSole [.Tuple tgs k pt] (.Tuple es k2 pt2) pos.line X.env = pure false := by rfl) (hw : swappedStores [.Tuple tgs k pt] (.Tuple es k2 pt2) X.env = pure none := by rfl)
    (h1 : (assignEach [.Tuple tgs k pt] X.env).map (·.2) = [assign (.Tuple tgs k pt) X.env] := by rfl) : AS X B (.Assign [.Tuple tgs k pt] (.Tuple es k2 pt2) pos) (aPar is t) := by
  obtain ⟨tg, pg, bg, sg⟩ := hg
  obtain ⟨u, p, s⟩ := ha
  refine ⟨_, ps_asg (pe_tup p) (pg_tup hc pg hn hst) hs hw h1, fun Y H σ env D A rep q k => ?_⟩
  refine s Y H σ env _ _ rep q fun vs H1 env1 rs Y1 rep1 g1 nw q1 => ?_
  have hl := nw.len
  rw [q1.1] at hl
  refine ⟨by rw [hl]; exact hz, fun l n => ⟨l, vs, rfl, .of upd_same, hl, ?_⟩⟩
  exact sg vs _ _ _ hl (par_fin bg rep k rep1 g1 nw (same_upd n) q1.2)
end
end AL
namespace AL
open PySem L2 PySem.Spec PyProof.Rows
/-! AL19: zip of two, each of them a list or a tuple. -/
def Sq2 (K : Fg) (H : Hp) : Bool → Addr → List V → Prop
  | true, a, xs => SqL K H a xs
  | false, a, xs => SqT K H a xs
def itk (h : Heap) : Bool → Addr → Addr → Nat → Prop
  | true, t, l, i => h.IsListIter t l i
  | false, t, l, i => h.IsTupleIter t l i
def sqk (h : Heap) : Bool → Addr → Array Value → Prop
  | true, l, xs => h.IsList l xs
  | false, l, xs => h.IsTuple l xs
theorem draws2 {P : Program} {w : World} {A : Around} (hh : A.handled = none) (k : Bool) (t l : Addr) (hne : l ≠ t) (xs : Array Value) : Draws P w A t [t, l] xs.size (fun i v => xs[i]? = some v) (fun i h => itk h k t l i ∧ sqk h k l xs) := by
  cases k with
  | true => exact .list hh t l hne xs
  | false => exact .tuple hh t l hne xs
section
variable {X : Cx} {pins : List (Addr × Obj)} {σ : L2.St} {H : Hp} {s : Shared} {k : Bool} {a : Addr} {xs ys : List V}
theorem inv_sq2 (I : Inv X pins σ H s) (h : Sq2 X.K H k a xs) : ∃ its : List Value, Vals xs its ∧ sqk s.heap k a its.toArray ∧ a < s.heap.objs.size := by
  cases k with
  | true =>
    obtain ⟨its, r, p, _⟩ := I.list h
    exact ⟨its, r, p.isList, p.lt⟩
  | false =>
    obtain ⟨its, r, p, _⟩ := I.tuple h
    obtain ⟨o, e, _⟩ := id p
    exact ⟨its, r, p, Heap.lt_size e⟩
theorem inv_inj2 (I : Inv X pins σ H s) (h : Sq2 X.K H k a xs) (h' : Sq2 X.K H k a ys) : xs = ys := by
  cases k with
  | true => exact I.list_inj h h'
  | false => exact I.tuple_inj h h'
end
theorem itk_at {h h' : Heap} {k : Bool} {t l : Addr} {i : Nat} (q : itk h k t l i) (f : ∀ o, h.get? t = some o → h'.get? t = some o) : itk h' k t l i := by
  cases k with
  | true => exact Heap.IsListIter.at q f
  | false => exact Heap.IsTupleIter.at q f
theorem itk_obj {h : Heap} {k : Bool} {t l : Addr} {i : Nat} (q : itk h k t l i) : ∃ o, h.get? t = some o ∧ ∀ v, o.data ≠ .cell v := by
  cases k with
  | true =>
    obtain ⟨o, e, _, d⟩ := q
    exact ⟨o, e, fun v z => by rw [d] at z; cases z⟩
  | false =>
    obtain ⟨o, e, _, d⟩ := q
    exact ⟨o, e, fun v z => by rw [d] at z; cases z⟩
/-- zip of the things at a and b -/
def Itz2 (K : Fg) (k m : Bool) (a b : Addr) : It :=
  ⟨fun i H => ∃ (xs ys : List V) (x y : V), Sq2 K H k a xs ∧ Sq2 K H m b ys ∧ xs[i]? = some x ∧ ys[i]? = some y,
    fun i H v H' => ∃ T x y, v = .ref T ∧ H T = none ∧ H' = upd H T (.tup [x, y]) ∧ (∀ xs, Sq2 K H k a xs → xs[i]? = some x) ∧ ∀ ys, Sq2 K H m b ys → ys[i]? = some y,
    fun i H => ∃ xs ys : List V, Sq2 K H k a xs ∧ Sq2 K H m b ys ∧ (xs.length ≤ i ∨ ys.length ≤ i) ∧ (i ≤ xs.length ∧ i ≤ ys.length)⟩
theorem sep_of {z TI TO t u a b : Addr} (D : ZipApart z TI TO t u a b) : ZipSep2 z TI TO t u [t, a] [u, b] where
  TIz := D.TIz
  TOz := D.TOz
  TITO := D.TITO
  TIi1 := D.TIi1
  mem1 := by simp
  zf1 := by simp [Ne.symm D.i1z, Ne.symm D.l1z]
  Tf1 := by simp [D.TOi1, Ne.symm D.l1TO]
  TIi2 := D.TIi2
  mem2 := by simp
  zf2 := by simp [Ne.symm D.i2z, Ne.symm D.l2z]
  Tf2 := by simp [D.TOi2, Ne.symm D.l2TO]
  sep1_2 := by simp [D.i12, Ne.symm D.l2i1]
  sep2_1 := by simp [Ne.symm D.i12, Ne.symm D.l1i2]
theorem turn_zip2 {P : Program} {w : World} {K : Fg} {elts : List Expr} {kk : Nat} {tpos : Pos} {k m : Bool} {a b z TI TO t u : Addr} (D : ZipApart z TI TO t u a b) :
    Turn P w K (.Tuple elts kk tpos) (Itz2 K k m a b) [z, TI, TO, t, u] z (fun i h => IsZip h z TI TO .none ∧ IsTupOf2 h TI (.ref t) (.ref u) ∧ (∃ x y, IsTupOf2 h TO x y) ∧ itk h k t a i ∧ itk h m u b i) := by
  have inl : ∀ {c : Addr}, c ∈ [z, TI, TO, t, u] → c = z ∨ c = TI ∨ c = TO ∨ c = t ∨ c = u := fun {c} hc => by simpa using hc
  refine ⟨by simp, fun i h st c hc => ?_, fun i h h' st kp => ?_, ?_, ?_, fun A i s Q E st h => wpAny_pyIter_zip st.1 h⟩
  · obtain ⟨hz, hI, ⟨x, y, hO⟩, h1, h2⟩ := st
    rcases inl hc with rfl | rfl | rfl | rfl | rfl
    · exact ⟨_, hz, fun v q => nomatch q⟩
    · exact ⟨_, hI, fun v q => nomatch q⟩
    · exact ⟨_, hO, fun v q => nomatch q⟩
    · exact itk_obj h1
    · exact itk_obj h2
  · obtain ⟨hz, hI, ⟨x, y, hO⟩, h1, h2⟩ := st
    exact ⟨kp _ (by simp) _ hz, kp _ (by simp) _ hI, ⟨x, y, kp _ (by simp) _ hO⟩, itk_at h1 (kp t (by simp)), itk_at h2 (kp u (by simp))⟩
  · intro X hP hw hK hc i pins s σ H E I hf st hg
    subst hP hw hK
    obtain ⟨hz, hI, ⟨x0, y0, hO⟩, h1, h2⟩ := st
    obtain ⟨xs, ys, x, y, sx, sy, ex, ey⟩ := hg
    obtain ⟨us, ru, pu, la⟩ := inv_sq2 I sx
    obtain ⟨ws, rw', pw, lb⟩ := inv_sq2 I sy
    obtain ⟨v1, g1, q1⟩ := ru.get ex
    obtain ⟨v2, g2, q2⟩ := rw'.get ey
    have l1 : i < us.toArray.size := by
      have := (List.getElem?_eq_some_iff.mp g1).1
      simpa using this
    have l2 : i < ws.toArray.size := by
      have := (List.getElem?_eq_some_iff.mp g2).1
      simpa using this
    have hh : X.A.in1.handled = none := I.ok.hd hc
    refine wpAny_pyNext_zipD2_item (sep_of D) (draws2 (A := X.A.in1) hh k t a D.l1i1 us.toArray) (draws2 (A := X.A.in1) hh m u b D.l2i2 ws.toArray) hz hI hO ⟨h1, pu⟩ ⟨h2, pw⟩ l1 l2 fun y1 y2 h' tk c1 c2 zz tt n1 n2 nt hs kp => ?_
    have c1' : us[i]? = some y1 := by simpa using c1
    have c2' : ws[i]? = some y2 := by simpa using c2
    rw [g1] at c1'
    rw [g2] at c2'
    cases c1'
    cases c2'
    have zl : z < s.heap.objs.size := Heap.lt_size hz
    refine ⟨_, rfl, wpAny_letOwnedTupleGo_zip (s := { s with heap := h', toks := tk }) zz fun h2' z2 sb => ?_⟩
    have tt2 : h2'.get? s.heap.objs.size = some { cls := .type "tuple", data := .seq #[v1, v2] } := (sb.2 _ (Nat.ne_of_gt zl)).trans nt
    have keep : ∀ c o, c ∉ [z, TI, TO, t, u] → s.heap.get? c = some o → h2'.get? c = some o := fun c o nc q => by
      simp only [List.mem_cons, List.not_mem_nil, or_false, not_or] at nc
      exact (sb.2 c nc.1).trans (kp c o nc.1 nc.2.2.1 nc.2.2.2.1 nc.2.2.2.2 q)
    have I2 : Inv X pins σ (upd H s.heap.objs.size (.tup [x, y])) { s with heap := h2', toks := tk } := I.turnedNew (t' := tk) keep hf (Nat.le_refl _) ⟨(by show 2 ≤ sizeLine; decide), [v1, v2], .cons q1 (.cons q2 .nil), ⟨_, tt2, rfl, _, rfl⟩⟩
    refine ⟨.ref s.heap.objs.size, _, I2, rfl, ⟨_, x, y, rfl, I.hok.fresh (Nat.le_refl _), rfl, fun l hl => by rw [inv_inj2 I hl sx]; exact ex, fun l hl => by rw [inv_inj2 I hl sy]; exact ey⟩, ⟨z2, ?_, ⟨v1, v2, (sb.2 _ D.TOz).trans tt⟩, itk_at n1.1 fun o q => (sb.2 _ D.i1z).trans q, itk_at n2.1 fun o q => (sb.2 _ D.i2z).trans q⟩, fun c hc' => ?_⟩
    · exact (sb.2 _ D.TIz).trans (kp _ _ D.TIz D.TITO D.TIi1 D.TIi2 hI)
    · have lt : c < s.heap.objs.size := by
        rcases inl hc' with q | q | q | q | q
        · rw [q]; exact zl
        · rw [q]; exact Heap.lt_size hI
        · rw [q]; exact Heap.lt_size hO
        · rw [q]
          obtain ⟨_, e, _⟩ := itk_obj h1
          exact Heap.lt_size e
        · rw [q]
          obtain ⟨_, e, _⟩ := itk_obj h2
          exact Heap.lt_size e
      rw [upd_ne (Nat.ne_of_lt lt)]
      exact (hf c hc').1
  · intro X hP hw hK hc i pins s σ H E I hf st hg
    subst hP hw hK
    obtain ⟨hz, hI, ⟨x0, y0, hO⟩, h1, h2⟩ := st
    obtain ⟨xs, ys, sx, sy, hend, hle1, hle2⟩ := hg
    obtain ⟨us, ru, pu, la⟩ := inv_sq2 I sx
    obtain ⟨ws, rw', pw, lb⟩ := inv_sq2 I sy
    have l1 : us.toArray.size = xs.length := by simp [ru.length]
    have l2 : ws.toArray.size = ys.length := by simp [rw'.length]
    have hh : X.A.in1.handled = none := I.ok.hd hc
    refine wpAny_pyNext_zipD2_end (sep_of D) (draws2 (A := X.A.in1) hh k t a D.l1i1 us.toArray) (draws2 (A := X.A.in1) hh m u b D.l2i2 ws.toArray) hz hI hO ⟨h1, pu⟩ ⟨h2, pw⟩ (by omega) (by omega) (by omega) fun h' tk kp => ⟨rfl, I.turnedL (t' := tk) (ch := [z, TI, TO, t, u]) (fun c o nc q => ?_) hf⟩
    simp only [List.mem_cons, List.not_mem_nil, or_false, not_or] at nc
    exact kp c o nc.1 nc.2.2.1 nc.2.2.2.1 nc.2.2.2.2 q
def itObj : Bool → Addr → Obj
  | true, l => { cls := .type "list_iterator", data := .fields #[.ref l, .int 0 0] }
  | false, l => { cls := .type "tuple_iterator", data := .fields #[.ref l, .int 0 0] }
theorem begins2 (k : Bool) (l : Addr) (xs : Array Value) : Begins (.ref l) (itObj k l) fun h => sqk h k l xs := by
  cases k with
  | true => exact begins_list l xs
  | false => exact begins_tuple l xs
theorem itObj_it {h : Heap} {k : Bool} {t l : Addr} (e : h.get? t = some (itObj k l)) : itk h k t l 0 := by
  cases k with
  | true => exact ⟨_, e, rfl, rfl⟩
  | false => exact ⟨_, e, rfl, rfl⟩
def iZip2 (K : Fg) (ta : TA) : TI := fun σ H R => ta σ H fun vs H1 => ∃ k m a b xs ys, vs = [.ref a, .ref b] ∧ Sq2 K H1 k a xs ∧ Sq2 K H1 m b ys ∧ R (Itz2 K k m a b) H1
theorem pi_zip2 {X : Cx} {e e2 : Expr} {ta : TA} {p pos tpos : Pos} {elts : List Expr} {kk : Nat} (hg : Gl X "zip") (hm : X.mg "zip" = none) (ha : PA X [e, e2] ta)
    (hs : starEach [e, e2] X.env = (false, eval e X.env) :: starEach [e2] X.env := by rfl) (hpl : (backTo pos (starEach [e2] X.env)).any (·.1) = false := by rfl) : PI X (.Tuple elts kk tpos) (.Call (.Name "zip" p) [e, e2] [] pos) (iZip2 X.K ta) := by
  refine ⟨fun pins s σ H R I h => ?_⟩
  refine Call_ (ld_blt I hg hm boot_zip (callWith_type1 (thn (ha.run pos pins s σ H _ I h) fun us s1 ⟨vs, H1, I1, r1, q1⟩ => ?_) hs hpl))
  obtain ⟨k, m, a, b, xs, ys, ev, sx, sy, q⟩ := q1
  subst ev
  obtain ⟨w1, w2, rfl, e1, e2⟩ := vals2 r1
  cases e1
  cases e2
  obtain ⟨us, ru, pu, la⟩ := inv_sq2 I1 sx
  obtain ⟨ws, rw', pw, lb⟩ := inv_sq2 I1 sy
  refine zip_begins2 (begins2 k a us.toArray) (begins2 m b ws.toArray) pu pw fun h' hz hI hO g1 g2 hsz kp => wpAny_pyIter_zip hz ?_
  have I2 : Inv X pins σ H1 { s1 with heap := h' } := I1.kept (t' := s1.toks) kp
  refine ⟨s1.heap.objs.size + 4, [s1.heap.objs.size + 4, s1.heap.objs.size + 2, s1.heap.objs.size + 3, s1.heap.objs.size, s1.heap.objs.size + 1], _, _, H1, rfl, I2, turn_zip2 (PySem.W.ktu_apart s1.heap.objs.size a b la lb), ⟨hz, hI, ⟨_, _, hO⟩, itObj_it g1, itObj_it g2⟩, fun c hc => ?_, q⟩
  have le : s1.heap.objs.size ≤ c := by
    simp only [List.mem_cons, List.not_mem_nil, or_false] at hc
    rcases hc with q | q | q | q | q
    · rw [q]; exact Nat.le_add_right _ _
    · rw [q]; exact Nat.le_add_right _ _
    · rw [q]; exact Nat.le_add_right _ _
    · rw [q]; exact Nat.le_refl _
    · rw [q]; exact Nat.le_add_right _ _
  exact I1.fpOk le (I1.hok.fresh le)
/-! ### over data -/
def seqD : D → Option (List D)
  | .lst l => some l
  | .tup l => some l
  | _ => none
def zipD (l m : List D) : List D := (l.zip m).map fun p => D.tup [p.1, p.2]
def aiZip (t : AA') : AI' := fun env R => t env fun rs env1 => match dats rs with
  | some [x, y] => (match seqD x, seqD y with
    | some l, some m => R (zipD l m) env1
    | _, _ => False)
  | _ => False
/-- a thing that is walked stays so -/
structure Stays (K : Fg) (H : Hp) (P : Ad) (k : Bool) (a : Addr) (us : List V) (ds : List D) : Prop where
  go : ∀ (P0 P2 : Ad) (H2 : Hp), (∀ a, P0 a → P a) → Go P0 P P2 H H2 → Sq2 K H2 k a us ∧ RDs K H2 P2 us ds
theorem RD.stays {K : Fg} {H : Hp} {P : Ad} {v : V} {d : D} {l : List D} (h : RD K H P v d) (e : seqD d = some l) : ∃ k a us, v = .ref a ∧ Stays K H P k a us l ∧ Sq2 K H k a us := by
  cases h with
  | tup s r => cases e; exact ⟨false, _, _, rfl, ⟨fun P0 P2 H2 sb g => ⟨(g.st sb s).sq, r.go g sb⟩⟩, s.sq⟩
  | lst s r => cases e; exact ⟨true, _, _, rfl, ⟨fun P0 P2 H2 sb g => ⟨(g.sl sb s).sq, r.go g sb⟩⟩, s.sq⟩
  | non => cases e
  | bl => cases e
  | int => cases e
  | str => cases e
  | dK => cases e
  | dT => cases e
  | obj => cases e
  | scr => cases e
theorem Sq2.inj {K : Fg} {H : Hp} {k : Bool} {a : Addr} {us : List V} : True := trivial
theorem walk_zip {K : Fg} {H : Hp} {P : Ad} {k m : Bool} {a b : Addr} {us ws : List V} {l n : List D} (h1 : Stays K H P k a us l) (h2 : Stays K H P m b ws n) : WalkOk K (Itz2 K k m a b) H P (zipD l n) := by
  intro P0 P2 H2 s g hy
  obtain ⟨s1, r1⟩ := h1.go P0 P2 H2 s g
  obtain ⟨s2, r2⟩ := h2.go P0 P2 H2 s g
  have e1 := r1.length
  have e2 := r2.length
  have el : (zipD l n).length = min l.length n.length := by unfold zipD; rw [List.length_map, List.length_zip]
  refine ⟨fun i hi => ?_, us, ws, s1, s2, by rw [el]; omega, by rw [el]; omega, by rw [el]; omega⟩
  rw [el] at hi
  have hx : l[i]? = some l[i] := List.getElem?_eq_getElem (by omega)
  have hy' : n[i]? = some n[i] := List.getElem?_eq_getElem (by omega)
  obtain ⟨x, gx, rx⟩ := r1.get hx
  obtain ⟨y, gy, ry⟩ := r2.get hy'
  refine ⟨⟨us, ws, x, y, s1, s2, gx, gy⟩, fun v H3 q => ?_⟩
  obtain ⟨T, x', y', rfl, hT, rfl, f1, f2⟩ := q
  have ex := f1 us s1
  have ey := f2 ws s2
  rw [gx] at ex; cases ex
  rw [gy] at ey; cases ey
  have nT : ¬ P2 T := fun z => by
    obtain ⟨o, e⟩ := hy T z
    rw [hT] at e; cases e
  have sm : Same H2 (upd H2 T (.tup [x, y])) := same_upd hT
  refine ⟨sm, .tup [l[i], n[i]], ?_, .tup (.inl ⟨.inl upd_same, nT, by show 2 ≤ sizeLine; decide⟩) (.cons (rx.same sm) (.cons (ry.same sm) .nil))⟩
  unfold zipD
  rw [List.getElem?_map, (List.getElem?_zip_eq_some (z := (l[i], n[i]))).mpr ⟨hx, hy'⟩]
  rfl
theorem ai_zip {X : Cx} {e e2 : Expr} {t : AA'} {p pos tpos : Pos} {elts : List Expr} {kk : Nat} (hg : Gl X "zip") (hm : X.mg "zip" = none) (ha : AA X [e, e2] t)
    (hs : starEach [e, e2] X.env = (false, eval e X.env) :: starEach [e2] X.env := by rfl) (hpl : (backTo pos (starEach [e2] X.env)).any (·.1) = false := by rfl) : AI X (.Tuple elts kk tpos) (.Call (.Name "zip" p) [e, e2] [] pos) (aiZip t) := by
  obtain ⟨u, pa, s⟩ := ha
  refine ⟨_, pi_zip2 hg hm pa hs hpl, fun Y H σ env R Q rep q k => ?_⟩
  refine s Y H σ env _ _ rep q fun vs H1 env1 rs rep1 g1 ok q1 => ?_
  match w : dats rs, q1 with
  | some [x, y], q1 =>
    have r := ok.dats w
    cases w1 : seqD x with
    | none => simp only [w1] at q1
    | some l =>
      cases w2 : seqD y with
      | none => simp only [w1, w2] at q1
      | some m =>
        simp only [w1, w2] at q1
        match vs, r with
        | [v1, v2], .cons r1 (.cons r2 .nil) =>
          obtain ⟨k1, a, us, e1, st1, sq1⟩ := r1.stays w1
          obtain ⟨k2, b, ws, e2, st2, sq2⟩ := r2.stays w2
          subst e1
          subst e2
          exact ⟨k1, k2, a, b, us, ws, rfl, sq1, sq2, k _ H1 env1 _ rep1 g1 (walk_zip st1 st2) q1⟩
end AL
namespace AL
open PySem L2 PySem.Spec PyProof.Rows SrtO
/-! AL20: sorted(d, reverse=True) of a dict whose keys are ints; list(range(n)); a display of a dict. -/
section
variable {X : Cx} {pins : List (Addr × Obj)} {σ : L2.St} {H : Hp} {s : Shared}
theorem ints_at : ∀ {us : List Value} {ks : List Int}, us.length = ks.length → (∀ (j : Nat) (v : Value), us[j]? = some v → ∃ (x : Int) (t : Tok), ks[j]? = some x ∧ v = .int x t) → IntsAre us ks := fun {us ks} hl h => L2.ints_each hl h
def rSortedDR (b : Bool) : List V → List V → Hp → VK → Prop := fun vs zs H Q => ∃ (a : Addr) (kvs : List (Key × V)) (ns : List Int), vs = [.ref a] ∧ zs = [.bl b] ∧ Rd H a (.dK kvs) ∧ kvs.map (·.1) = ns.map Sum.inl ∧
  ∀ (ns' : List Int) (p : Addr), ns'.Perm ns → OrdB b ns' → ns'.length ≤ sizeLine → H p = none → Q (.ref p) (upd H p (.lst (ns'.map V.int)))
theorem cr_sortedDR (hcalm : X.calm = true) {b : Bool} : CallRK X (.builtin "sorted") [Str.ofString "reverse"] (rSortedDR b) := by
  intro pins s σ H vs zs us ws Q I r rz h
  obtain ⟨a, kvs, ns, rfl, rfl, hd, hks, q⟩ := h
  obtain rfl := Vals.ref1 r
  obtain ⟨w1, rfl, e1⟩ := vals1 rz
  obtain rfl : w1 = Value.bool b := e1
  obtain ⟨zl, lo, ps, rel, dd⟩ := dk_rd I.hok hd
  obtain ⟨ep, hat⟩ := dd.dictAt
  have keys : ps.map (·.1) = ns.map Sum.inl := rel.keys.symm.trans hks
  have ln : ps.length = ns.length := by
    have := congrArg List.length keys
    simpa using this
  have lk : kvs.length = ns.length := by
    have := congrArg List.length hks
    simpa using this
  have small : ps.length ≤ sizeLine := by rw [ln, ← lk]; exact zl
  refine call_function_entry_kw kind_sorted plain_sorted entry_sorted (args_sorted_rev _ _) ?_
  unfold Builtin.«sorted»
  refine wpAny_bind (m := checkCount "sorted" 1 1 _) (wpAny_pure ?_)
  refine wpAny_bind (PySem.W.kdu_collect (A := X.A.in1) (PySem.W.kdl_dict (knd := mixKind X.prog X.w) (kvs := ps) (ep := ep) lo) (I.ok.hd hcalm) hat small fun h' tk acc kp items => ?_)
  have la : acc.toList.length = ns.length := by rw [Array.length_toList, items.1, ln]
  have hi : IntsAre acc.toList ns := ints_at la fun j v e => by
    obtain ⟨k, x, e1, e2⟩ := items.2 j v (by rw [← Array.getElem?_toList]; exact e)
    have e3 : (ps.map (·.1))[j]? = some k := by rw [List.getElem?_map, e1]; rfl
    rw [keys, List.getElem?_map] at e3
    cases e4 : ns[j]? with
    | none => rw [e4] at e3; cases e3
    | some y =>
      rw [e4] at e3
      obtain rfl : Sum.inl y = k := Option.some.inj e3
      rcases keyIs_shape (show keyIs (Sum.inl y) v = true from e2) with ⟨i, t, ek, ev⟩ | ⟨z, t, ek, ev⟩
      · cases ek; exact ⟨y, t, rfl, ev⟩
      · cases ek
  have I1 : Inv X pins σ H { s with heap := h', toks := tk } := I.kept kp
  have lz : acc.toList.length ≤ sizeLine := by rw [la, ← ln]; exact small
  refine wpAny_bind (wpAny_newList ?_ lz)
  have at_ : (h'.push (seqObj "list" acc.toList.toArray 0)).get? h'.objs.size = some (seqObj "list" acc.toList.toArray 0) := Heap.get?_push_size _ rfl
  refine wpAny_bind (wpAny_holding (wpAny_call_entry_kw slot_list_sort ⟨_, at_, rfl⟩ entry_list_sort ?_ (args_list_sort_rev _ _)))
  refine SrtR.list_sort_ordR (s := { s with heap := h'.push (seqObj "list" acc.toList.toArray 0), toks := tk }) swo_int at_ lz (fun h2 => ints_sortable hi h2) fun out o1 o2 => ⟨_, rfl, ?_⟩
  obtain ⟨ns', k1, k2, k3⟩ := SrtR.ints_outR hi o1 o2
  obtain ⟨ep', he'⟩ := sortedHeap_at (vs := acc.toList) (out := if b = true then out.toArray.reverse else out.toArray) at_
  have lz' : (ns'.map V.int).length ≤ sizeLine := by rw [List.length_map, k2.length_eq, ← la]; exact lz
  have e0 : ((if b = true then out.toArray.reverse else out.toArray).toList).toArray = (if b = true then out.toArray.reverse else out.toArray) := by rw [Array.toArray_toList]
  refine wpAny_pure ⟨_, rfl, .ref h'.objs.size, upd H h'.objs.size (.lst (ns'.map V.int)), I1.laid (t' := tk) (fun c o e => ?_) (Nat.le_refl _) ⟨lz', _, ep', vals_of_ints k1, by rw [e0]; exact he'⟩, rfl, q _ _ k2 k3 (by simpa using lz') (I1.hok.fresh (Nat.le_refl _))⟩
  have lt : c < h'.objs.size := Heap.lt_size e
  rw [sortedHeap_old (Nat.ne_of_lt lt) (by rw [size_push']; exact Nat.lt_succ_of_lt lt)]
  exact Heap.get?_push_of_some _ e
end
/-- sorted(d, reverse=True) -/
def aSortedDR (a : AE') : AE' := fun env R => a env fun r env1 => match val env1 r with
  | some (.dic ks vs) => ∃ ns : List Int, ks = ns.map D.int ∧ ∀ ns' : List Int, ns'.Perm ns → ns'.Pairwise (· ≥ ·) → R (.new (.lst (ns'.map D.int))) env1
  | _ => False
theorem kd_inls : ∀ {kvs : List (Key × V)} {ns : List Int}, (kvs.map fun kv => kD kv.1) = ns.map D.int → kvs.map (·.1) = ns.map Sum.inl
  | [], [], _ => rfl
  | [], _ :: _, h => by cases h
  | _ :: _, [], h => by cases h
  | (k, v) :: r, n :: ns, h => by
    simp only [List.map_cons, List.cons.injEq] at h ⊢
    refine ⟨?_, kd_inls h.2⟩
    cases k with
    | inl i =>
      have := h.1
      simp only [kD, D.int.injEq] at this
      rw [this]
    | inr x => cases h.1
theorem ae_sortedDR {X : Cx} {e : Expr} {a : AE'} {p pos kpos p2 : Pos} {j : Nat} (hc : X.calm = true) (he : AE X e a) (hg : Gl X "sorted") (hm : X.mg "sorted" = none)
    (h1 : backTo pos (starEach [e] X.env) = (false, eval e X.env) :: backTo pos (starEach [] X.env) := by rfl) (hpl : (backTo pos (starEach [e] X.env)).any (·.1) = false := by rfl)
    (hall : (backToKw pos (keywordEach [⟨some "reverse", .Constant (.bool true) j p2, kpos⟩] X.env)).all (·.1.isSome) = true := by rfl) (hnone : (backToKw pos (keywordEach [⟨some "reverse", .Constant (.bool true) j p2, kpos⟩] X.env)).any (·.1.isNone) = false := by rfl)
    (hks : (backToKw pos (keywordEach [⟨some "reverse", .Constant (.bool true) j p2, kpos⟩] X.env)).filterMap (·.1) = [Str.ofString "reverse"] := by rfl) (hna : starEach [e] X.env = (false, eval e X.env) :: starEach [] X.env := by rfl) :
    AE X (.Call (.Name "sorted" p) [e] [⟨some "reverse", .Constant (.bool true) j p2, kpos⟩] pos) (aSortedDR a) := by
  obtain ⟨t, pe, s⟩ := he
  refine ⟨_, pe_callBK (cr_sortedDR (b := true) hc) hg hm PyProof.Rows.boot_sorted (pa_cons pe pa_nil hna) (pk_cons pe_bl pk_nil) (by decide) (by decide) h1 hpl hall hnone hks, fun Y H σ env R Q rep q k => ?_⟩
  refine s Y H σ env _ _ rep q fun v H1 env1 r Y1 rep1 g1 ok1 q1 => ?_
  obtain ⟨d, e1, c⟩ := ok1.rc rep1
  simp only [e1] at q1
  match d, c, q1 with
  | .dic ks vs, c, q1 =>
    obtain ⟨ns, rfl, q1⟩ := q1
    obtain ⟨p, ev, kvs, hd, ek, rv⟩ := c.dic
    subst ev
    have repY := rep1.less g1.yu
    refine ⟨p, kvs, ns, rfl, rfl, hd, kd_inls ek.symm, fun ns' l pm od lz n => ?_⟩
    exact fin_lst (F := fun z => R z env1) repY (fun w H4 z Y4 rep4 g4 ok4 q4 => k w H4 env1 z Y4 rep4 (g1.drop.trans g4) ok4 q4) (RDs.ints ns') (by rw [List.length_map]; exact lz) (q1 ns' pm od) n
/-! ### list(range(n)) -/
def aListRg (a : AE') : AE' := fun env R => a env fun r env1 => match val env1 r with
  | some (.int n) => -(2 ^ 62) ≤ n ∧ n ≤ 16777216 ∧ R (.new (.lst (rangeD 0 n.toNat))) env1
  | _ => False
theorem rds_range {K : Fg} {H : Hp} {P : Ad} (n : Int) : RDs K H P (rgV 0 n) (rangeD 0 n.toNat) := by
  have e : rgV 0 n = ((List.range n.toNat).map fun i => (0 : Int) + (i : Nat)).map V.int := by
    unfold rgV
    rw [List.map_map, Int.sub_zero]
    rfl
  have e2 : rangeD 0 n.toNat = ((List.range n.toNat).map fun i => (0 : Int) + (i : Nat)).map D.int := by
    unfold rangeD
    rw [List.map_map]
    rfl
  rw [e, e2]
  exact RDs.ints _
theorem ae_listRg {X : Cx} {e : Expr} {a : AE'} {p pos p2 pos2 : Pos} (hc : X.calm = true) (he : AE X e a) (hl : Gl X "list") (ml : X.mg "list" = none) (hg : Gl X "range") (hm : X.mg "range" = none)
    (na : starEach [e] X.env = (false, eval e X.env) :: starEach [] X.env := by rfl) (nb : starEach [.Call (.Name "range" p) [e] [] pos] X.env = (false, eval (.Call (.Name "range" p) [e] [] pos) X.env) :: starEach [] X.env := by rfl) :
    AE X (.Call (.Name "list" p2) [.Call (.Name "range" p) [e] [] pos] [] pos2) (aListRg a) := by
  obtain ⟨t, pe, s⟩ := he
  refine ⟨_, pe_listRg hc hl ml (prg_1 hg hm pe na) nb, fun Y H σ env R Q rep q k => ?_⟩
  refine s Y H σ env _ _ rep q fun v H1 env1 r Y1 rep1 g1 ok1 q1 => ?_
  obtain ⟨d, e1, c⟩ := ok1.rc rep1
  simp only [e1] at q1
  match d, c, q1 with
  | .int n, c, q1 =>
    refine ⟨n, c.int, ⟨by omega, by omega, q1.1, by omega, by omega⟩, fun l nl => ?_⟩
    have ln : (rangeD 0 n.toNat).length ≤ sizeLine := by
      unfold rangeD
      rw [List.length_map, List.length_range, sizeLine_eq]
      omega
    exact fin_lst (F := fun z => R z env1) (rep1.less g1.yu) (fun w H4 z Y4 rep4 g4 ok4 q4 => k w H4 env1 z Y4 rep4 (g1.drop.trans g4) ok4 q4) (rds_range n) ln q1.2.2 nl
/-! ### {k: v, ..} -/
def aPairs : List (AE' × AE') → AEnv → (List D → List D → AEnv → Prop) → Prop
  | [], env, R => R [] [] env
  | (k, v) :: r, env, R => aFrz k env fun rk env1 => aFrz v env1 fun rv env2 => match rk, rv with
    | .dat dk, .dat dv => aPairs r env2 fun ks vs env3 => R (dk :: ks) (dv :: vs) env3
    | _, _ => False
def aDisp (ps : List (AE' × AE')) : AE' := fun env R => aPairs ps env fun ks vs env1 => ks.all isKey = true ∧ ks.Nodup ∧ ks.length ≤ 15 ∧ R (.new (.dic ks vs)) env1
def SndPs (K : Fg) (ts : List (TE × TE)) (ps : List (AE' × AE')) : Prop := ∀ (Y : Ad) (H : Hp) (σ : L2.St) (env : AEnv) (R : List D → List D → AEnv → Prop) (Q : List (V × V) → Hp → Prop), Rep K Y H σ env → aPairs ps env R →
  (∀ us H' env' ks vs, Rep K Y H' σ env' → Adv σ Y env H Y env' H' → RDs K H' (Pw Y σ env') (us.map (·.1)) ks → RDs K H' (Pw Y σ env') (us.map (·.2)) vs → R ks vs env' → Q us H') → tPairs ts σ H Q
def APs (X : Cx) (pos : Pos) (keys : List (Option Expr)) (values : List Expr) (ps : List (AE' × AE')) : Prop := ∃ ts, PPs X pos keys values ts ∧ SndPs X.K ts ps
section
variable {X : Cx} {pos : Pos} {k v : Expr} {keys : List (Option Expr)} {values : List Expr} {ps : List (AE' × AE')} {fk fv : AE'}
theorem aps_nil : APs X pos [] [] [] := ⟨[], pps_nil, fun Y H σ env R Q rep q k => k [] H env [] [] rep Adv.refl .nil .nil q⟩
theorem aps_cons (hk : AE X k fk) (hv : AE X v fv) (hr : APs X pos keys values ps) : APs X pos (some k :: keys) (v :: values) ((fk, fv) :: ps) := by
  obtain ⟨t1, p1, s1⟩ := hk.frz
  obtain ⟨t2, p2, s2⟩ := hv.frz
  obtain ⟨ts, p3, s3⟩ := hr
  refine ⟨_, pps_cons p1 p2 p3, fun Y H σ env R Q rep q kk => ?_⟩
  refine s1 Y H σ env _ _ rep q fun x H1 env1 r1 Y1 rep1 g1 ok1 q1 => ?_
  refine s2 Y1 H1 σ env1 _ _ rep1 q1 fun y H2 env2 r2 Y2 rep2 g2 ok2 q2 => ?_
  match r1, ok1, r2, ok2, q2 with
  | .dat dk, ok1, .dat dv, ok2, q2 =>
    obtain ⟨ey1, rd1⟩ := ok1
    obtain ⟨ey2, rd2⟩ := ok2
    subst ey1
    subst ey2
    refine s3 Y2 H2 σ env2 _ _ rep2 q2 fun us H3 env3 ks vs rep3 g3 a b q3 => ?_
    exact kk ((x, y) :: us) H3 env3 (dk :: ks) (dv :: vs) rep3 ((g1.trans g2).trans g3) (.cons ((g2.trans g3).rd rd1) a) (.cons (g3.rd rd2) b) q3
theorem kvs_of {K : Fg} {H : Hp} {P : Ad} : ∀ {us : List (V × V)} {ks vs : List D}, RDs K H P (us.map (·.1)) ks → RDs K H P (us.map (·.2)) vs → ks.all isKey = true → ∃ kvs : List (Key × V), us = kvs.map (fun kv => (kV kv.1, kv.2)) ∧ ks = kvs.map (fun kv => kD kv.1) ∧ RDs K H P (kvs.map (·.2)) vs
  | [], _, _, .nil, .nil, _ => ⟨[], rfl, rfl, .nil⟩
  | (x, y) :: us, dk :: ks, dv :: vs, .cons r1 t1, .cons r2 t2, h => by
    rw [List.all_cons, Bool.and_eq_true] at h
    obtain ⟨key, rfl⟩ := isKey_of h.1
    obtain ⟨kvs, e1, e2, r⟩ := kvs_of t1 t2 h.2
    have ex : x = kV key := RC.key (.inl r1)
    subst ex
    exact ⟨(key, y) :: kvs, by rw [e1]; rfl, by rw [e2]; rfl, .cons r2 r⟩
theorem merge_nodup : ∀ (kvs acc : List (Key × V)), ((acc ++ kvs).map fun kv => kD kv.1).Nodup → mergeK acc kvs = acc ++ kvs
  | [], acc, _ => by simp [mergeK]
  | (key, v) :: r, acc, h => by
    have nk : ¬ (acc.any fun kv => decide (kv.1 = key)) = true := fun z => by
      have m := (mem_key kD_inj key acc).mpr z
      rw [List.map_append, List.nodup_append] at h
      exact h.2.2 _ m _ List.mem_cons_self rfl
    have e : putK acc key v = acc ++ [(key, v)] := by
      unfold putK
      rw [if_neg nk]
    have := merge_nodup r (acc ++ [(key, v)]) (by rw [List.append_assoc]; exact h)
    rw [List.append_assoc] at this
    have e2 : mergeK acc ((key, v) :: r) = mergeK (putK acc key v) r := rfl
    rw [e2, e]
    exact this
theorem ae_disp (h : APs X pos keys values ps) (hall : keys.all (·.isSome) = true := by rfl) (hl : keys.length = values.length := by rfl) (h0 : keys ≠ [] := by exact fun h => by cases h) (h15 : keys.length ≤ 15 := by decide) : AE X (.Dict keys values pos) (aDisp ps) := by
  obtain ⟨ts, p, s⟩ := h
  refine ⟨_, pe_disp p hall hl h0 h15, fun Y H σ env R Q rep q k => ?_⟩
  intro a ha
  have nf := rep.fresh ha
  have sm : Same H (upd H a (.dK [])) := same_upd ha
  have yn : ∀ b, (Y b ∨ b = a) → Y b ∨ H b = none := fun b z => z.imp id fun e => by rw [e]; exact ha
  have rep1 : Rep X.K (fun b => Y b ∨ b = a) (upd H a (.dK [])) σ env := rep.grow yn sm fun b z => by
    rcases z with z | z
    · obtain ⟨o, e⟩ := rep.yin b z
      exact ⟨o, sm b o e⟩
    · subst z
      exact ⟨_, upd_same⟩
  have g0 : Adv σ Y env H (fun b => Y b ∨ b = a) env (upd H a (.dK [])) := Adv.grow rep sm (fun _ z => .inl z) yn
  refine s _ _ σ env _ _ rep1 q fun us H2 env2 ks vs rep2 g2 r1 r2 q2 => ?_
  have hp : H2 a = some (.dK []) := (g2.ky a (.inr rfl)).trans upd_same
  obtain ⟨isk, nd, l15, q2⟩ := q2
  obtain ⟨kvs, e1, e2, r⟩ := kvs_of r1 r2 isk
  have em : mergeK [] kvs = kvs := by
    have := merge_nodup kvs [] (by rw [List.nil_append, ← e2]; exact nd)
    rwa [List.nil_append] at this
  refine ⟨hp, kvs, e1, by rw [e2, List.length_map] at l15; exact l15, ?_⟩
  rw [em]
  -- the dict is filled
  have n2 : ¬ Own σ env2 a := fun z => nf (.inr (g2.own z))
  have kp : ∀ b o, H2 b = some o → b ≠ a → (upd H2 a (.dK kvs)) b = some o := fun b o e nb => by rw [upd_ne nb]; exact e
  have go : Go (fun b => b = a) (Pw (fun b => Y b ∨ b = a) σ env2) (Pw (fun b => Y b ∨ b = a) σ env2) H2 (upd H2 a (.dK kvs)) := ⟨fun b o e nb => .inl (kp b o e nb), fun _ z => .inl z⟩
  have sub : ∀ b, b = a → Pw (fun b => Y b ∨ b = a) σ env2 b := fun b e => .inl (.inr e)
  have rep3 : Rep X.K (fun b => Y b ∨ b = a) (upd H2 a (.dK kvs)) σ env2 := by
    refine ⟨rep2.len, fun i d e => ?_, fun i d e => ?_, fun b z => ?_, rep2.inj⟩
    · obtain ⟨v, w, rd⟩ := rep2.dat i d e
      exact ⟨v, w, rd.go go sub⟩
    · obtain ⟨p', w, np, ro⟩ := rep2.own i d e
      refine ⟨p', w, np, ro.go go sub (upd_ne fun e' => n2 ?_)⟩
      rw [← e']
      exact ⟨i, d, e, w⟩
    · by_cases e : b = a
      · subst e; exact ⟨_, upd_same⟩
      · obtain ⟨o, w⟩ := rep2.yin b z
        exact ⟨o, by rw [upd_ne e]; exact w⟩
  refine k _ (upd H2 a (.dK kvs)) env2 (.new (.dic ks vs)) _ rep3 ?_ ⟨a, rfl, rfl, fun z => ?_, kvs, upd_same, e2, r.go go sub⟩ q2
  · have g3 := g0.trans g2
    refine ⟨fun b o e n => ?_, fun b z => ?_, g3.yu, g3.yn, g3.sh, fun b o e => ?_⟩
    · have nb : b ≠ a := fun e' => by subst e'; rw [ha] at e; cases e
      have := g3.keep b o e n
      unfold KeepO at this ⊢
      rw [upd_ne nb]
      exact this
    · have nb : b ≠ a := fun e' => nf (.inl (e' ▸ z))
      rw [upd_ne nb]
      exact g3.ky b z
    · by_cases nb : b = a
      · subst nb; exact ⟨_, upd_same⟩
      · rw [upd_ne nb]
        exact g3.live b o e
  · rcases z with z | z
    · exact nf (.inl z)
    · exact n2 z
end
end AL
namespace AL
open PySem L2
/-! AL21: short names for the printed derivations. -/
def fSub : Op2 := fI0 fun i j => .int (i - j)
def fMul : Op2 := fII CMul fun i j => .int (i * j)
def fDiv : Op2 := fII CDiv fun i j => .int (i / j)
def fMod : Op2 := fII (fun _ j => 0 < j) fun i j => .int (i % j)
def fPow : Op2 := fII CPow fun i j => .int (i ^ j.toNat)
def fLt : Op2 := fI0 fun i j => .bl (decide (i < j))
def fLe : Op2 := fI0 fun i j => .bl (decide (i ≤ j))
def fGt : Op2 := fI0 fun i j => .bl (decide (j < i))
def fGe : Op2 := fI0 fun i j => .bl (decide (j ≤ i))
section
variable {X : Cx} {a b : Expr} {fa fb : AE'} {pos : Pos} {k : Nat}
theorem ae_add (ha : AE X a fa) (hb : AE X b fb) : AE X (.BinOp a .Add b pos) (aOp fAdd fa fb) := ae_op or_add (os_add _) ha hb
theorem ae_sub (ha : AE X a fa) (hb : AE X b fb) : AE X (.BinOp a .Sub b pos) (aOp fSub fa fb) := ae_op op_sub os_i0 ha hb
theorem ae_mul (ha : AE X a fa) (hb : AE X b fb) : AE X (.BinOp a .Mult b pos) (aOp fMul fa fb) := ae_op op_mul os_ii ha hb
theorem ae_div (ha : AE X a fa) (hb : AE X b fb) : AE X (.BinOp a .FloorDiv b pos) (aOp fDiv fa fb) := ae_op op_fdiv os_ii ha hb
theorem ae_mod (ha : AE X a fa) (hb : AE X b fb) : AE X (.BinOp a .Mod b pos) (aOp fMod fa fb) := ae_op op_mod os_ii ha hb
theorem ae_pow (ha : AE X a fa) (hb : AE X b fb) : AE X (.BinOp a .Pow b pos) (aOp fPow fa fb) := ae_op op_pow os_ii ha hb
theorem ae_lt (ha : AE X a fa) (hb : AE X b fb) : AE X (.Compare a [.Lt] [b] pos) (aOp fLt fa fb) := ae_cmpR op_lt os_b0 ha hb (nomark _)
theorem ae_le (ha : AE X a fa) (hb : AE X b fb) : AE X (.Compare a [.LtE] [b] pos) (aOp fLe fa fb) := ae_cmpR op_le os_b0 ha hb (nomark _)
theorem ae_gt (ha : AE X a fa) (hb : AE X b fb) : AE X (.Compare a [.Gt] [b] pos) (aOp fGt fa fb) := ae_cmpR op_gt os_b0 ha hb (nomark _)
theorem ae_ge (ha : AE X a fa) (hb : AE X b fb) : AE X (.Compare a [.GtE] [b] pos) (aOp fGe fa fb) := ae_cmpR op_ge os_b0 ha hb (nomark _)
theorem at_lt (ha : AE X a fa) (hb : AE X b fb) : AT X (.Compare a [.Lt] [b] pos) (aB (aOp fLt fa fb)) := at_cmp op_lt os_b0 ha hb (nomark _)
theorem at_le (ha : AE X a fa) (hb : AE X b fb) : AT X (.Compare a [.LtE] [b] pos) (aB (aOp fLe fa fb)) := at_cmp op_le os_b0 ha hb (nomark _)
theorem at_gt (ha : AE X a fa) (hb : AE X b fb) : AT X (.Compare a [.Gt] [b] pos) (aB (aOp fGt fa fb)) := at_cmp op_gt os_b0 ha hb (nomark _)
theorem at_ge (ha : AE X a fa) (hb : AE X b fb) : AT X (.Compare a [.GtE] [b] pos) (aB (aOp fGe fa fb)) := at_cmp op_ge os_b0 ha hb (nomark _)
theorem ae_eq (hr : Room k X.A) (ha : AE X a fa) (hb : AE X b fb) : AE X (.Compare a [.Eq] [b] pos) (aOp fEq fa fb) := ae_cmpR (op_eqD (by have := hr.un; omega)) (os_eq _) ha hb (nomark _)
theorem ae_ne (hr : Room k X.A) (ha : AE X a fa) (hb : AE X b fb) : AE X (.Compare a [.NotEq] [b] pos) (aOp fNe fa fb) := ae_cmpR (op_neD (by have := hr.un; omega)) (os_ne _) ha hb (nomark _)
theorem at_eq (hr : Room k X.A) (ha : AE X a fa) (hb : AE X b fb) : AT X (.Compare a [.Eq] [b] pos) (aB (aOp fEq fa fb)) := at_cmp (op_eqD (by have := hr.un; omega)) (os_eq _) ha hb (nomark _)
theorem at_ne (hr : Room k X.A) (ha : AE X a fa) (hb : AE X b fb) : AT X (.Compare a [.NotEq] [b] pos) (aB (aOp fNe fa fb)) := at_cmp (op_neD (by have := hr.un; omega)) (os_ne _) ha hb (nomark _)
theorem ae_isN (ha : AE X a fa) (hb : AE X b fb) : AE X (.Compare a [.Is] [b] pos) (aOp fIsN fa fb) := ae_cmpR op_isN (os_isN _) ha hb (nomark _)
theorem ae_notN (ha : AE X a fa) (hb : AE X b fb) : AE X (.Compare a [.IsNot] [b] pos) (aOp fNotN fa fb) := ae_cmpR op_notN (os_notN _) ha hb (nomark _)
theorem at_isN (ha : AE X a fa) (hb : AE X b fb) : AT X (.Compare a [.Is] [b] pos) (aB (aOp fIsN fa fb)) := at_cmp op_isN (os_isN _) ha hb (nomark _)
theorem at_notN (ha : AE X a fa) (hb : AE X b fb) : AT X (.Compare a [.IsNot] [b] pos) (aB (aOp fNotN fa fb)) := at_cmp op_notN (os_notN _) ha hb (nomark _)
theorem ae_in (hr : Room k X.A) (ha : AE X a fa) (hb : AE X b fb) (hm : behindInMarks .In b = false := by rfl) : AE X (.Compare a [.In] [b] pos) (aOp (fIn false) fa fb) := ae_cmpR (or_in hr) (os_in _) ha hb hm
theorem ae_notIn (hr : Room k X.A) (ha : AE X a fa) (hb : AE X b fb) (hm : behindInMarks .NotIn b = false := by rfl) : AE X (.Compare a [.NotIn] [b] pos) (aOp (fIn true) fa fb) := ae_cmpR (or_notIn hr) (os_notIn _) ha hb hm
theorem at_in (hr : Room k X.A) (ha : AE X a fa) (hb : AE X b fb) (hm : behindInMarks .In b = false := by rfl) : AT X (.Compare a [.In] [b] pos) (aB (aOp (fIn false) fa fb)) := at_cmp (or_in hr) (os_in _) ha hb hm
theorem at_notIn (hr : Room k X.A) (ha : AE X a fa) (hb : AE X b fb) (hm : behindInMarks .NotIn b = false := by rfl) : AT X (.Compare a [.NotIn] [b] pos) (aB (aOp (fIn true) fa fb)) := at_cmp (or_notIn hr) (os_notIn _) ha hb hm
end
/-- a def of the module as it stands there -/
structure DefAt (K : Fg) (mg : Str → Option Value) (x : Str) (st : Stmt) (ps : List Str) (f : Addr) (fd : FuncData) : Prop where
  fn : Fun K x x st f fd
  mg : mg x = some (.ref f)
  kp : PySem.W.keepIn K (.ref f) = true
  bi : Binds K fd ps []
/-- a method of a class -/
structure MethAt (K : Fg) (C : Addr) (x qual : Str) (st : Stmt) (ps : List Str) (f : Addr) (fd : FuncData) : Prop where
  fn : Fun K x qual st f fd
  me : Meth K C x f
  bi : Binds K fd ps []
/-- a class with a plain __init__ -/
structure ClsAt (K : Fg) (mg : Str → Option Value) (x qual : Str) (st : Stmt) (ps : List Str) (C f : Addr) (fd : FuncData) : Prop where
  cl : Cls K C
  ma : Mk K C f
  mg : mg x = some (.ref C)
  fn : Fun K "__init__" qual st f fd
  bi : Binds K fd ps []
end AL
namespace AL
open PySem L2
/-! S0: loops, comprehensions and calls, as they are read in plain Lean. -/
theorem for_ind {g : AG'} {b : AS'} {A : AEnds} {Iv : List D → AEnv → Prop} (hn : ∀ env, Iv [] env → A.nx env)
    (hs : ∀ d ds env (N : AEnv → Prop), (∀ env', Iv ds env' → N env') → Iv (d :: ds) env → g d env fun env1 => b { nx := N, ct := N, bk := A.nx, rt := A.rt } env1) : ∀ items env, Iv items env → forL g b A items env
  | [], env, h => hn env h
  | d :: ds, env, h => hs d ds env _ (fun env' h' => for_ind hn hs ds env' h') h
/-- what a comprehension makes of its items: each gives a value or none -/
inductive Outs (Stp : D → Option D → Prop) : List D → List D → Prop
  | nil : Outs Stp [] []
  | yes {d z : D} {ds zs : List D} : Stp d (some z) → Outs Stp ds zs → Outs Stp (d :: ds) (z :: zs)
  | no {d : D} {ds zs : List D} : Stp d none → Outs Stp ds zs → Outs Stp (d :: ds) zs
def lcK (K : Option D → AEnv → Prop) (vs : List Nat) : RV → AEnv → Prop := fun r env => match r with
  | .dat z => K (some z) (wipeE env vs)
  | _ => False
theorem lc_ind {g : AG'} {t : AT'} {e : AE'} {vs : List Nat} {Ev : AEnv → Prop} {Stp : D → Option D → Prop} : ∀ (items : List D),
    (∀ d, d ∈ items → ∀ env (K : Option D → AEnv → Prop), Ev env → (∀ oz env', Ev env' → Stp d oz → K oz env') → g d env fun env1 => t env1 fun b env2 => brP b (aFrz e env2 (lcK K vs)) (K none (wipeE env2 vs))) →
    ∀ env R, Ev env → (∀ zs env', Outs Stp items zs → Ev env' → R zs env') → lcL g t e vs items R env
  | [], hs, env, R, h, k => k [] env .nil h
  | d :: ds, hs, env, R, h, k => by
    refine hs d List.mem_cons_self env (fun oz env' => match oz with
      | some z => lcL g t e vs ds (fun zs env4 => R (z :: zs) env4) env'
      | none => lcL g t e vs ds R env') h fun oz env' h' st => ?_
    have ih := fun R' k' => lc_ind (Stp := Stp) (Ev := Ev) ds (fun d' hd => hs d' (List.mem_cons_of_mem _ hd)) env' R' h' k'
    cases oz with
    | some z => exact ih _ fun zs env2 o h2 => k _ env2 (.yes st o) h2
    | none => exact ih _ fun zs env2 o h2 => k _ env2 (.no st o) h2
theorem Outs.imp {S S' : D → Option D → Prop} (h : ∀ d oz, S d oz → S' d oz) : ∀ {ds zs : List D}, Outs S ds zs → Outs S' ds zs
  | _, _, .nil => .nil
  | _, _, .yes s o => .yes (h _ _ s) (o.imp h)
  | _, _, .no s o => .no (h _ _ s) (o.imp h)
theorem Outs.len {S : D → Option D → Prop} : ∀ {ds zs : List D}, Outs S ds zs → zs.length ≤ ds.length
  | _, _, .nil => Nat.le_refl _
  | _, _, .yes s o => Nat.succ_le_succ o.len
  | _, _, .no s o => Nat.le_succ_of_le o.len
/-- each item gives a value of its kind -/
theorem Outs.all {S : D → Option D → Prop} {P : D → Prop} (h : ∀ d z, S d (some z) → P z) : ∀ {ds zs : List D}, Outs S ds zs → ∀ z ∈ zs, P z
  | _, _, .nil, z, m => by cases m
  | _, _, .yes s o, z, m => by
    rcases List.mem_cons.mp m with e | e
    · rw [e]; exact h _ _ s
    · exact o.all h z e
  | _, _, .no s o, z, m => o.all h z m
/-- a map -/
theorem Outs.map {α : Type} {S : D → Option D → Prop} {g : α → D} {f : α → D} (h : ∀ a oz, S (g a) oz → oz = some (f a)) : ∀ {xs : List α} {zs : List D}, Outs S (xs.map g) zs → zs = xs.map f
  | [], _, .nil => rfl
  | a :: xs, _, .yes s o => by
    have := h a _ s
    cases this
    rw [o.map h]
    rfl
  | a :: xs, _, .no s o => by
    have := h a _ s
    cases this
theorem map_cons_inv {α β : Type} {g : α → β} {xs : List α} {d : β} {ds : List β} (h : xs.map g = d :: ds) : ∃ a r, xs = a :: r ∧ g a = d ∧ r.map g = ds := by
  cases xs with
  | nil => cases h
  | cons a r =>
    cases h
    exact ⟨a, r, rfl, rfl, rfl⟩
/-- a filter -/
theorem Outs.filter {α : Type} {S : D → Option D → Prop} {g : α → D} {p : α → Bool} (h : ∀ a oz, S (g a) oz → oz = if p a then some (g a) else none) {xs : List α} {zs : List D} (o : Outs S (xs.map g) zs) : zs = (xs.filter p).map g := by
  induction xs generalizing zs with
  | nil => cases o; rfl
  | cons a xs ih =>
    cases o with
    | yes s o =>
      have e := h a _ s
      cases w : p a with
      | true =>
        rw [w] at e
        cases e
        rw [ih o, List.filter_cons, w]
        rfl
      | false => rw [w] at e; cases e
    | no s o =>
      have e := h a _ s
      cases w : p a with
      | true => rw [w] at e; cases e
      | false =>
        rw [ih o, List.filter_cons, w]
        rfl
/-! calls -/
theorem backE_dats : ∀ (ds : List D) (as env : AEnv), backE env (ds.map RV.dat) as = env
  | [], _, _ => by simp [backE]
  | d :: ds, [], env => by simp [backE]
  | d :: ds, a :: as, env => by
    simp only [List.map_cons, backE]
    exact backE_dats ds as env
theorem argsE_dats (env : AEnv) : ∀ ds : List D, argsE env (ds.map RV.dat) = ds.map AV.dat
  | [] => rfl
  | d :: ds => by
    simp only [List.map_cons, argsE]
    rw [argsE_dats env ds]
theorem lents_dats : ∀ ds : List D, lents (ds.map RV.dat) = []
  | [] => rfl
  | d :: ds => by
    simp only [List.map_cons, lents]
    exact lents_dats ds
theorem call_dats {S : ASp} {env : AEnv} (ds : List D) {R : RV → AEnv → Prop} (h : S (ds.map AV.dat) fun r _ => R r env) : callR S (ds.map RV.dat) env R := by
  unfold callR lentOk
  rw [lents_dats, argsE_dats]
  refine ⟨⟨List.nodup_nil, fun i h => by cases h⟩, ?_⟩
  have e : (fun r avs' => R r (backE env (ds.map RV.dat) avs')) = fun r (_ : AEnv) => R r env := by
    funext r avs'
    rw [backE_dats]
  rw [e]
  exact h
/-- the lent slot as it comes back -/
def lentBack (env : AEnv) (j : Nat) (R : RV → AEnv → Prop) : RV → AEnv → Prop := fun r avs => match avs with
  | a :: _ => R r (env.set j a)
  | [] => R r env
theorem call_lent {S : ASp} {env : AEnv} (j : Nat) {d : D} (ds : List D) {R : RV → AEnv → Prop} (e : env[j]? = some (.own d)) (h : S (.own d :: ds.map AV.dat) (lentBack env j R)) : callR S (.at j :: ds.map RV.dat) env R := by
  unfold callR lentOk
  have e1 : argsE env (.at j :: ds.map RV.dat) = .own d :: ds.map AV.dat := by
    simp only [argsE, e]
    rw [argsE_dats]
  rw [e1]
  refine ⟨⟨?_, fun i hi => ?_⟩, ?_⟩
  · simp only [lents, lents_dats]
    exact List.nodup_cons.mpr ⟨by simp, List.nodup_nil⟩
  · simp only [lents, lents_dats, List.mem_cons, List.not_mem_nil, or_false] at hi
    subst hi
    exact ⟨d, e⟩
  · have e2 : (fun r avs' => R r (backE env (.at j :: ds.map RV.dat) avs')) = lentBack env j R := by
      funext r avs'
      cases avs' with
      | nil => rfl
      | cons a as => simp only [backE, backE_dats, lentBack]
    rw [e2]
    exact h
theorem noOwn_one {env : AEnv} {v : Nat} {x : AV} (e : env[v]? = some x) (h : ∀ d, x ≠ .own d) : noOwn env [v] := fun i hi d z => by
  rw [List.mem_singleton] at hi
  subst hi
  rw [e] at z
  exact h d (Option.some.inj z)
theorem noOwn_two {env : AEnv} {v u : Nat} {x y : AV} (e : env[v]? = some x) (h : ∀ d, x ≠ .own d) (e2 : env[u]? = some y) (h2 : ∀ d, y ≠ .own d) : noOwn env [v, u] := fun i hi d z => by
  rcases List.mem_cons.mp hi with q | q
  · subst q
    rw [e] at z
    exact h d (Option.some.inj z)
  · rw [List.mem_singleton] at q
    subst q
    rw [e2] at z
    exact h2 d (Option.some.inj z)
/-! subscripts -/
theorem atI_nat {l : List D} {i : Int} {z : D} (h : 0 ≤ i) (e : l[i.toNat]? = some z) : atI l i = some z := by
  unfold atI
  have hl : i.toNat < l.length := (List.getElem?_eq_some_iff.mp e).1
  have : ixN l.length i = some i.toNat := by
    unfold ixN
    rw [if_pos h, if_pos (by omega)]
  rw [this]
  exact e
theorem ix_lst {l : List D} {i : Int} {z : D} {F : RV → Prop} (h : 0 ≤ i) (e : l[i.toNat]? = some z) (f : F (.dat z)) : fIx (.lst l) (.int i) F := by
  unfold fIx
  exact ⟨z, atI_nat h e, f⟩
theorem ix_tup {l : List D} {i : Int} {z : D} {F : RV → Prop} (h : 0 ≤ i) (e : l[i.toNat]? = some z) (f : F (.dat z)) : fIx (.tup l) (.int i) F := by
  unfold fIx
  exact ⟨z, atI_nat h e, f⟩
theorem ix_dic {ks vs : List D} {k z : D} {F : RV → Prop} (h : isKey k = true) (e : dGet ks vs k = some z) (f : F (.dat z)) : fIx (.dic ks vs) k F := by
  unfold fIx
  exact ⟨h, z, e, f⟩
end AL
namespace AL
open PySem L2
/-! S0b: data of ints, texts, tuples and lists: == is equality. -/
inductive Pl : Nat → D → Prop
  | int (n : Nat) (i : Int) : Pl n (.int i)
  | str (n : Nat) {x : Str} : PyData.strOk x = true → Pl n (.str x)
  | tup {n : Nat} {l : List D} : (∀ d, d ∈ l → Pl n d) → Pl (n + 1) (.tup l)
  | lst {n : Nat} {l : List D} : (∀ d, d ∈ l → Pl n d) → Pl (n + 1) (.lst l)
theorem Pl.up {n m : Nat} {d : D} (h : Pl n d) : n ≤ m → Pl m d := by
  induction h generalizing m with
  | int n i => exact fun _ => .int m i
  | str n hx => exact fun _ => .str m hx
  | tup h ih =>
    intro le
    obtain ⟨k, rfl⟩ : ∃ k, m = k + 1 := ⟨m - 1, by omega⟩
    exact .tup fun d hd => ih d hd (by omega)
  | lst h ih =>
    intro le
    obtain ⟨k, rfl⟩ : ∃ k, m = k + 1 := ⟨m - 1, by omega⟩
    exact .lst fun d hd => ih d hd (by omega)
theorem layAll : ∀ {l : List D}, (∀ d ∈ l, d.pd.canLay0 = true) → PyData.canLayAll0 (pds l) = true
  | [], _ => rfl
  | d :: l, h => by
    simp only [pds, PyData.canLayAll0, Bool.and_eq_true]
    exact ⟨h d List.mem_cons_self, layAll fun e he => h e (List.mem_cons_of_mem _ he)⟩
theorem depAll {n : Nat} : ∀ {l : List D}, (∀ d ∈ l, d.pd.depth ≤ n) → PyData.depthAll (pds l) ≤ n
  | [], _ => by simp [pds, PyData.depthAll]
  | d :: l, h => by
    simp only [pds, PyData.depthAll]
    exact Nat.max_le.mpr ⟨h d List.mem_cons_self, depAll fun e he => h e (List.mem_cons_of_mem _ he)⟩
theorem Pl.lay {n : Nat} {d : D} (h : Pl n d) : d.pd.canLay0 = true := by
  induction h with
  | int n i => simp [D.pd, PyData.canLay0]
  | str n hx => simpa [D.pd, PyData.canLay0] using hx
  | tup h ih =>
    simp only [D.pd, PyData.canLay0]
    exact layAll ih
  | lst h ih =>
    simp only [D.pd, PyData.canLay0]
    exact layAll ih
theorem Pl.dep {n : Nat} {d : D} (h : Pl n d) : d.pd.depth ≤ n := by
  induction h with
  | int n i => simp [D.pd, PyData.depth]
  | str n hx => simp [D.pd, PyData.depth]
  | tup h ih =>
    simp only [D.pd, PyData.depth]
    exact Nat.succ_le_succ (depAll ih)
  | lst h ih =>
    simp only [D.pd, PyData.depth]
    exact Nat.succ_le_succ (depAll ih)
theorem Pl.sh {n : Nat} {d : D} (h : Pl n d) (hn : n ≤ 64 := by decide) : d.sh := by
  unfold D.sh SeqAt.shaped
  rw [h.lay, Bool.true_and, decide_eq_true_iff]
  exact Nat.le_trans h.dep hn
theorem eqvAll_iff : ∀ {l m : List D}, (∀ d ∈ l, ∀ (k : Nat) (e : D), Pl k e → (PyData.eqv d.pd e.pd = true ↔ d = e)) → (∀ e ∈ m, ∃ k, Pl k e) → (PyData.eqvAll (pds l) (pds m) = true ↔ l = m)
  | [], [], _, _ => by simp [pds, PyData.eqvAll]
  | [], _ :: _, _, _ => by simp [pds, PyData.eqvAll]
  | _ :: _, [], _, _ => by simp [pds, PyData.eqvAll]
  | d :: l, e :: m, h1, h2 => by
    simp only [pds, PyData.eqvAll, Bool.and_eq_true, List.cons.injEq]
    obtain ⟨k, hk⟩ := h2 e List.mem_cons_self
    exact and_congr (h1 d List.mem_cons_self k e hk) (eqvAll_iff (fun d hd => h1 d (List.mem_cons_of_mem _ hd)) fun e he => h2 e (List.mem_cons_of_mem _ he))
theorem Pl.eqv {n : Nat} {d : D} (h : Pl n d) : ∀ {m : Nat} {e : D}, Pl m e → (PyData.eqv d.pd e.pd = true ↔ d = e) := by
  induction h with
  | int n i =>
    intro m e h2
    cases h2 <;> simp [D.pd, PyData.eqv]
  | str n hx =>
    intro m e h2
    cases h2 <;> simp [D.pd, PyData.eqv]
  | tup h ih =>
    intro m e h2
    cases h2 with
    | int => simp [D.pd, PyData.eqv]
    | str => simp [D.pd, PyData.eqv]
    | tup h' =>
      simp only [D.pd, PyData.eqv, D.tup.injEq]
      exact eqvAll_iff (fun d hd k e he => ih d hd he) fun e he => ⟨_, h' e he⟩
    | lst h' => simp [D.pd, PyData.eqv]
  | lst h ih =>
    intro m e h2
    cases h2 with
    | int => simp [D.pd, PyData.eqv]
    | str => simp [D.pd, PyData.eqv]
    | tup h' => simp [D.pd, PyData.eqv]
    | lst h' =>
      simp only [D.pd, PyData.eqv, D.lst.injEq]
      exact eqvAll_iff (fun d hd k e he => ih d hd he) fun e he => ⟨_, h' e he⟩
theorem Pl.eqvB {n m : Nat} {d e : D} (h : Pl n d) (h2 : Pl m e) : PyData.eqv d.pd e.pd = decide (d = e) := by
  rw [Bool.eq_iff_iff, decide_eq_true_iff]
  exact h.eqv h2
theorem any_mem {n m : Nat} {d : D} (h : Pl m d) : ∀ {l : List D}, (∀ x ∈ l, Pl n x) → ((pds l).any fun z => PyData.eqv z d.pd) = decide (d ∈ l)
  | [], _ => by simp only [pds, List.any_nil, List.not_mem_nil, decide_false]
  | x :: l, hl => by
    simp only [pds, List.any_cons]
    rw [any_mem h fun y hy => hl y (List.mem_cons_of_mem _ hy), (hl x List.mem_cons_self).eqvB h]
    rw [Bool.eq_iff_iff, Bool.or_eq_true, decide_eq_true_iff, decide_eq_true_iff, decide_eq_true_iff, List.mem_cons]
    exact or_congr eq_comm Iff.rfl
section
variable {n m : Nat} {d e : D} {l : List D} {F : RV → Prop}
theorem in_lst (h : Pl m d) (hl : ∀ x ∈ l, Pl n x) (f : F (.dat (.bl (decide (d ∈ l))))) (hm : m ≤ 64 := by omega) (hn : n + 1 ≤ 64 := by omega) : fIn false d (.lst l) F := by
  unfold fIn
  refine ⟨h.sh hm, (Pl.lst hl).sh hn, ?_⟩
  simp only [Bool.false_eq_true, if_false]
  rw [any_mem h hl]
  exact f
theorem in_tup (h : Pl m d) (hl : ∀ x ∈ l, Pl n x) (f : F (.dat (.bl (decide (d ∈ l))))) (hm : m ≤ 64 := by omega) (hn : n + 1 ≤ 64 := by omega) : fIn false d (.tup l) F := by
  unfold fIn
  refine ⟨h.sh hm, (Pl.tup hl).sh hn, ?_⟩
  simp only [Bool.false_eq_true, if_false]
  rw [any_mem h hl]
  exact f
theorem notin_lst (h : Pl m d) (hl : ∀ x ∈ l, Pl n x) (f : F (.dat (.bl (!decide (d ∈ l))))) (hm : m ≤ 64 := by omega) (hn : n + 1 ≤ 64 := by omega) : fIn true d (.lst l) F := by
  unfold fIn
  refine ⟨h.sh hm, (Pl.lst hl).sh hn, ?_⟩
  simp only [if_true]
  rw [any_mem h hl]
  exact f
theorem notin_tup (h : Pl m d) (hl : ∀ x ∈ l, Pl n x) (f : F (.dat (.bl (!decide (d ∈ l))))) (hm : m ≤ 64 := by omega) (hn : n + 1 ≤ 64 := by omega) : fIn true d (.tup l) F := by
  unfold fIn
  refine ⟨h.sh hm, (Pl.tup hl).sh hn, ?_⟩
  simp only [if_true]
  rw [any_mem h hl]
  exact f
theorem in_dic {ks vs : List D} (h : isKey d = true) (f : F (.dat (.bl (decide (d ∈ ks))))) : fIn false d (.dic ks vs) F := by
  unfold fIn
  exact ⟨h, by simpa using f⟩
theorem notin_dic {ks vs : List D} (h : isKey d = true) (f : F (.dat (.bl (!decide (d ∈ ks))))) : fIn true d (.dic ks vs) F := by
  unfold fIn
  exact ⟨h, by simpa using f⟩
theorem eq_pl (h : Pl n d) (h2 : Pl m e) (f : F (.dat (.bl (decide (d = e))))) (hn : n ≤ 64 := by omega) (hm : m ≤ 64 := by omega) : fEq d e F := by
  unfold fEq
  refine ⟨h.sh hn, h2.sh hm, ?_⟩
  rw [h.eqvB h2]
  exact f
theorem ne_pl (h : Pl n d) (h2 : Pl m e) (f : F (.dat (.bl (!decide (d = e))))) (hn : n ≤ 64 := by omega) (hm : m ≤ 64 := by omega) : fNe d e F := by
  unfold fNe
  refine ⟨h.sh hn, h2.sh hm, ?_⟩
  rw [h.eqvB h2]
  exact f
theorem bl_sh (b : Bool) : (D.bl b).sh := by unfold D.sh SeqAt.shaped; simp [D.pd, PyData.canLay0, PyData.depth]
theorem ne_bl {a b : Bool} (f : F (.dat (.bl (!(a == b))))) : fNe (.bl a) (.bl b) F := by
  unfold fNe
  refine ⟨bl_sh a, bl_sh b, ?_⟩
  simpa [D.pd, PyData.eqv] using f
theorem eq_int {i j : Int} (f : F (.dat (.bl (decide (i = j))))) : fEq (.int i) (.int j) F := eq_pl (.int 0 i) (.int 0 j) (by simpa using f)
theorem ne_int {i j : Int} (f : F (.dat (.bl (!decide (i = j))))) : fNe (.int i) (.int j) F := ne_pl (.int 0 i) (.int 0 j) (by simpa using f)
end
end AL
namespace AL
open PySem L2
/-! X1: what the defs of k37 are worth. -/
def drK : List D := [.str "cells", .str "at", .str "rest", .str "turn", .str "seed"]
def drD (cs : List Int) (a r t s : Int) : D := .dic drK [.lst (cs.map D.int), .int a, .int r, .int t, .int s]
def Dr (d : D) : Prop := ∃ cs a r t s, d = drD cs a r t s ∧ (∀ c ∈ cs, (0 : Int) ≤ c) ∧ 0 ≤ a ∧ 0 ≤ r ∧ 0 ≤ t ∧ 0 ≤ s
def S_law_begin : ASp := fun avs R => ∃ ns : List Int, avs = [.dat (.scr (ns.map D.int))] ∧ ∀ d, Dr d → R (.new d) avs
def S_law_draw : ASp := fun avs R => ∃ d many, avs = [.own d, .dat (.int many)] ∧ Dr d ∧ 0 < many ∧ many < 1073741824 ∧ ∀ r d', 0 ≤ r → r < many → Dr d' → R (.dat (.int r)) [.own d', .dat (.int many)]
/-- the items that a subscript reads -/
def itemsOf : D → Option (List D)
  | .lst l => some l
  | .tup l => some l
  | .str z => some (z.cps.toList.map fun c => D.str ⟨#[c]⟩)
  | _ => none
def seqOf : D → Option (List D)
  | .lst l => some l
  | .tup l => some l
  | _ => none
def S_law_pick : ASp := fun avs R => ∃ d row l, avs = [.own d, .dat row] ∧ Dr d ∧ itemsOf row = some l ∧ l ≠ [] ∧ l.length ≤ 1000000 ∧ ∀ z d', z ∈ l → Dr d' → R (.dat z) [.own d', .dat row]
def S_law_mixed : ASp := fun avs R => ∃ d row l, avs = [.own d, .dat row] ∧ Dr d ∧ seqOf row = some l ∧ l.length ≤ 1000000 ∧ ∀ l' d', l'.Perm l → Dr d' → R (.new (.lst l')) [.own d', .dat row]
def S_law_some : ASp := fun avs R => ∃ d row l n least, avs = [.own d, .dat row, .dat (.int least)] ∧ Dr d ∧ seqOf row = some l ∧ l.length ≤ 1000000 ∧ n ≤ 20 ∧ (∀ x ∈ l, Pl n x) ∧ ∀ l' d', l'.Sublist l → Dr d' → R (.new (.lst l')) [.own d', .dat row, .dat (.int least)]
def S_law_names : ASp := fun avs R => ∃ d many, avs = [.own d, .dat (.int many)] ∧ Dr d ∧ 0 ≤ many ∧ many ≤ 1000 ∧ ∀ (ns : List Str) d', ns.length = many.toNat → (∀ x ∈ ns, PyData.strOk x = true) → Dr d' → R (.new (.lst (ns.map D.str))) [.own d', .dat (.int many)]
def S_law_unlike : ASp := fun avs R => ∃ row l n, avs = [.dat row] ∧ seqOf row = some l ∧ l.length ≤ 1000000 ∧ n ≤ 20 ∧ (∀ x ∈ l, Pl n x) ∧ ∀ l', l'.Sublist l → (∀ x ∈ l, x ∈ l') → R (.new (.lst l')) avs
/-! the trees -/
abbrev Row := Str × List Int
def tmD (ts : List Int) : D := .tup (ts.map D.int)
def rowD (r : Row) : D := .tup [.str r.1, tmD r.2]
abbrev Span := Int × Int × Int
def spD (s : Span) : D := .tup [.int s.1, .int s.2.1, .int s.2.2]
structure Tree where
  rows : List Row
  nots : List Row
  spans : List Span
  wide : List Int
def treeD (t : Tree) : D := .tup [.tup (t.rows.map rowD), .tup (t.nots.map rowD), .tup (t.spans.map spD), tmD t.wide]
def objD (C : Addr) (t : Tree) : D := .obj C ["rows", "nots", "spans", "wide"] [.tup (t.rows.map rowD), .tup (t.nots.map rowD), .dic (t.spans.map fun s => D.int s.1) (t.spans.map fun s => D.tup [.int s.2.1, .int s.2.2]), tmD t.wide]
def RowOk (r : Row) : Prop := PyData.strOk r.1 = true ∧ r.2.length ≤ 100
def RowsOk (rs : List Row) : Prop := rs.length ≤ 1000 ∧ ∀ r ∈ rs, RowOk r
structure TreeOk (t : Tree) : Prop where
  rows : RowsOk t.rows
  nots : RowsOk t.nots
  slen : t.spans.length ≤ 1000
  wlen : t.wide.length ≤ 1000
  desc : t.spans.Pairwise fun a b => b.1 < a.1
/-- the variables, in the order of their first places -/
def addVars (told : List Int) : List Int → List Int
  | [] => told
  | t :: ts => addVars (if t < 0 ∧ t ∉ told then told ++ [t] else told) ts
def varsFrom (told : List Int) : List Row → List Int
  | [] => told
  | r :: rs => varsFrom (addVars told r.2) rs
def vars (rs : List Row) : List Int := varsFrom [] rs
def S_law_variables : ASp := fun avs R => ∃ row rs, avs = [.dat row] ∧ seqOf row = some (rs.map rowD) ∧ RowsOk rs ∧ R (.new (.lst ((vars rs).map D.int))) avs
def S_Body_variables (C : Addr) : ASp := fun avs R => ∃ t, avs = [.dat (objD C t)] ∧ TreeOk t ∧ R (.new (.lst ((vars t.rows).map D.int))) avs
def S_law_pool : ASp := fun avs R => ∃ d many, avs = [.own d, .dat (.int many)] ∧ Dr d ∧ 0 ≤ many ∧ many ≤ 900 ∧ ∀ (ps : List Int) d', ps.Nodup → ps.length = many.toNat → (∀ p ∈ ps, -1000000007 < p ∧ p < 0) → Dr d' → R (.new (.lst (ps.map D.int))) [.own d', .dat (.int many)]
def tabD (t : Str × Int) : D := .tup [.str t.1, .int t.2]
def S_law_asked : ASp := fun avs R => ∃ d tb tabs many tm terms, avs = [.own d, .dat tb, .dat (.int many), .dat tm] ∧ Dr d ∧ seqOf tb = some (tabs.map tabD) ∧ seqOf tm = some (terms.map D.int) ∧ 0 ≤ many ∧ many ≤ 900 ∧ (0 < many → tabs ≠ [] ∧ terms ≠ []) ∧ tabs.length ≤ 1000 ∧ terms.length ≤ 1000 ∧
  (∀ t ∈ tabs, PyData.strOk t.1 = true ∧ 0 ≤ t.2 ∧ t.2 ≤ 100) ∧ ∀ (rs : List Row) d', rs.length ≤ many.toNat → RowsOk rs → (∀ r ∈ rs, ∀ t ∈ r.2, t ∈ terms) → (0 < many → rs ≠ []) → Dr d' → R (.new (.lst (rs.map rowD))) [.own d', .dat tb, .dat (.int many), .dat tm]
/-- names: a dict from variables to images -/
def nmD (ks is : List Int) : D := .dic (ks.map D.int) (is.map D.int)
def lk : List Int → List Int → Int → Option Int
  | k :: ks, i :: is, t => if k = t then some i else lk ks is t
  | _, _, _ => none
def img (ks is : List Int) (t : Int) : Int := if 0 ≤ t then t else (lk ks is t).getD 0
def laidT (ts ks is : List Int) : List Int := ts.map (img ks is)
def bnd (t : Tree) (x : Int) : Int × Int := if 0 ≤ x then (x, x + 1) else match t.spans.find? (fun s => s.1 == x) with
  | some s => (s.2.1, s.2.2)
  | none => (0, 1000)
def within (b t : Tree) (x y : Int) : Bool := decide ((bnd b x).1 ≤ (bnd t y).1) && decide ((bnd t y).2 ≤ (bnd b x).2)
def lays (b t : Tree) (ks is : List Int) : Bool := (ks.all fun k => within b t k ((lk ks is k).getD 0)) && (decide (laidT b.wide ks is = t.wide) && b.rows.all fun r => decide ((r.1, laidT r.2 ks is) ∈ t.rows))
/-- the variables of these terms have images -/
def Has (ks ts : List Int) : Prop := ∀ x ∈ ts, x < 0 → x ∈ ks
structure NmOk (ks is : List Int) : Prop where
  len : ks.length = is.length
  nd : ks.Nodup
  sz : ks.length ≤ 1000000
  neg : ∀ k ∈ ks, k < 0
def S_law_bounds : ASp := fun avs R => ∃ t x, avs = [.dat (treeD t), .dat (.int x)] ∧ TreeOk t ∧ R (.dat (.tup [.int (bnd t x).1, .int (bnd t x).2])) avs
def S_Body_span (C : Addr) : ASp := fun avs R => ∃ t x, avs = [.dat (objD C t), .dat (.int x)] ∧ TreeOk t ∧ R (.dat (.tup [.int (bnd t x).1, .int (bnd t x).2])) avs
def S_law_laid : ASp := fun avs R => ∃ ts ks is, avs = [.dat (tmD ts), .dat (nmD ks is)] ∧ NmOk ks is ∧ Has ks ts ∧ ts.length ≤ 1000 ∧ R (.dat (tmD (laidT ts ks is))) avs
def S_laid : ASp := S_law_laid
def S_law_lays : ASp := fun avs R => ∃ b t ks is, avs = [.dat (treeD b), .dat (treeD t), .dat (nmD ks is)] ∧ TreeOk b ∧ TreeOk t ∧ NmOk ks is ∧ Has ks b.wide ∧ (∀ r ∈ b.rows, Has ks r.2) ∧ R (.dat (.bl (lays b t ks is))) avs
def S_is_within (C : Addr) : ASp := fun avs R => ∃ b t x y, avs = [.dat (objD C b), .dat (.int x), .dat (objD C t), .dat (.int y)] ∧ TreeOk b ∧ TreeOk t ∧ R (.dat (.bl (within b t x y))) avs
def S_is_whole : ASp := fun avs R => ∃ i : Int, avs = [.dat (.int i)] ∧ R (.dat (.bl true)) avs
def S_Body_init (C : Addr) : ASp := fun avs R => ∃ a b c e, avs = [.own (.obj C [] []), .dat a, .dat b, .dat c, .dat e] ∧ R (.dat .non) [.own (.obj C ["rows", "nots", "spans", "wide"] [a, b, c, e]), .dat a, .dat b, .dat c, .dat e]
def S_law_object (C : Addr) : ASp := fun avs R => ∃ t, avs = [.dat (treeD t)] ∧ TreeOk t ∧ R (.new (objD C t)) avs
def S_Body_tree (C : Addr) : ASp := fun avs R => ∃ t, avs = [.dat (objD C t)] ∧ TreeOk t ∧ R (.dat (treeD t)) avs
def S_law_downward : ASp := fun avs R => ∃ row ts, avs = [.dat row] ∧ seqOf row = some (ts.map D.int) ∧ ts.length ≤ 1000 ∧ ∀ ts' : List Int, ts'.Perm ts → ts'.Pairwise (· ≥ ·) → R (.new (.lst (ts'.map D.int))) avs
def S_names_from (C : Addr) : ASp := fun avs R => ∃ b is, avs = [.dat (objD C b), .dat (tmD is)] ∧ TreeOk b ∧ is.length ≤ 1000 ∧ (if is.length = (vars b.rows).length then R (.new (nmD (vars b.rows) is)) avs else R (.dat .non) avs)
/-- the fold's answer -/
def foldV (b t : Tree) (is : List Int) : Bool := decide (is.length = (vars b.rows).length) && lays b t (vars b.rows) is
def S_is_fold (C : Addr) : ASp := fun avs R => ∃ b t is, avs = [.dat (objD C b), .dat (objD C t), .dat (tmD is)] ∧ TreeOk b ∧ TreeOk t ∧ is.length ≤ 1000 ∧ Has (vars b.rows) b.wide ∧ R (.dat (.bl (foldV b t is))) avs
def S_law_names_of : ASp := fun avs R => ∃ b is, avs = [.dat (treeD b), .dat (tmD is)] ∧ TreeOk b ∧ is.length ≤ 1000 ∧ is.length = (vars b.rows).length ∧ R (.new (nmD (vars b.rows) is)) avs
def S_law_told : ASp := fun avs R => ∃ b t is, avs = [.dat (treeD b), .dat (treeD t), .dat (tmD is), .dat (.bl (foldV b t is))] ∧ TreeOk b ∧ TreeOk t ∧ is.length ≤ 1000 ∧ Has (vars b.rows) b.wide ∧ R (.dat (.bl true)) avs
def S_law_asks : ASp := fun avs R => ∃ b t is, avs = [.dat (treeD b), .dat (treeD t), .dat (tmD is)] ∧ TreeOk b ∧ TreeOk t ∧ is.length ≤ 1000 ∧ is.length = (vars b.rows).length ∧ Has (vars b.rows) b.wide ∧ R (.dat (.bl true)) avs
def S_law_other : ASp := fun avs R => ∃ d is st, avs = [.own d, .dat (tmD is), .dat (.lst (st.map D.int))] ∧ Dr d ∧ is ≠ [] ∧ st ≠ [] ∧ is.length ≤ 900 ∧ st.length ≤ 200000 ∧ ∀ (is' : List Int) d', is'.length = is.length → Dr d' → R (.dat (tmD is')) [.own d', .dat (tmD is), .dat (.lst (st.map D.int))]
/-- what the checks of a pair of trees lean on -/
structure PairOk (b t : Tree) (is : List Int) : Prop where
  bo : TreeOk b
  to : TreeOk t
  len : is.length = (vars b.rows).length
  sz : is.length ≤ 900
  wide : Has (vars b.rows) b.wide
  big : ∀ r ∈ t.rows, ∀ x ∈ r.2, -1000000007 < x
def S_law_images : ASp := fun avs R => ∃ d b t is, avs = [.own d, .dat (treeD b), .dat (treeD t), .dat (tmD is)] ∧ Dr d ∧ PairOk b t is ∧ ∀ d', Dr d' → R (.dat (.bl true)) [.own d', .dat (treeD b), .dat (treeD t), .dat (tmD is)]
def S_law_trees : ASp := fun avs R => ∃ d b t is, avs = [.own d, .dat (treeD b), .dat (treeD t), .dat (tmD is)] ∧ Dr d ∧ PairOk b t is ∧ t.rows ≠ [] ∧ b.spans.length ≤ 900 ∧ t.wide.length ≤ 900 ∧ ∀ d', Dr d' → R (.dat (.bl true)) [.own d', .dat (treeD b), .dat (treeD t), .dat (tmD is)]
def S_law_bent : ASp := fun avs R => ∃ d rs w mk, avs = [.own d, .dat (.lst (rs.map rowD)), .dat (tmD w), .dat (.lst (mk.map D.int))] ∧ Dr d ∧ RowsOk rs ∧ rs ≠ [] ∧ mk ≠ [] ∧ mk.length ≤ 100 ∧ w.length ≤ 900 ∧
  ∀ (rs' : List Row) (w' : List Int) (new : Bool) d', rs' ≠ [] → (∀ r ∈ rs', r ∈ rs) → rs'.length ≤ rs.length → w'.length ≤ w.length + 1 → Dr d' → R (.dat (.tup [.lst (rs'.map rowD), tmD w'])) [.own d', .dat (.lst (rs.map rowD)), .dat (tmD w), .dat (.lst (mk.map D.int))]
def S_law_scene : ASp := fun avs R => ∃ d, avs = [.own d] ∧ Dr d ∧ ∀ b t is d', PairOk b t is → t.rows ≠ [] → b.spans.length ≤ 900 → t.wide.length ≤ 900 → Dr d' → R (.dat (.tup [treeD b, treeD t, nmD (vars b.rows) is])) [.own d']
def S_law_chain : ASp := fun avs R => ∃ d, avs = [.own d] ∧ Dr d ∧ ∀ b t (line : List Int) (paths : List (List Int)) d', TreeOk b → TreeOk t → vars b.rows = line → paths ≠ [] → paths.length ≤ 1000 → (∀ p ∈ paths, PairOk b t p ∧ foldV ⟨b.rows, b.nots, [], []⟩ ⟨t.rows, t.nots, t.spans, []⟩ p = true) → t.rows ≠ [] → b.spans.length ≤ 900 → t.wide.length ≤ 900 → Dr d' →
  R (.dat (.tup [treeD b, treeD t, .lst (line.map D.int), .lst (paths.map fun p => D.lst (p.map D.int))])) [.own d']
def S_law_near : ASp := fun avs R => ∃ d, avs = [.own d] ∧ Dr d ∧ ∀ d', Dr d' → R (.dat (.bl true)) [.own d']
def S_law_far : ASp := S_law_near
def S_law : ASp := fun avs R => ∃ ns : List Int, avs = [.dat (.scr (ns.map D.int))] ∧ R (.dat (.bl true)) avs
end AL
namespace AL
open PySem L2
/-- _law_begin(script): 0=script 1=cells 2=cell -/
def B_law_begin : Nat → Bool := fun i => false
def law_begin_1_0 : AS' := (aDrop (aMut 1 (aConsD (aIf (aB (aOp fGe (aVar 2) (aC (.int 0)))) (aOp fMul (aC (.int 2)) (aVar 2)) (aOp fAdd (aOp fMul (aNeg (aC (.int 2))) (aVar 2)) (aC (.int 1)))) aNil) fAppend))
def law_begin_0_2 : AS' := (aRet B_law_begin (aDisp [((aC (.str "cells")), (aVar 1)), ((aC (.str "at")), (aC (.int 0))), ((aC (.str "rest")), (aC (.int 0))), ((aC (.str "turn")), (aC (.int 0))), ((aC (.str "seed")), (aC (.int 1)))]))
def law_begin_0_1 : AS' := aSeq (aFor (aiSeq (aSl (aVar 0) aoNone (aoSome (aC (.int 63))))) (agName 2) law_begin_1_0) law_begin_0_2
def law_begin_0_0 : AS' := aSeq (aSet 1 (aLst aNil)) law_begin_0_1
def a_law_begin : AS' := law_begin_0_0
/-- _law_draw(d, many): 0=d 1=many 2=told 3=cell -/
def B_law_draw : Nat → Bool := fun i => i == 0
def law_draw_1_2 : AS' := (aRet B_law_draw (aVar 2))
def law_draw_1_1 : AS' := aSeq (aAsg (aOp fDiv (aOp fIx (aVar 0) (aC (.str "rest"))) (aVar 1)) (agSub (aVar 0) (aC (.str "rest")))) law_draw_1_2
def law_draw_1_0 : AS' := aSeq (aSet 2 (aOp fMod (aRd fInt (aOp fIx (aVar 0) (aC (.str "rest")))) (aVar 1))) law_draw_1_1
def law_draw_3_1 : AS' := (aRet B_law_draw (aOp fMod (aRd fInt (aOp fDiv (aVar 3) (aC (.int 2)))) (aVar 1)))
def law_draw_3_0 : AS' := aSeq (aAsg (aOp fDiv (aOp fDiv (aVar 3) (aC (.int 2))) (aVar 1)) (agSub (aVar 0) (aC (.str "rest")))) law_draw_3_1
def law_draw_2_3 : AS' := (aAsg (aOp fMod (aRd fInt (aOp fAdd (aOp fAdd (aOp fMul (aOp fIx (aVar 0) (aC (.str "seed"))) (aC (.int 1009))) (aVar 3)) (aC (.int 1)))) (aC (.int 1000000007))) (agSub (aVar 0) (aC (.str "seed"))))
def law_draw_2_2 : AS' := aSeq (aIfS (aB (aOp fGe (aVar 3) (aOp fPow (aC (.int 10)) (aC (.int 18))))) law_draw_3_0 aNext) law_draw_2_3
def law_draw_2_1 : AS' := aSeq (aAsg (aOp fAdd (aOp fIx (aVar 0) (aC (.str "at"))) (aC (.int 1))) (agSub (aVar 0) (aC (.str "at")))) law_draw_2_2
def law_draw_2_0 : AS' := aSeq (aSet 3 (aOp fIx (aOp fIx (aVar 0) (aC (.str "cells"))) (aOp fIx (aVar 0) (aC (.str "at"))))) law_draw_2_1
def law_draw_0_5 : AS' := (aRet B_law_draw (aOp fMod (aVar 2) (aVar 1)))
def law_draw_0_4 : AS' := aSeq (aSet 2 (aOp fMod (aRd fInt (aOp fAdd (aOp fDiv (aVar 2) (aC (.int 7))) (aOp fMul (aVar 2) (aC (.int 69621))))) (aC (.int 1999999973)))) law_draw_0_5
def law_draw_0_3 : AS' := aSeq (aSet 2 (aOp fMod (aRd fInt (aOp fAdd (aOp fMul (aOp fAdd (aOp fIx (aVar 0) (aC (.str "seed"))) (aOp fMul (aOp fIx (aVar 0) (aC (.str "turn"))) (aC (.int 7919)))) (aC (.int 48271))) (aC (.int 12345)))) (aC (.int 2147483647)))) law_draw_0_4
def law_draw_0_2 : AS' := aSeq (aIfS (aB (aOp fLt (aOp fIx (aVar 0) (aC (.str "at"))) (aRd fLen (aOp fIx (aVar 0) (aC (.str "cells")))))) law_draw_2_0 aNext) law_draw_0_3
def law_draw_0_1 : AS' := aSeq (aIfS (aB (aOp fGt (aOp fIx (aVar 0) (aC (.str "rest"))) (aC (.int 0)))) law_draw_1_0 aNext) law_draw_0_2
def law_draw_0_0 : AS' := aSeq (aAsg (aOp fAdd (aOp fIx (aVar 0) (aC (.str "turn"))) (aC (.int 1))) (agSub (aVar 0) (aC (.str "turn")))) law_draw_0_1
def a_law_draw : AS' := law_draw_0_0
/-- _law_downward(terms): 0=terms 1=number 2=term -/
def B_law_downward : Nat → Bool := fun i => false
def law_downward_0_0 : AS' := (aRet B_law_downward (aLc (aiSeq (aRd fSorted (aLc (aiSeq (aVar 0)) (agName 2) atYes (aNeg (aVar 2)) [2]))) (agName 1) atYes (aNeg (aVar 1)) [1]))
def a_law_downward : AS' := law_downward_0_0
/-- _law_mixed(d, row): 0=d 1=row 2=left 3=told 4=turn -/
def B_law_mixed : Nat → Bool := fun i => i == 0
def law_mixed_1_0 : AS' := (aDrop (aMut 3 (aConsD (aMut 2 (aConsD (aFn S_law_draw (aCons (aVar 0) (aConsD (aRd fLen (aVar 2)) aNil))) aNil) fPopAt) aNil) fAppend))
def law_mixed_0_3 : AS' := (aRet B_law_mixed (aVar 3))
def law_mixed_0_2 : AS' := aSeq (aFor (aiRange1 (aConsD (aRd fLen (aVar 1)) aNil)) (agName 4) law_mixed_1_0) law_mixed_0_3
def law_mixed_0_1 : AS' := aSeq (aSet 3 (aLst aNil)) law_mixed_0_2
def law_mixed_0_0 : AS' := aSeq (aSet 2 (aRd fList (aVar 1))) law_mixed_0_1
def a_law_mixed : AS' := law_mixed_0_0
/-- _law_pick(d, row): 0=d 1=row -/
def B_law_pick : Nat → Bool := fun i => i == 0
def law_pick_0_0 : AS' := (aRet B_law_pick (aOp fIx (aVar 1) (aFn S_law_draw (aCons (aVar 0) (aConsD (aRd fLen (aVar 1)) aNil)))))
def a_law_pick : AS' := law_pick_0_0
/-- _law_names(d, many): 0=d 1=many 2=letters 3=told 4=place 5=name 6=turn -/
def B_law_names : Nat → Bool := fun i => i == 0
def law_names_1_1 : AS' := (aDrop (aMut 3 (aConsD (aOp fAdd (aOp fAdd (aVar 5) (aC (.str "q"))) (aOp fIx (aVar 2) (aOp fMod (aVar 4) (aC (.int 26))))) aNil) fAppend))
def law_names_1_0 : AS' := aSeq (aSet 5 (aJoin "" (aLc (aiRange1 (aConsD (aFn S_law_draw (aCons (aVar 0) (aConsD (aC (.int 4)) aNil))) aNil)) (agName 6) atYes (aFn S_law_pick (aCons (aVar 0) (aConsD (aVar 2) aNil))) [6]))) law_names_1_1
def law_names_0_3 : AS' := (aRet B_law_names (aVar 3))
def law_names_0_2 : AS' := aSeq (aFor (aiRange1 (aConsD (aVar 1) aNil)) (agName 4) law_names_1_0) law_names_0_3
def law_names_0_1 : AS' := aSeq (aSet 3 (aLst aNil)) law_names_0_2
def law_names_0_0 : AS' := aSeq (aSet 2 (aC (.str "abcdefghijklmnopqrstuvwxyz"))) law_names_0_1
def a_law_names : AS' := law_names_0_0
/-- _law_pool(d, many): 0=d 1=many 2=low 3=step 4=place -/
def B_law_pool : Nat → Bool := fun i => i == 0
def law_pool_1_0 : AS' := (aSet 3 (aC (.int 1000003)))
def law_pool_0_2 : AS' := (aRet B_law_pool (aFn S_law_mixed (aCons (aVar 0) (aConsD (aLc (aiRange1 (aConsD (aVar 1) aNil)) (agName 4) atYes (aOp fSub (aNeg (aVar 2)) (aOp fMul (aVar 3) (aVar 4))) [4]) aNil))))
def law_pool_0_1 : AS' := aSeq (aIfS (aB (aOp fEq (aFn S_law_draw (aCons (aVar 0) (aConsD (aC (.int 8)) aNil))) (aC (.int 7)))) law_pool_1_0 aNext) law_pool_0_2
def law_pool_0_0 : AS' := aSeq (aPar [2, 3] (anCons (aOp fAdd (aC (.int 1)) (aFn S_law_draw (aCons (aVar 0) (aConsD (aC (.int 9)) aNil)))) (anCons (aOp fAdd (aC (.int 1)) (aFn S_law_draw (aCons (aVar 0) (aConsD (aC (.int 3)) aNil)))) aNil))) law_pool_0_1
def a_law_pool : AS' := law_pool_0_0
/-- _law_some(d, row, least): 0=d 1=row 2=least 3=told 4=thing -/
def B_law_some : Nat → Bool := fun i => i == 0
def law_some_2_0 : AS' := (aDrop (aMut 3 (aConsD (aVar 4) aNil) fAppend))
def law_some_1_0 : AS' := (aIfS (aAnd (aB (aOp fLt (aRd fLen (aVar 3)) (aVar 2))) (aB (aOp (fIn true) (aVar 4) (aVar 3)))) law_some_2_0 aNext)
def law_some_0_2 : AS' := (aRet B_law_some (aLc (aiSeq (aVar 1)) (agName 4) (aB (aOp (fIn false) (aVar 4) (aVar 3))) (aVar 4) [4]))
def law_some_0_1 : AS' := aSeq (aFor (aiSeq (aVar 1)) (agName 4) law_some_1_0) law_some_0_2
def law_some_0_0 : AS' := aSeq (aSet 3 (aLc (aiSeq (aVar 1)) (agName 4) (aB (aOp fEq (aFn S_law_draw (aCons (aVar 0) (aConsD (aC (.int 2)) aNil))) (aC (.int 1)))) (aVar 4) [4])) law_some_0_1
def a_law_some : AS' := law_some_0_0
/-- _law_chain(d): 0=d 1=many 2=nodes 3=leads 4=order 5=trows 6=cells 7=tspans 8=length 9=line 10=rows 11=paths 12=start 13=first 14=second 15=at 16=path 17=step 18=wide 19=twide 20=spans 21=nots 22=node 23=term -/
def B_law_chain : Nat → Bool := fun i => i == 0
def law_chain_2_1 : AS' := (aDrop (aMut 16 (aConsD (aOp fIx (aVar 2) (aVar 15)) aNil) fAppend))
def law_chain_2_0 : AS' := aSeq (aSet 15 (aOp fIx (aVar 3) (aVar 15))) law_chain_2_1
def law_chain_1_3 : AS' := (aDrop (aMut 11 (aConsD (aVar 16) aNil) fAppend))
def law_chain_1_2 : AS' := aSeq (aFor (aiRange1 (aConsD (aVar 8) aNil)) (agName 17) law_chain_2_0) law_chain_1_3
def law_chain_1_1 : AS' := aSeq (aSet 16 (aLst (aConsD (aOp fIx (aVar 2) (aVar 15)) aNil))) law_chain_1_2
def law_chain_1_0 : AS' := aSeq (aSet 15 (aVar 12)) law_chain_1_1
def law_chain_3_1 : AS' := (aPar [18, 19] (anCons (aTup (aConsD (aOp fIx (aVar 9) (aVar 15)) aNil)) (anCons (aTup (aConsD (aOp fIx (aFn S_law_pick (aCons (aVar 0) (aConsD (aVar 11) aNil))) (aVar 15)) aNil)) aNil)))
def law_chain_3_0 : AS' := aSeq (aSet 15 (aFn S_law_draw (aCons (aVar 0) (aConsD (aOp fAdd (aVar 8) (aC (.int 1))) aNil)))) law_chain_3_1
def law_chain_4_0 : AS' := (aDrop (aMut 20 (aConsD (aOp fAdd (aTup (aConsD (aFn S_law_pick (aCons (aVar 0) (aConsD (aVar 9) aNil))) aNil)) (aFn S_law_pick (aCons (aVar 0) (aConsD (aOp fAdd (aVar 6) (aLst (aConsD (aTup (aConsD (aC (.int 0)) (aConsD (aC (.int 200)) aNil))) (aConsD (aTup (aConsD (aC (.int 100)) (aConsD (aC (.int 1000)) aNil))) aNil)))) aNil)))) aNil) fAppend))
def law_chain_5_0 : AS' := (aDrop (aMut 21 (aConsD (aTup (aConsD (aVar 14) (aConsD (aTup (aConsD (aFn S_law_pick (aCons (aVar 0) (aConsD (aVar 9) aNil))) aNil)) aNil))) aNil) fAppend))
def law_chain_0_18 : AS' := (aRet B_law_chain (aTup (aConsD (aTup (aConsD (aRd fTuple (aVar 10)) (aConsD (aRd fTuple (aVar 21)) (aConsD (aRd fTuple (aVar 20)) (aConsD (aVar 18) aNil))))) (aConsD (aTup (aConsD (aRd fTuple (aVar 5)) (aConsD (aTup aNil) (aConsD (aRd fTuple (aVar 7)) (aConsD (aVar 19) aNil))))) (aConsD (aVar 9) (aConsD (aVar 11) aNil))))))
def law_chain_0_17 : AS' := aSeq (aIfS (aB (aOp fEq (aFn S_law_draw (aCons (aVar 0) (aConsD (aC (.int 2)) aNil))) (aC (.int 0)))) law_chain_5_0 aNext) law_chain_0_18
def law_chain_0_16 : AS' := aSeq (aIfS (aB (aOp fEq (aFn S_law_draw (aCons (aVar 0) (aConsD (aC (.int 2)) aNil))) (aC (.int 0)))) law_chain_4_0 aNext) law_chain_0_17
def law_chain_0_15 : AS' := aSeq (aIfS (aB (aOp fEq (aFn S_law_draw (aCons (aVar 0) (aConsD (aC (.int 3)) aNil))) (aC (.int 0)))) law_chain_3_0 aNext) law_chain_0_16
def law_chain_0_14 : AS' := aSeq (aPar [18, 19, 20, 21] (anCons (aTup aNil) (anCons (aTup aNil) (anCons (aLst aNil) (anCons (aLst aNil) aNil))))) law_chain_0_15
def law_chain_0_13 : AS' := aSeq (aFor (aiSeq (aVar 4)) (agName 12) law_chain_1_0) law_chain_0_14
def law_chain_0_12 : AS' := aSeq (aSet 11 (aLst aNil)) law_chain_0_13
def law_chain_0_11 : AS' := aSeq (aSet 10 (aLc (aiRange1 (aConsD (aVar 8) aNil)) (agName 15) atYes (aTup (aConsD (aVar 13) (aConsD (aTup (aConsD (aOp fIx (aVar 9) (aVar 15)) (aConsD (aOp fIx (aVar 9) (aOp fAdd (aVar 15) (aC (.int 1)))) aNil))) aNil))) [15])) law_chain_0_12
def law_chain_0_10 : AS' := aSeq (aSet 9 (aFn S_law_pool (aCons (aVar 0) (aConsD (aOp fAdd (aVar 8) (aC (.int 1))) aNil)))) law_chain_0_11
def law_chain_0_9 : AS' := aSeq (aSet 8 (aOp fAdd (aC (.int 1)) (aFn S_law_draw (aCons (aVar 0) (aConsD (aC (.int 16)) aNil))))) law_chain_0_10
def law_chain_0_8 : AS' := aSeq (aSet 7 (aLc (aiSeq (aFn S_law_downward (aConsD (aVar 2) aNil))) (agName 23) atYes (aOp fAdd (aTup (aConsD (aVar 23) aNil)) (aOp fIx (aVar 6) (aOp fMod (aRd fInt (aIndex (aVar 2) (aVar 23))) (aC (.int 3))))) [23])) law_chain_0_9
def law_chain_0_7 : AS' := aSeq (aSet 6 (aLst (aConsD (aTup (aConsD (aC (.int 0)) (aConsD (aC (.int 100)) aNil))) (aConsD (aTup (aConsD (aC (.int 100)) (aConsD (aC (.int 200)) aNil))) (aConsD (aTup (aConsD (aC (.int 200)) (aConsD (aC (.int 1000)) aNil))) aNil))))) law_chain_0_8
def law_chain_0_6 : AS' := aSeq (aSet 5 (aOp fAdd (aVar 5) (aLc (aiSeq (aSl (aFn S_law_some (aCons (aVar 0) (aConsD (aListRg (aVar 1)) (aConsD (aC (.int 0)) aNil)))) aoNone (aoSome (aC (.int 8))))) (agName 15) atYes (aTup (aConsD (aVar 14) (aConsD (aTup (aConsD (aOp fIx (aVar 2) (aVar 15)) aNil)) aNil))) [15]))) law_chain_0_7
def law_chain_0_5 : AS' := aSeq (aSet 5 (aLc (aiSeq (aVar 4)) (agName 15) atYes (aTup (aConsD (aVar 13) (aConsD (aTup (aConsD (aOp fIx (aVar 2) (aVar 15)) (aConsD (aOp fIx (aVar 2) (aOp fIx (aVar 3) (aVar 15))) aNil))) aNil))) [15])) law_chain_0_6
def law_chain_0_4 : AS' := aSeq (aSet 4 (aFn S_law_mixed (aCons (aVar 0) (aConsD (aListRg (aVar 1)) aNil)))) law_chain_0_5
def law_chain_0_3 : AS' := aSeq (aSet 3 (aLc (aiSeq (aVar 2)) (agName 22) atYes (aFn S_law_draw (aCons (aVar 0) (aConsD (aVar 1) aNil))) [22])) law_chain_0_4
def law_chain_0_2 : AS' := aSeq (aSet 2 (aFn S_law_pool (aCons (aVar 0) (aConsD (aVar 1) aNil)))) law_chain_0_3
def law_chain_0_1 : AS' := aSeq (aAsg (aFn S_law_names (aCons (aVar 0) (aConsD (aC (.int 2)) aNil))) (agTup 2 (agCons (agName 13) (agCons (agName 14) agNil)))) law_chain_0_2
def law_chain_0_0 : AS' := aSeq (aSet 1 (aOp fAdd (aC (.int 17)) (aFn S_law_draw (aCons (aVar 0) (aConsD (aC (.int 40)) aNil))))) law_chain_0_1
def a_law_chain : AS' := law_chain_0_0
/-- _law_bounds(btree, term): 0=btree 1=term 2=span -/
def B_law_bounds : Nat → Bool := fun i => false
def law_bounds_1_0 : AS' := (aRet B_law_bounds (aTup (aConsD (aVar 1) (aConsD (aOp fAdd (aVar 1) (aC (.int 1))) aNil))))
def law_bounds_3_0 : AS' := (aRet B_law_bounds (aTup (aConsD (aOp fIx (aVar 2) (aC (.int 1))) (aConsD (aOp fIx (aVar 2) (aC (.int 2))) aNil))))
def law_bounds_2_0 : AS' := (aIfS (aB (aOp fEq (aOp fIx (aVar 2) (aC (.int 0))) (aVar 1))) law_bounds_3_0 aNext)
def law_bounds_0_2 : AS' := (aRet B_law_bounds (aTup (aConsD (aC (.int 0)) (aConsD (aC (.int 1000)) aNil))))
def law_bounds_0_1 : AS' := aSeq (aFor (aiSeq (aOp fIx (aVar 0) (aC (.int 2)))) (agName 2) law_bounds_2_0) law_bounds_0_2
def law_bounds_0_0 : AS' := aSeq (aIfS (aB (aOp fGe (aVar 1) (aC (.int 0)))) law_bounds_1_0 aNext) law_bounds_0_1
def a_law_bounds : AS' := law_bounds_0_0
/-- _law_laid(terms, names): 0=terms 1=names 2=term -/
def B_law_laid : Nat → Bool := fun i => false
def law_laid_0_0 : AS' := (aRet B_law_laid (aRd fTuple (aLc (aiSeq (aVar 0)) (agName 2) atYes (aIf (aB (aOp fGe (aVar 2) (aC (.int 0)))) (aVar 2) (aOp fIx (aVar 1) (aVar 2))) [2])))
def a_law_laid : AS' := law_laid_0_0
/-- _law_lays(btree, ttree, names): 0=btree 1=ttree 2=names 3=term 4=low 5=high 6=first 7=last 8=row -/
def B_law_lays : Nat → Bool := fun i => false
def law_lays_2_0 : AS' := (aRet B_law_lays (aC (.bl false)))
def law_lays_1_2 : AS' := (aIfS (aOr (aB (aOp fLt (aVar 6) (aVar 4))) (aB (aOp fGt (aVar 7) (aVar 5)))) law_lays_2_0 aNext)
def law_lays_1_1 : AS' := aSeq (aAsg (aFn S_law_bounds (aConsD (aVar 1) (aConsD (aOp fIx (aVar 2) (aVar 3)) aNil))) (agTup 2 (agCons (agName 6) (agCons (agName 7) agNil)))) law_lays_1_2
def law_lays_1_0 : AS' := aSeq (aAsg (aFn S_law_bounds (aConsD (aVar 0) (aConsD (aVar 3) aNil))) (agTup 2 (agCons (agName 4) (agCons (agName 5) agNil)))) law_lays_1_1
def law_lays_3_0 : AS' := (aRet B_law_lays (aC (.bl false)))
def law_lays_0_2 : AS' := (aRet B_law_lays (aRd fAll (aLc (aiSeq (aOp fIx (aVar 0) (aC (.int 0)))) (agName 8) atYes (aOp (fIn false) (aTup (aConsD (aOp fIx (aVar 8) (aC (.int 0))) (aConsD (aFn S_law_laid (aConsD (aOp fIx (aVar 8) (aC (.int 1))) (aConsD (aVar 2) aNil))) aNil))) (aOp fIx (aVar 1) (aC (.int 0)))) [8])))
def law_lays_0_1 : AS' := aSeq (aIfS (aB (aOp fNe (aFn S_law_laid (aConsD (aOp fIx (aVar 0) (aC (.int 3))) (aConsD (aVar 2) aNil))) (aOp fIx (aVar 1) (aC (.int 3))))) law_lays_3_0 aNext) law_lays_0_2
def law_lays_0_0 : AS' := aSeq (aFor (aiSeq (aVar 2)) (agName 3) law_lays_1_0) law_lays_0_1
def a_law_lays : AS' := law_lays_0_0
/-- _law_variables(rows): 0=rows 1=told 2=row 3=term -/
def B_law_variables : Nat → Bool := fun i => false
def law_variables_3_0 : AS' := (aDrop (aMut 1 (aConsD (aVar 3) aNil) fAppend))
def law_variables_2_0 : AS' := (aIfS (aAnd (aB (aOp fLt (aVar 3) (aC (.int 0)))) (aB (aOp (fIn true) (aVar 3) (aVar 1)))) law_variables_3_0 aNext)
def law_variables_1_0 : AS' := (aFor (aiSeq (aOp fIx (aVar 2) (aC (.int 1)))) (agName 3) law_variables_2_0)
def law_variables_0_2 : AS' := (aRet B_law_variables (aVar 1))
def law_variables_0_1 : AS' := aSeq (aFor (aiSeq (aVar 0)) (agName 2) law_variables_1_0) law_variables_0_2
def law_variables_0_0 : AS' := aSeq (aSet 1 (aLst aNil)) law_variables_0_1
def a_law_variables : AS' := law_variables_0_0
/-- _law_names_of(btree, images): 0=btree 1=images 2=variables 3=names 4=place -/
def B_law_names_of : Nat → Bool := fun i => false
def law_names_of_1_0 : AS' := (aAsg (aOp fIx (aVar 1) (aVar 4)) (agSub (aVar 3) (aOp fIx (aVar 2) (aVar 4))))
def law_names_of_0_3 : AS' := (aRet B_law_names_of (aVar 3))
def law_names_of_0_2 : AS' := aSeq (aFor (aiRange1 (aConsD (aRd fLen (aVar 2)) aNil)) (agName 4) law_names_of_1_0) law_names_of_0_3
def law_names_of_0_1 : AS' := aSeq (aSet 3 aNewK) law_names_of_0_2
def law_names_of_0_0 : AS' := aSeq (aSet 2 (aFn S_law_variables (aConsD (aOp fIx (aVar 0) (aC (.int 0))) aNil))) law_names_of_0_1
def a_law_names_of : AS' := law_names_of_0_0
/-- Body.tree(self): 0=self 1=spans 2=term -/
def B_Body_tree : Nat → Bool := fun i => false
def Body_tree_0_1 (C : Addr) : AS' := (aRet B_Body_tree (aTup (aConsD (aFld C "rows" (aVar 0)) (aConsD (aFld C "nots" (aVar 0)) (aConsD (aVar 1) (aConsD (aFld C "wide" (aVar 0)) aNil))))))
def Body_tree_0_0 (C : Addr) : AS' := aSeq (aSet 1 (aRd fTuple (aLc (aiSeq (aSortedDR (aFld C "spans" (aVar 0)))) (agName 2) atYes (aTup (aConsD (aVar 2) (aConsD (aOp fIx (aOp fIx (aFld C "spans" (aVar 0)) (aVar 2)) (aC (.int 0))) (aConsD (aOp fIx (aOp fIx (aFld C "spans" (aVar 0)) (aVar 2)) (aC (.int 1))) aNil)))) [2]))) (Body_tree_0_1 C)
def a_Body_tree (C : Addr) : AS' := Body_tree_0_0 C
/-- Body.__init__(self, rows, nots, spans, wide): 0=self 1=rows 2=nots 3=spans 4=wide -/
def B_Body_init : Nat → Bool := fun i => i == 0
def Body_init_0_3 (C : Addr) : AS' := (aFldSet 0 C "wide" (aVar 4))
def Body_init_0_2 (C : Addr) : AS' := aSeq (aFldSet 0 C "spans" (aVar 3)) (Body_init_0_3 C)
def Body_init_0_1 (C : Addr) : AS' := aSeq (aFldSet 0 C "nots" (aVar 2)) (Body_init_0_2 C)
def Body_init_0_0 (C : Addr) : AS' := aSeq (aFldSet 0 C "rows" (aVar 1)) (Body_init_0_1 C)
def a_Body_init (C : Addr) : AS' := Body_init_0_0 C
/-- _law_object(btree): 0=btree 1=spans 2=span -/
def B_law_object : Nat → Bool := fun i => false
def law_object_1_0 (C : Addr) : AS' := (aAsg (aTup (aConsD (aOp fIx (aVar 2) (aC (.int 1))) (aConsD (aOp fIx (aVar 2) (aC (.int 2))) aNil))) (agSub (aVar 1) (aOp fIx (aVar 2) (aC (.int 0)))))
def law_object_0_2 (C : Addr) : AS' := (aRet B_law_object (aMake C (S_Body_init C) (aConsD (aOp fIx (aVar 0) (aC (.int 0))) (aConsD (aOp fIx (aVar 0) (aC (.int 1))) (aConsD (aVar 1) (aConsD (aOp fIx (aVar 0) (aC (.int 3))) aNil))))))
def law_object_0_1 (C : Addr) : AS' := aSeq (aFor (aiSeq (aOp fIx (aVar 0) (aC (.int 2)))) (agName 2) (law_object_1_0 C)) (law_object_0_2 C)
def law_object_0_0 (C : Addr) : AS' := aSeq (aSet 1 aNewK) (law_object_0_1 C)
def a_law_object (C : Addr) : AS' := law_object_0_0 C
/-- Body.span(self, term): 0=self 1=term -/
def B_Body_span : Nat → Bool := fun i => false
def Body_span_1_0 (C : Addr) : AS' := (aRet B_Body_span (aTup (aConsD (aVar 1) (aConsD (aOp fAdd (aVar 1) (aC (.int 1))) aNil))))
def Body_span_0_1 (C : Addr) : AS' := (aRet B_Body_span (aGet (aFld C "spans" (aVar 0)) (aVar 1) (aTup (aConsD (aC (.int 0)) (aConsD (aC (.int 1000)) aNil)))))
def Body_span_0_0 (C : Addr) : AS' := aSeq (aIfS (aB (aOp fGe (aVar 1) (aC (.int 0)))) (Body_span_1_0 C) aNext) (Body_span_0_1 C)
def a_Body_span (C : Addr) : AS' := Body_span_0_0 C
/-- is_within(body, term, target, image): 0=body 1=term 2=target 3=image 4=low 5=high 6=first 7=last -/
def B_is_within : Nat → Bool := fun i => false
def is_within_0_2 (C : Addr) : AS' := (aRet B_is_within (aAndV (aB (aOp fLe (aVar 4) (aVar 6))) (aOp fLe (aVar 7) (aVar 5))))
def is_within_0_1 (C : Addr) : AS' := aSeq (aAsg (aMeth C "span" (S_Body_span C) (aFrz (aVar 2)) (aConsD (aVar 3) aNil)) (agTup 2 (agCons (agName 6) (agCons (agName 7) agNil)))) (is_within_0_2 C)
def is_within_0_0 (C : Addr) : AS' := aSeq (aAsg (aMeth C "span" (S_Body_span C) (aFrz (aVar 0)) (aConsD (aVar 1) aNil)) (agTup 2 (agCons (agName 4) (agCons (agName 5) agNil)))) (is_within_0_1 C)
def a_is_within (C : Addr) : AS' := is_within_0_0 C
/-- laid(terms, names): 0=terms 1=names 2=term -/
def B_laid : Nat → Bool := fun i => false
def laid_0_0 : AS' := (aRet B_laid (aRd fTuple (aLc (aiSeq (aVar 0)) (agName 2) atYes (aIf (aB (aOp fGe (aVar 2) (aC (.int 0)))) (aVar 2) (aOp fIx (aVar 1) (aVar 2))) [2])))
def a_laid : AS' := laid_0_0
/-- Body.variables(self): 0=self 1=told 2=row 3=term -/
def B_Body_variables : Nat → Bool := fun i => false
def Body_variables_3_0 (C : Addr) : AS' := (aDrop (aMut 1 (aConsD (aVar 3) aNil) fAppend))
def Body_variables_2_0 (C : Addr) : AS' := (aIfS (aAnd (aB (aOp fLt (aVar 3) (aC (.int 0)))) (aB (aOp (fIn true) (aVar 3) (aVar 1)))) (Body_variables_3_0 C) aNext)
def Body_variables_1_0 (C : Addr) : AS' := (aFor (aiSeq (aOp fIx (aVar 2) (aC (.int 1)))) (agName 3) (Body_variables_2_0 C))
def Body_variables_0_2 (C : Addr) : AS' := (aRet B_Body_variables (aVar 1))
def Body_variables_0_1 (C : Addr) : AS' := aSeq (aFor (aiSeq (aFld C "rows" (aVar 0))) (agName 2) (Body_variables_1_0 C)) (Body_variables_0_2 C)
def Body_variables_0_0 (C : Addr) : AS' := aSeq (aSet 1 (aLst aNil)) (Body_variables_0_1 C)
def a_Body_variables (C : Addr) : AS' := Body_variables_0_0 C
/-- is_whole(value): 0=value -/
def B_is_whole : Nat → Bool := fun i => false
def is_whole_0_0 : AS' := (aRet B_is_whole (aAndV (aB (aIsi "int" (aVar 0))) (aNotV (aB (aIsi "bool" (aVar 0))))))
def a_is_whole : AS' := is_whole_0_0
/-- names_from(body, images): 0=body 1=images 2=variables 3=names 4=term 5=image -/
def B_names_from : Nat → Bool := fun i => false
def names_from_1_0 (C : Addr) : AS' := (aRet B_names_from (aC .non))
def names_from_3_0 (C : Addr) : AS' := (aRet B_names_from (aC .non))
def names_from_2_1 (C : Addr) : AS' := (aAsg (aVar 5) (agSub (aVar 3) (aVar 4)))
def names_from_2_0 (C : Addr) : AS' := aSeq (aIfS (aNot (aTru (aFn S_is_whole (aConsD (aVar 5) aNil)))) (names_from_3_0 C) aNext) (names_from_2_1 C)
def names_from_0_4 (C : Addr) : AS' := (aRet B_names_from (aVar 3))
def names_from_0_3 (C : Addr) : AS' := aSeq (aFor (aiZip (aConsD (aVar 2) (aConsD (aVar 1) aNil))) (agTup 2 (agCons (agName 4) (agCons (agName 5) agNil))) (names_from_2_0 C)) (names_from_0_4 C)
def names_from_0_2 (C : Addr) : AS' := aSeq (aSet 3 aNewK) (names_from_0_3 C)
def names_from_0_1 (C : Addr) : AS' := aSeq (aIfS (aOr (aNot (aTru (aIsi "tuple" (aVar 1)))) (aB (aOp fNe (aRd fLen (aVar 1)) (aRd fLen (aVar 2))))) (names_from_1_0 C) aNext) (names_from_0_2 C)
def names_from_0_0 (C : Addr) : AS' := aSeq (aSet 2 (aMeth C "variables" (S_Body_variables C) (aFrz (aVar 0)) aNil)) (names_from_0_1 C)
def a_names_from (C : Addr) : AS' := names_from_0_0 C
/-- is_fold(body, target, images): 0=body 1=target 2=images 3=names 4=term 5=table 6=terms -/
def B_is_fold : Nat → Bool := fun i => false
def is_fold_1_0 (C : Addr) : AS' := (aRet B_is_fold (aC (.bl false)))
def is_fold_2_0 (C : Addr) : AS' := (aRet B_is_fold (aC (.bl false)))
def is_fold_3_0 (C : Addr) : AS' := (aRet B_is_fold (aC (.bl false)))
def is_fold_0_4 (C : Addr) : AS' := (aRet B_is_fold (aRd fAll (aLc (aiSeq (aFld C "rows" (aVar 0))) (agTup 2 (agCons (agName 5) (agCons (agName 6) agNil))) atYes (aOp (fIn false) (aTup (aConsD (aVar 5) (aConsD (aFn S_laid (aConsD (aVar 6) (aConsD (aVar 3) aNil))) aNil))) (aFld C "rows" (aVar 1))) [5, 6])))
def is_fold_0_3 (C : Addr) : AS' := aSeq (aIfS (aB (aOp fNe (aFn S_laid (aConsD (aFld C "wide" (aVar 0)) (aConsD (aVar 3) aNil))) (aFld C "wide" (aVar 1)))) (is_fold_3_0 C) aNext) (is_fold_0_4 C)
def is_fold_0_2 (C : Addr) : AS' := aSeq (aIfS (aNot (aTru (aRd fAll (aLc (aiSeq (aVar 3)) (agName 4) atYes (aFn (S_is_within C) (aConsD (aVar 0) (aConsD (aVar 4) (aConsD (aVar 1) (aConsD (aOp fIx (aVar 3) (aVar 4)) aNil))))) [4])))) (is_fold_2_0 C) aNext) (is_fold_0_3 C)
def is_fold_0_1 (C : Addr) : AS' := aSeq (aIfS (aOr (aB (aOp fIsN (aVar 3) (aC .non))) (aB (aOp fNe (aRd fLen (aFld C "wide" (aVar 0))) (aRd fLen (aFld C "wide" (aVar 1)))))) (is_fold_1_0 C) aNext) (is_fold_0_2 C)
def is_fold_0_0 (C : Addr) : AS' := aSeq (aSet 3 (aFn (S_names_from C) (aConsD (aVar 0) (aConsD (aVar 2) aNil)))) (is_fold_0_1 C)
def a_is_fold (C : Addr) : AS' := is_fold_0_0 C
/-- _law_told(btree, ttree, images, due): 0=btree 1=ttree 2=images 3=due 4=told 5=body 6=target -/
def B_law_told : Nat → Bool := fun i => false
def law_told_1_0 (C : Addr) : AS' := (aRet B_law_told (aC (.bl false)))
def law_told_0_3 (C : Addr) : AS' := (aRet B_law_told (aAndV (aB (aOp fEq (aMeth C "tree" (S_Body_tree C) (aFrz (aVar 5)) aNil) (aVar 0))) (aOp fEq (aMeth C "tree" (S_Body_tree C) (aFrz (aVar 6)) aNil) (aVar 1))))
def law_told_0_2 (C : Addr) : AS' := aSeq (aIfS (aOr (aNot (aTru (aIsi "bool" (aVar 4)))) (aB (aOp fNe (aVar 4) (aVar 3)))) (law_told_1_0 C) aNext) (law_told_0_3 C)
def law_told_0_1 (C : Addr) : AS' := aSeq (aSet 4 (aFn (S_is_fold C) (aConsD (aVar 5) (aConsD (aVar 6) (aConsD (aVar 2) aNil))))) (law_told_0_2 C)
def law_told_0_0 (C : Addr) : AS' := aSeq (aPar [5, 6] (anCons (aFn (S_law_object C) (aConsD (aVar 0) aNil)) (anCons (aFn (S_law_object C) (aConsD (aVar 1) aNil)) aNil))) (law_told_0_1 C)
def a_law_told (C : Addr) : AS' := law_told_0_0 C
/-- _law_asks(btree, ttree, images): 0=btree 1=ttree 2=images -/
def B_law_asks : Nat → Bool := fun i => false
def law_asks_0_0 : AS' := (aRet B_law_asks (aFn S_law_told (aConsD (aVar 0) (aConsD (aVar 1) (aConsD (aVar 2) (aConsD (aFn S_law_lays (aConsD (aVar 0) (aConsD (aVar 1) (aConsD (aFn S_law_names_of (aConsD (aVar 0) (aConsD (aVar 2) aNil))) aNil)))) aNil))))))
def a_law_asks : AS' := law_asks_0_0
/-- _law_other(d, images, standing): 0=d 1=images 2=standing 3=at 4=other 5=told -/
def B_law_other : Nat → Bool := fun i => i == 0
def law_other_1_3 : AS' := (aRet B_law_other (aRd fTuple (aVar 5)))
def law_other_1_2 : AS' := aSeq (aAsg (aTup (aConsD (aOp fIx (aVar 1) (aVar 4)) (aConsD (aOp fIx (aVar 1) (aVar 3)) aNil))) (agTup 2 (agCons (agSub (aVar 5) (aVar 3)) (agCons (agSub (aVar 5) (aVar 4)) agNil)))) law_other_1_3
def law_other_1_1 : AS' := aSeq (aSet 5 (aRd fList (aVar 1))) law_other_1_2
def law_other_1_0 : AS' := aSeq (aSet 4 (aFn S_law_draw (aCons (aVar 0) (aConsD (aRd fLen (aVar 1)) aNil)))) law_other_1_1
def law_other_0_2 : AS' := (aRet B_law_other (aOp fAdd (aOp fAdd (aSl (aVar 1) aoNone (aoSome (aVar 3))) (aTup (aConsD (aFn S_law_pick (aCons (aVar 0) (aConsD (aVar 2) aNil))) aNil))) (aSl (aVar 1) (aoSome (aOp fAdd (aVar 3) (aC (.int 1)))) aoNone)))
def law_other_0_1 : AS' := aSeq (aIfS (aB (aOp fEq (aFn S_law_draw (aCons (aVar 0) (aConsD (aC (.int 4)) aNil))) (aC (.int 0)))) law_other_1_0 aNext) law_other_0_2
def law_other_0_0 : AS' := aSeq (aSet 3 (aFn S_law_draw (aCons (aVar 0) (aConsD (aRd fLen (aVar 1)) aNil)))) law_other_0_1
def a_law_other : AS' := law_other_0_0
/-- _law_images(d, btree, ttree, images): 0=d 1=btree 2=ttree 3=images 4=standing 5=turn 6=at -/
def B_law_images : Nat → Bool := fun i => i == 0
def law_images_1_0 : AS' := (aRet B_law_images (aC (.bl false)))
def law_images_2_0 : AS' := (aRet B_law_images (aC (.bl true)))
def law_images_3_0 : AS' := (aRet B_law_images (aC (.bl false)))
def law_images_5_0 : AS' := (aRet B_law_images (aC (.bl false)))
def law_images_4_0 : AS' := (aIfS (aNot (aTru (aFn S_law_asks (aConsD (aVar 1) (aConsD (aVar 2) (aConsD (aFn S_law_other (aCons (aVar 0) (aConsD (aVar 3) (aConsD (aVar 4) aNil)))) aNil)))))) law_images_5_0 aNext)
def law_images_0_6 : AS' := (aRet B_law_images (aFn S_law_told (aConsD (aVar 1) (aConsD (aVar 2) (aConsD (aOp fAdd (aOp fAdd (aSl (aVar 3) aoNone (aoSome (aVar 6))) (aTup (aConsD (aNeg (aC (.int 1000000007))) aNil))) (aSl (aVar 3) (aoSome (aOp fAdd (aVar 6) (aC (.int 1)))) aoNone)) (aConsD (aC (.bl false)) aNil))))))
def law_images_0_5 : AS' := aSeq (aSet 6 (aFn S_law_draw (aCons (aVar 0) (aConsD (aRd fLen (aVar 3)) aNil)))) law_images_0_6
def law_images_0_4 : AS' := aSeq (aFor (aiRange1 (aConsD (aC (.int 4)) aNil)) (agName 5) law_images_4_0) law_images_0_5
def law_images_0_3 : AS' := aSeq (aIfS (aNot (aTru (aFn S_law_told (aConsD (aVar 1) (aConsD (aVar 2) (aConsD (aSl (aVar 3) aoNone (aoSome (aNeg (aC (.int 1))))) (aConsD (aC (.bl false)) aNil))))))) law_images_3_0 aNext) law_images_0_4
def law_images_0_2 : AS' := aSeq (aIfS (aB (aOp fEq (aRd fLen (aVar 3)) (aC (.int 0)))) law_images_2_0 aNext) law_images_0_3
def law_images_0_1 : AS' := aSeq (aIfS (aOr (aNot (aTru (aFn S_law_asks (aConsD (aVar 1) (aConsD (aVar 2) (aConsD (aVar 3) aNil)))))) (aNot (aTru (aFn S_law_told (aConsD (aVar 1) (aConsD (aVar 2) (aConsD (aOp fAdd (aVar 3) (aTup (aConsD (aC (.int 50)) aNil))) (aConsD (aC (.bl false)) aNil)))))))) law_images_1_0 aNext) law_images_0_2
def law_images_0_0 : AS' := aSeq (aSet 4 (aOp fAdd (aFn S_law_variables (aConsD (aOp fIx (aVar 2) (aC (.int 0))) aNil)) (aLst (aConsD (aC (.int 50)) (aConsD (aC (.int 150)) aNil))))) law_images_0_1
def a_law_images : AS' := law_images_0_0
/-- _law_trees(d, btree, ttree, images): 0=d 1=btree 2=ttree 3=images 4=at 5=less 6=menu 7=term 8=spans 9=inner 10=outer 11=other 12=wide 13=span -/
def B_law_trees : Nat → Bool := fun i => i == 0
def law_trees_1_0 : AS' := (aRet B_law_trees (aC (.bl false)))
def law_trees_3_0 : AS' := (aRet B_law_trees (aC (.bl false)))
def law_trees_2_4 : AS' := (aIfS (aNot (aTru (aFn S_law_asks (aConsD (aTup (aConsD (aOp fIx (aVar 1) (aC (.int 0))) (aConsD (aOp fIx (aVar 1) (aC (.int 1))) (aConsD (aVar 8) (aConsD (aOp fIx (aVar 1) (aC (.int 3))) aNil))))) (aConsD (aVar 2) (aConsD (aVar 3) aNil)))))) law_trees_3_0 aNext)
def law_trees_2_3 : AS' := aSeq (aSet 8 (aRd fTuple (aOp fAdd (aOp fAdd (aVar 9) (aLc (aiSeq (aVar 8)) (agName 13) (aB (aOp fEq (aOp fIx (aVar 13) (aC (.int 0))) (aVar 7))) (aVar 13) [13])) (aVar 10)))) law_trees_2_4
def law_trees_2_2 : AS' := aSeq (aSet 10 (aLc (aiSeq (aVar 8)) (agName 13) (aB (aOp fLt (aOp fIx (aVar 13) (aC (.int 0))) (aVar 7))) (aVar 13) [13])) law_trees_2_3
def law_trees_2_1 : AS' := aSeq (aSet 9 (aLc (aiSeq (aVar 8)) (agName 13) (aB (aOp fGt (aOp fIx (aVar 13) (aC (.int 0))) (aVar 7))) (aVar 13) [13])) law_trees_2_2
def law_trees_2_0 : AS' := aSeq (aSet 8 (aOp fAdd (aRd fTuple (aLc (aiSeq (aOp fIx (aVar 1) (aC (.int 2)))) (agName 13) (aB (aOp fNe (aOp fIx (aVar 13) (aC (.int 0))) (aVar 7))) (aVar 13) [13])) (aTup (aConsD (aOp fAdd (aTup (aConsD (aVar 7) aNil)) (aFn S_law_pick (aCons (aVar 0) (aConsD (aVar 6) aNil)))) aNil)))) law_trees_2_1
def law_trees_5_0 : AS' := (aRet B_law_trees (aC (.bl false)))
def law_trees_4_3 : AS' := (aIfS (aNot (aTru (aFn S_law_asks (aConsD (aVar 1) (aConsD (aOp fAdd (aSl (aVar 2) aoNone (aoSome (aC (.int 3)))) (aTup (aConsD (aVar 12) aNil))) (aConsD (aVar 3) aNil)))))) law_trees_5_0 aNext)
def law_trees_4_2 : AS' := aSeq (aSet 12 (aOp fAdd (aOp fAdd (aSl (aOp fIx (aVar 2) (aC (.int 3))) aoNone (aoSome (aVar 4))) (aTup (aConsD (aVar 11) aNil))) (aSl (aOp fIx (aVar 2) (aC (.int 3))) (aoSome (aOp fAdd (aVar 4) (aC (.int 1)))) aoNone))) law_trees_4_3
def law_trees_4_1 : AS' := aSeq (aSet 11 (aFn S_law_pick (aCons (aVar 0) (aConsD (aOp fAdd (aFn S_law_variables (aConsD (aOp fIx (aVar 2) (aC (.int 0))) aNil)) (aLst (aConsD (aC (.int 50)) (aConsD (aC (.int 150)) aNil)))) aNil)))) law_trees_4_2
def law_trees_4_0 : AS' := aSeq (aSet 4 (aFn S_law_draw (aCons (aVar 0) (aConsD (aRd fLen (aOp fIx (aVar 2) (aC (.int 3)))) aNil)))) law_trees_4_1
def law_trees_0_6 : AS' := (aRet B_law_trees (aFn S_law_asks (aConsD (aVar 1) (aConsD (aOp fAdd (aSl (aVar 2) aoNone (aoSome (aC (.int 3)))) (aTup (aConsD (aOp fAdd (aOp fIx (aVar 2) (aC (.int 3))) (aTup (aConsD (aC (.int 50)) aNil))) aNil))) (aConsD (aVar 3) aNil)))))
def law_trees_0_5 : AS' := aSeq (aIfS (aB (aOp fGt (aRd fLen (aOp fIx (aVar 2) (aC (.int 3)))) (aC (.int 0)))) law_trees_4_0 aNext) law_trees_0_6
def law_trees_0_4 : AS' := aSeq (aFor (aiSeq (aSl (aFn S_law_variables (aConsD (aOp fIx (aVar 1) (aC (.int 0))) aNil)) aoNone (aoSome (aC (.int 2))))) (agName 7) law_trees_2_0) law_trees_0_5
def law_trees_0_3 : AS' := aSeq (aSet 6 (aLst (aConsD (aTup (aConsD (aC (.int 0)) (aConsD (aC (.int 100)) aNil))) (aConsD (aTup (aConsD (aC (.int 100)) (aConsD (aC (.int 200)) aNil))) (aConsD (aTup (aConsD (aC (.int 0)) (aConsD (aC (.int 400)) aNil))) (aConsD (aTup (aConsD (aC (.int 200)) (aConsD (aC (.int 1000)) aNil))) (aConsD (aTup (aConsD (aC (.int 0)) (aConsD (aC (.int 1000)) aNil))) aNil))))))) law_trees_0_4
def law_trees_0_2 : AS' := aSeq (aIfS (aNot (aTru (aFn S_law_asks (aConsD (aVar 1) (aConsD (aVar 5) (aConsD (aVar 3) aNil)))))) law_trees_1_0 aNext) law_trees_0_3
def law_trees_0_1 : AS' := aSeq (aSet 5 (aOp fAdd (aTup (aConsD (aOp fAdd (aSl (aOp fIx (aVar 2) (aC (.int 0))) aoNone (aoSome (aVar 4))) (aSl (aOp fIx (aVar 2) (aC (.int 0))) (aoSome (aOp fAdd (aVar 4) (aC (.int 1)))) aoNone)) aNil)) (aSl (aVar 2) (aoSome (aC (.int 1))) aoNone))) law_trees_0_2
def law_trees_0_0 : AS' := aSeq (aSet 4 (aFn S_law_draw (aCons (aVar 0) (aConsD (aRd fLen (aOp fIx (aVar 2) (aC (.int 0)))) aNil)))) law_trees_0_1
def a_law_trees : AS' := law_trees_0_0
/-- _law_far(d): 0=d 1=turn 2=plain 3=images 4=btree 5=ttree 6=line 7=paths -/
def B_law_far : Nat → Bool := fun i => i == 0
def law_far_2_0 : AS' := (aRet B_law_far (aC (.bl false)))
def law_far_1_0 : AS' := (aIfS (aNot (aTru (aFn S_law_images (aCons (aVar 0) (aConsD (aVar 4) (aConsD (aVar 5) (aConsD (aRd fTuple (aFn S_law_pick (aCons (aVar 0) (aConsD (aVar 7) aNil)))) aNil))))))) law_far_2_0 aNext)
def law_far_0_4 : AS' := (aRet B_law_far (aAndV (aB (aFn S_law_told (aConsD (aVar 2) (aConsD (aOp fAdd (aSl (aVar 5) aoNone (aoSome (aC (.int 3)))) (aTup (aConsD (aTup aNil) aNil))) (aConsD (aVar 3) (aConsD (aC (.bl true)) aNil)))))) (aFn S_law_trees (aCons (aVar 0) (aConsD (aVar 4) (aConsD (aVar 5) (aConsD (aVar 3) aNil)))))))
def law_far_0_3 : AS' := aSeq (aSet 3 (aRd fTuple (aFn S_law_pick (aCons (aVar 0) (aConsD (aVar 7) aNil))))) law_far_0_4
def law_far_0_2 : AS' := aSeq (aSet 2 (aTup (aConsD (aOp fIx (aVar 4) (aC (.int 0))) (aConsD (aOp fIx (aVar 4) (aC (.int 1))) (aConsD (aTup aNil) (aConsD (aTup aNil) aNil)))))) law_far_0_3
def law_far_0_1 : AS' := aSeq (aFor (aiRange1 (aConsD (aC (.int 3)) aNil)) (agName 1) law_far_1_0) law_far_0_2
def law_far_0_0 : AS' := aSeq (aAsg (aFn S_law_chain (aCons (aVar 0) aNil)) (agTup 4 (agCons (agName 4) (agCons (agName 5) (agCons (agName 6) (agCons (agName 7) agNil)))))) law_far_0_1
def a_law_far : AS' := law_far_0_0
/-- _law_unlike(row): 0=row 1=told 2=thing -/
def B_law_unlike : Nat → Bool := fun i => false
def law_unlike_2_0 : AS' := (aDrop (aMut 1 (aConsD (aVar 2) aNil) fAppend))
def law_unlike_1_0 : AS' := (aIfS (aB (aOp (fIn true) (aVar 2) (aVar 1))) law_unlike_2_0 aNext)
def law_unlike_0_2 : AS' := (aRet B_law_unlike (aVar 1))
def law_unlike_0_1 : AS' := aSeq (aFor (aiSeq (aVar 0)) (agName 2) law_unlike_1_0) law_unlike_0_2
def law_unlike_0_0 : AS' := aSeq (aSet 1 (aLst aNil)) law_unlike_0_1
def a_law_unlike : AS' := law_unlike_0_0
/-- _law_asked(d, tables, many, terms): 0=d 1=tables 2=many 3=terms 4=told 5=turn 6=name 7=width 8=place -/
def B_law_asked : Nat → Bool := fun i => i == 0
def law_asked_1_1 : AS' := (aDrop (aMut 4 (aConsD (aTup (aConsD (aVar 6) (aConsD (aRd fTuple (aLc (aiRange1 (aConsD (aVar 7) aNil)) (agName 8) atYes (aFn S_law_pick (aCons (aVar 0) (aConsD (aVar 3) aNil))) [8])) aNil))) aNil) fAppend))
def law_asked_1_0 : AS' := aSeq (aAsg (aFn S_law_pick (aCons (aVar 0) (aConsD (aVar 1) aNil))) (agTup 2 (agCons (agName 6) (agCons (agName 7) agNil)))) law_asked_1_1
def law_asked_0_2 : AS' := (aRet B_law_asked (aFn S_law_unlike (aConsD (aVar 4) aNil)))
def law_asked_0_1 : AS' := aSeq (aFor (aiRange1 (aConsD (aVar 2) aNil)) (agName 5) law_asked_1_0) law_asked_0_2
def law_asked_0_0 : AS' := aSeq (aSet 4 (aLst aNil)) law_asked_0_1
def a_law_asked : AS' := law_asked_0_0
/-- _law_bent(d, trows, twide, marks): 0=d 1=trows 2=twide 3=marks 4=way 5=standing 6=less 7=left 8=at 9=term -/
def B_law_bent : Nat → Bool := fun i => i == 0
def law_bent_2_0 : AS' := (aRet B_law_bent (aTup (aConsD (aVar 6) (aConsD (aVar 2) aNil))))
def law_bent_1_2 : AS' := (aIfS (aTru (aRd fAll (aLc (aiSeq (aVar 2)) (agName 9) (aB (aOp fLt (aVar 9) (aC (.int 0)))) (aOp (fIn false) (aVar 9) (aVar 7)) [9]))) law_bent_2_0 aNext)
def law_bent_1_1 : AS' := aSeq (aSet 7 (aFn S_law_variables (aConsD (aVar 6) aNil))) law_bent_1_2
def law_bent_1_0 : AS' := aSeq (aSet 6 (aSl (aFn S_law_mixed (aCons (aVar 0) (aConsD (aVar 1) aNil))) (aoSome (aC (.int 1))) aoNone)) law_bent_1_1
def law_bent_3_1 : AS' := (aRet B_law_bent (aTup (aConsD (aVar 1) (aConsD (aOp fAdd (aOp fAdd (aSl (aVar 2) aoNone (aoSome (aVar 8))) (aTup (aConsD (aFn S_law_pick (aCons (aVar 0) (aConsD (aVar 5) aNil))) aNil))) (aSl (aVar 2) (aoSome (aOp fAdd (aVar 8) (aC (.int 1)))) aoNone)) aNil))))
def law_bent_3_0 : AS' := aSeq (aSet 8 (aFn S_law_draw (aCons (aVar 0) (aConsD (aRd fLen (aVar 2)) aNil)))) law_bent_3_1
def law_bent_4_0 : AS' := (aRet B_law_bent (aTup (aConsD (aVar 1) (aConsD (aOp fAdd (aVar 2) (aTup (aConsD (aFn S_law_pick (aCons (aVar 0) (aConsD (aVar 5) aNil))) aNil))) aNil))))
def law_bent_0_5 : AS' := (aRet B_law_bent (aIf (aB (aOp fEq (aVar 4) (aC (.int 3)))) (aTup (aConsD (aVar 1) (aConsD (aSl (aVar 2) aoNone (aoSome (aNeg (aC (.int 1))))) aNil))) (aTup (aConsD (aVar 1) (aConsD (aVar 2) aNil)))))
def law_bent_0_4 : AS' := aSeq (aIfS (aB (aOp fEq (aVar 4) (aC (.int 2)))) law_bent_4_0 aNext) law_bent_0_5
def law_bent_0_3 : AS' := aSeq (aIfS (aAnd (aB (aOp fEq (aVar 4) (aC (.int 1)))) (aB (aOp fGt (aRd fLen (aVar 2)) (aC (.int 0))))) law_bent_3_0 aNext) law_bent_0_4
def law_bent_0_2 : AS' := aSeq (aIfS (aAnd (aB (aOp fEq (aVar 4) (aC (.int 0)))) (aB (aOp fGt (aRd fLen (aVar 1)) (aC (.int 1))))) law_bent_1_0 aNext) law_bent_0_3
def law_bent_0_1 : AS' := aSeq (aSet 5 (aOp fAdd (aFn S_law_variables (aConsD (aVar 1) aNil)) (aVar 3))) law_bent_0_2
def law_bent_0_0 : AS' := aSeq (aSet 4 (aFn S_law_draw (aCons (aVar 0) (aConsD (aC (.int 12)) aNil)))) law_bent_0_1
def a_law_bent : AS' := law_bent_0_0
/-- _law_scene(d): 0=d 1=tables 2=low 3=high 4=marks 5=cells 6=pool 7=rows 8=met 9=images 10=names 11=term 12=trows 13=wide 14=tspans 15=standing 16=tnots 17=ttree 18=spans 19=nots 20=twide 21=way 22=menu 23=name 24=row 25=first 26=last 27=place 28=span -/
def B_law_scene : Nat → Bool := fun i => i == 0
def law_scene_1_0 : AS' := (aAsg (aFn S_law_pick (aCons (aVar 0) (aConsD (aVar 9) aNil))) (agSub (aVar 10) (aVar 11)))
def law_scene_3_0 : AS' := (aDrop (aMut 14 (aConsD (aOp fAdd (aTup (aConsD (aVar 11) aNil)) (aOp fIx (aVar 5) (aVar 21))) aNil) fAppend))
def law_scene_2_1 : AS' := (aIfS (aB (aOp fLt (aVar 21) (aC (.int 3)))) law_scene_3_0 aNext)
def law_scene_2_0 : AS' := aSeq (aSet 21 (aFn S_law_draw (aCons (aVar 0) (aConsD (aC (.int 4)) aNil)))) law_scene_2_1
def law_scene_5_0 : AS' := (aSet 22 (aLc (aiSeq (aVar 22)) (agName 28) (aAnd (aB (aOp fLe (aOp fIx (aVar 28) (aC (.int 0))) (aVar 25))) (aB (aOp fLe (aVar 26) (aOp fIx (aVar 28) (aC (.int 1)))))) (aVar 28) [28]))
def law_scene_6_0 : AS' := (aDrop (aMut 18 (aConsD (aOp fAdd (aTup (aConsD (aVar 11) aNil)) (aFn S_law_pick (aCons (aVar 0) (aConsD (aVar 22) aNil)))) aNil) fAppend))
def law_scene_4_4 : AS' := (aIfS (aB (aOp fGt (aVar 21) (aC (.int 1)))) law_scene_6_0 aNext)
def law_scene_4_3 : AS' := aSeq (aIfS (aB (aOp fLt (aVar 21) (aC (.int 4)))) law_scene_5_0 aNext) law_scene_4_4
def law_scene_4_2 : AS' := aSeq (aSet 22 (aOp fAdd (aVar 5) (aLst (aConsD (aTup (aConsD (aC (.int 0)) (aConsD (aVar 3) aNil))) (aConsD (aTup (aConsD (aVar 2) (aConsD (aC (.int 1000)) aNil))) (aConsD (aTup (aConsD (aC (.int 0)) (aConsD (aC (.int 1000)) aNil))) aNil)))))) law_scene_4_3
def law_scene_4_1 : AS' := aSeq (aAsg (aFn S_law_bounds (aConsD (aVar 17) (aConsD (aOp fIx (aVar 10) (aVar 11)) aNil))) (agTup 2 (agCons (agName 25) (agCons (agName 26) agNil)))) law_scene_4_2
def law_scene_4_0 : AS' := aSeq (aSet 21 (aFn S_law_draw (aCons (aVar 0) (aConsD (aC (.int 5)) aNil)))) law_scene_4_1
def law_scene_0_23 : AS' := (aRet B_law_scene (aTup (aConsD (aTup (aConsD (aRd fTuple (aVar 7)) (aConsD (aRd fTuple (aVar 19)) (aConsD (aRd fTuple (aVar 18)) (aConsD (aVar 13) aNil))))) (aConsD (aVar 17) (aConsD (aVar 10) aNil)))))
def law_scene_0_22 : AS' := aSeq (aSet 19 (aFn S_law_asked (aCons (aVar 0) (aConsD (aVar 1) (aConsD (aFn S_law_draw (aCons (aVar 0) (aConsD (aC (.int 3)) aNil))) (aConsD (aOp fAdd (aOp fAdd (aVar 8) (aVar 8)) (aVar 4)) aNil)))))) law_scene_0_23
def law_scene_0_21 : AS' := aSeq (aFor (aiSeq (aFn S_law_downward (aConsD (aVar 8) aNil))) (agName 11) law_scene_4_0) law_scene_0_22
def law_scene_0_20 : AS' := aSeq (aSet 18 (aLst aNil)) law_scene_0_21
def law_scene_0_19 : AS' := aSeq (aSet 17 (aTup (aConsD (aRd fTuple (aVar 12)) (aConsD (aRd fTuple (aVar 16)) (aConsD (aRd fTuple (aVar 14)) (aConsD (aVar 20) aNil)))))) law_scene_0_20
def law_scene_0_18 : AS' := aSeq (aSet 16 (aLc (aiSeq (aFn S_law_asked (aCons (aVar 0) (aConsD (aVar 1) (aConsD (aFn S_law_draw (aCons (aVar 0) (aConsD (aC (.int 2)) aNil))) (aConsD (aVar 15) aNil)))))) (agName 24) (aB (aOp (fIn true) (aVar 24) (aVar 12))) (aVar 24) [24])) law_scene_0_19
def law_scene_0_17 : AS' := aSeq (aSet 15 (aOp fAdd (aFn S_law_variables (aConsD (aVar 12) aNil)) (aVar 4))) law_scene_0_18
def law_scene_0_16 : AS' := aSeq (aFor (aiSeq (aFn S_law_downward (aConsD (aFn S_law_variables (aConsD (aVar 12) aNil)) aNil))) (agName 11) law_scene_2_0) law_scene_0_17
def law_scene_0_15 : AS' := aSeq (aSet 14 (aLst aNil)) law_scene_0_16
def law_scene_0_14 : AS' := aSeq (aAsg (aFn S_law_bent (aCons (aVar 0) (aConsD (aVar 12) (aConsD (aFn S_law_laid (aConsD (aVar 13) (aConsD (aVar 10) aNil))) (aConsD (aVar 4) aNil))))) (agTup 2 (agCons (agName 12) (agCons (agName 20) agNil)))) law_scene_0_15
def law_scene_0_13 : AS' := aSeq (aSet 13 (aRd fTuple (aLc (aiRange1 (aConsD (aFn S_law_draw (aCons (aVar 0) (aConsD (aC (.int 4)) aNil))) aNil)) (agName 27) atYes (aFn S_law_pick (aCons (aVar 0) (aConsD (aOp fAdd (aVar 8) (aVar 4)) aNil))) [27]))) law_scene_0_14
def law_scene_0_12 : AS' := aSeq (aSet 12 (aFn S_law_mixed (aCons (aVar 0) (aConsD (aFn S_law_unlike (aConsD (aOp fAdd (aVar 12) (aFn S_law_asked (aCons (aVar 0) (aConsD (aVar 1) (aConsD (aFn S_law_draw (aCons (aVar 0) (aConsD (aC (.int 5)) aNil))) (aConsD (aVar 9) aNil)))))) aNil)) aNil)))) law_scene_0_13
def law_scene_0_11 : AS' := aSeq (aSet 12 (aLc (aiSeq (aVar 7)) (agName 24) atYes (aTup (aConsD (aOp fIx (aVar 24) (aC (.int 0))) (aConsD (aFn S_law_laid (aConsD (aOp fIx (aVar 24) (aC (.int 1))) (aConsD (aVar 10) aNil))) aNil))) [24])) law_scene_0_12
def law_scene_0_10 : AS' := aSeq (aFor (aiSeq (aVar 8)) (agName 11) law_scene_1_0) law_scene_0_11
def law_scene_0_9 : AS' := aSeq (aSet 10 aNewK) law_scene_0_10
def law_scene_0_8 : AS' := aSeq (aSet 9 (aOp fAdd (aFn S_law_pool (aCons (aVar 0) (aConsD (aC (.int 3)) aNil))) (aVar 4))) law_scene_0_9
def law_scene_0_7 : AS' := aSeq (aSet 8 (aFn S_law_variables (aConsD (aVar 7) aNil))) law_scene_0_8
def law_scene_0_6 : AS' := aSeq (aSet 7 (aFn S_law_asked (aCons (aVar 0) (aConsD (aVar 1) (aConsD (aOp fAdd (aC (.int 1)) (aFn S_law_draw (aCons (aVar 0) (aConsD (aC (.int 4)) aNil)))) (aConsD (aOp fAdd (aOp fAdd (aVar 6) (aVar 6)) (aSl (aVar 4) aoNone (aoSome (aFn S_law_draw (aCons (aVar 0) (aConsD (aC (.int 3)) aNil)))))) aNil)))))) law_scene_0_7
def law_scene_0_5 : AS' := aSeq (aSet 6 (aFn S_law_pool (aCons (aVar 0) (aConsD (aOp fAdd (aC (.int 1)) (aFn S_law_draw (aCons (aVar 0) (aConsD (aC (.int 4)) aNil)))) aNil)))) law_scene_0_6
def law_scene_0_4 : AS' := aSeq (aSet 5 (aLst (aConsD (aTup (aConsD (aC (.int 0)) (aConsD (aVar 2) aNil))) (aConsD (aTup (aConsD (aVar 2) (aConsD (aVar 3) aNil))) (aConsD (aTup (aConsD (aVar 3) (aConsD (aC (.int 1000)) aNil))) aNil))))) law_scene_0_5
def law_scene_0_3 : AS' := aSeq (aSet 4 (aLst (aConsD (aOp fMul (aC (.int 10)) (aOp fAdd (aC (.int 1)) (aFn S_law_draw (aCons (aVar 0) (aConsD (aC (.int 9)) aNil))))) (aConsD (aOp fAdd (aVar 2) (aOp fMul (aC (.int 10)) (aOp fAdd (aC (.int 1)) (aFn S_law_draw (aCons (aVar 0) (aConsD (aC (.int 9)) aNil)))))) aNil)))) law_scene_0_4
def law_scene_0_2 : AS' := aSeq (aSet 3 (aOp fAdd (aVar 2) (aOp fMul (aC (.int 100)) (aOp fAdd (aC (.int 1)) (aFn S_law_draw (aCons (aVar 0) (aConsD (aC (.int 4)) aNil))))))) law_scene_0_3
def law_scene_0_1 : AS' := aSeq (aSet 2 (aOp fMul (aC (.int 100)) (aOp fAdd (aC (.int 1)) (aFn S_law_draw (aCons (aVar 0) (aConsD (aC (.int 4)) aNil)))))) law_scene_0_2
def law_scene_0_0 : AS' := aSeq (aSet 1 (aLc (aiSeq (aFn S_law_names (aCons (aVar 0) (aConsD (aOp fAdd (aC (.int 1)) (aFn S_law_draw (aCons (aVar 0) (aConsD (aC (.int 3)) aNil)))) aNil)))) (agName 23) atYes (aTup (aConsD (aVar 23) (aConsD (aOp fAdd (aC (.int 1)) (aFn S_law_draw (aCons (aVar 0) (aConsD (aC (.int 3)) aNil)))) aNil))) [23])) law_scene_0_1
def a_law_scene : AS' := law_scene_0_0
/-- _law_near(d): 0=d 1=variables 2=broken 3=images 4=btree 5=ttree 6=names 7=term -/
def B_law_near : Nat → Bool := fun i => i == 0
def law_near_1_0 : AS' := (aRet B_law_near (aC (.bl false)))
def law_near_0_5 : AS' := (aRet B_law_near (aAndV (aB (aFn S_law_images (aCons (aVar 0) (aConsD (aVar 4) (aConsD (aVar 5) (aConsD (aVar 3) aNil)))))) (aFn S_law_trees (aCons (aVar 0) (aConsD (aVar 4) (aConsD (aVar 5) (aConsD (aVar 3) aNil)))))))
def law_near_0_4 : AS' := aSeq (aSet 3 (aRd fTuple (aLc (aiSeq (aVar 1)) (agName 7) atYes (aOp fIx (aVar 6) (aVar 7)) [7]))) law_near_0_5
def law_near_0_3 : AS' := aSeq (aIfS (aOr (aNot (aTru (aFn S_law_told (aConsD (aVar 4) (aConsD (aVar 4) (aConsD (aVar 1) (aConsD (aC (.bl true)) aNil))))))) (aNot (aTru (aFn S_law_told (aConsD (aVar 2) (aConsD (aVar 2) (aConsD (aVar 1) (aConsD (aC (.bl true)) aNil)))))))) law_near_1_0 aNext) law_near_0_4
def law_near_0_2 : AS' := aSeq (aSet 2 (aTup (aConsD (aOp fIx (aVar 4) (aC (.int 0))) (aConsD (aOp fIx (aVar 4) (aC (.int 0))) (aConsD (aOp fIx (aVar 4) (aC (.int 2))) (aConsD (aOp fIx (aVar 4) (aC (.int 3))) aNil)))))) law_near_0_3
def law_near_0_1 : AS' := aSeq (aSet 1 (aRd fTuple (aFn S_law_variables (aConsD (aOp fIx (aVar 4) (aC (.int 0))) aNil)))) law_near_0_2
def law_near_0_0 : AS' := aSeq (aAsg (aFn S_law_scene (aCons (aVar 0) aNil)) (agTup 3 (agCons (agName 4) (agCons (agName 5) (agCons (agName 6) agNil))))) law_near_0_1
def a_law_near : AS' := law_near_0_0
/-- law(script): 0=script 1=d -/
def B_law : Nat → Bool := fun i => false
def law_1_0 : AS' := (aRet B_law (aC (.bl false)))
def law_0_2 : AS' := (aRet B_law (aOrV (aB (aOp fGt (aFn S_law_draw (aCons (aVar 1) (aConsD (aC (.int 4)) aNil))) (aC (.int 0)))) (aFn S_law_far (aCons (aVar 1) aNil))))
def law_0_1 : AS' := aSeq (aIfS (aOr (aNot (aTru (aFn S_law_near (aCons (aVar 1) aNil)))) (aNot (aTru (aFn S_law_near (aCons (aVar 1) aNil))))) law_1_0 aNext) law_0_2
def law_0_0 : AS' := aSeq (aSet 1 (aFn S_law_begin (aConsD (aVar 0) aNil))) law_0_1
def a_law : AS' := law_0_0
end AL
namespace AL
open PySem L2
/-! P1: the draws. -/
def BodyOk (n m : Nat) (B : Nat → Bool) (a : AS') (S : ASp) : Prop := ∀ avs R, S avs R → avs.length = n ∧ (∀ (i : Nat) (d : D), avs[i]? = some (.own d) → B i = true) ∧ a { nx := fun env => R (.dat .non) (outs avs env), rt := fun r env => (∀ i, r ≠ .at i) ∧ R r (outs avs env) } (start0 m avs)
theorem nat_ (x : D) (i : Nat) : RV.dat x ≠ .at i := fun z => by cases z
theorem new_ (x : D) (i : Nat) : RV.new x ≠ .at i := fun z => by cases z
/-- the own check: slot 0 alone -/
theorem own0 {d : D} {ds : List D} {B : Nat → Bool} (h : B 0 = true) : ∀ (i : Nat) (e : D), (AV.own d :: ds.map AV.dat)[i]? = some (.own e) → B i = true
  | 0, _, _ => h
  | i + 1, e, q => by
    rw [List.getElem?_cons_succ, List.getElem?_map] at q
    cases w : ds[i]? with
    | none => rw [w] at q; cases q
    | some x => rw [w] at q; cases q
theorem ownN {ds : List D} {B : Nat → Bool} : ∀ (i : Nat) (e : D), (ds.map AV.dat)[i]? = some (.own e) → B i = true := fun i e q => by
  rw [List.getElem?_map] at q
  cases w : ds[i]? with
  | none => rw [w] at q; cases q
  | some x => rw [w] at q; cases q
theorem n_ca : ¬ ("cells" : Str) = "at" := by decide +kernel
theorem n_cr : ¬ ("cells" : Str) = "rest" := by decide +kernel
theorem n_ct : ¬ ("cells" : Str) = "turn" := by decide +kernel
theorem n_cs : ¬ ("cells" : Str) = "seed" := by decide +kernel
theorem n_ar : ¬ ("at" : Str) = "rest" := by decide +kernel
theorem n_at : ¬ ("at" : Str) = "turn" := by decide +kernel
theorem n_as : ¬ ("at" : Str) = "seed" := by decide +kernel
theorem n_rt : ¬ ("rest" : Str) = "turn" := by decide +kernel
theorem n_rs : ¬ ("rest" : Str) = "seed" := by decide +kernel
theorem n_ts : ¬ ("turn" : Str) = "seed" := by decide +kernel
theorem dr {cs : List Int} {a r t s : Int} (hc : ∀ c ∈ cs, (0 : Int) ≤ c) (ha : 0 ≤ a) (hr : 0 ≤ r) (ht : 0 ≤ t) (hs : 0 ≤ s) : Dr (drD cs a r t s) := ⟨cs, a, r, t, s, rfl, hc, ha, hr, ht, hs⟩
section
variable {cs : List Int} {a r t s z : Int} {F : RV → Prop} {env : AEnv} {N : AEnv → Prop} {j : Nat}
theorem ix_cells (h : F (.dat (.lst (cs.map D.int)))) : fIx (drD cs a r t s) (.str "cells") F := ix_dic (z := .lst (cs.map D.int)) rfl (by simp [drK, dGet]) h
theorem ix_at (h : F (.dat (.int a))) : fIx (drD cs a r t s) (.str "at") F := ix_dic (z := .int a) rfl (by simp [drK, dGet, n_ca]) h
theorem ix_rest (h : F (.dat (.int r))) : fIx (drD cs a r t s) (.str "rest") F := ix_dic (z := .int r) rfl (by simp [drK, dGet, n_cr, n_ar]) h
theorem ix_turn (h : F (.dat (.int t))) : fIx (drD cs a r t s) (.str "turn") F := ix_dic (z := .int t) rfl (by simp [drK, dGet, n_ct, n_at, n_rt]) h
theorem ix_seed (h : F (.dat (.int s))) : fIx (drD cs a r t s) (.str "seed") F := ix_dic (z := .int s) rfl (by simp [drK, dGet, n_cs, n_as, n_rs, n_ts]) h
theorem sz5 : (5 : Nat) < sizeLine := by rw [PySem.sizeLine_eq]; omega
theorem set_at (e : env[j]? = some (.own (drD cs a r t s))) (h : N (env.set j (.own (drD cs z r t s)))) : setAt j (.str "at") (.int z) env N := by
  unfold setAt
  rw [e]
  refine ⟨rfl, sz5, ?_⟩
  simpa [dPutK, dPutW, dPutV, drK, drD, n_ca, n_ar, n_at, n_as, Ne.symm n_ar, Ne.symm n_at, Ne.symm n_as] using h
theorem set_rest (e : env[j]? = some (.own (drD cs a r t s))) (h : N (env.set j (.own (drD cs a z t s)))) : setAt j (.str "rest") (.int z) env N := by
  unfold setAt
  rw [e]
  refine ⟨rfl, sz5, ?_⟩
  simpa [dPutK, dPutW, dPutV, drK, drD, n_cr, n_ar, n_rt, n_rs, Ne.symm n_rt, Ne.symm n_rs] using h
theorem set_turn (e : env[j]? = some (.own (drD cs a r t s))) (h : N (env.set j (.own (drD cs a r z s)))) : setAt j (.str "turn") (.int z) env N := by
  unfold setAt
  rw [e]
  refine ⟨rfl, sz5, ?_⟩
  simpa [dPutK, dPutW, dPutV, drK, drD, n_ct, n_at, n_rt, n_ts, Ne.symm n_ts] using h
theorem set_seed (e : env[j]? = some (.own (drD cs a r t s))) (h : N (env.set j (.own (drD cs a r t z)))) : setAt j (.str "seed") (.int z) env N := by
  unfold setAt
  rw [e]
  refine ⟨rfl, sz5, ?_⟩
  simpa [dPutK, dPutW, dPutV, drK, drD, n_cs, n_as, n_rs, n_ts] using h
end
theorem p_law_draw : BodyOk 2 4 B_law_draw a_law_draw S_law_draw := by
  rintro _ R ⟨_, many, rfl, ⟨cs, a, r, t, s, rfl, hc, ha, hr, ht, hs⟩, hm, hm2, k⟩
  refine ⟨rfl, own0 (ds := [_]) rfl, ?_⟩
  have fin : ∀ a' s', 0 ≤ a' → 0 ≤ s' → ∀ env : AEnv, (env = [.own (drD cs a' r (t + 1) s'), .dat (.int many), .un, .un] ∨ ∃ c, env = [.own (drD cs a' r (t + 1) s'), .dat (.int many), .un, .dat (.int c)]) →
      law_draw_0_3 { nx := fun env => R (.dat .non) (outs [.own (drD cs a r t s), .dat (.int many)] env), rt := fun r0 env => (∀ i, r0 ≠ .at i) ∧ R r0 (outs [.own (drD cs a r t s), .dat (.int many)] env) } env := by
    intro a' s' ha' hs' env he
    rcases he with rfl | ⟨c, rfl⟩ <;>
    · conv => whnf
      refine ix_seed ?_
      conv => whnf
      refine ix_turn ?_
      conv => whnf
      refine ⟨.inr (by omega), ?_⟩
      conv => whnf
      refine ⟨.inr (by omega), ?_⟩
      conv => whnf
      refine ⟨by omega, ?_⟩
      conv => whnf
      refine ⟨⟨by omega, by omega⟩, ?_⟩
      conv => whnf
      refine ⟨.inr (by omega), ?_⟩
      conv => whnf
      refine ⟨by omega, ?_⟩
      conv => whnf
      refine ⟨hm, ?_⟩
      conv => whnf
      exact ⟨nat_ _, k _ _ (Int.emod_nonneg _ (by omega)) (Int.emod_lt_of_pos _ hm) (dr hc ha' hr (by omega) hs')⟩
  conv => whnf
  refine ix_turn ?_
  conv => whnf
  refine set_turn rfl ?_
  conv => whnf
  refine ix_rest ?_
  conv => whnf
  refine brI (fun h => ?_) (fun h => ?_)
  · conv => whnf
    refine ix_rest ?_
    conv => whnf
    refine ⟨hm, ?_⟩
    conv => whnf
    refine ix_rest ?_
    conv => whnf
    refine ⟨⟨hm, hm2⟩, ?_⟩
    conv => whnf
    refine set_rest rfl ?_
    conv => whnf
    exact ⟨nat_ _, k _ _ (Int.emod_nonneg _ (by omega)) (Int.emod_lt_of_pos _ hm) (dr hc ha (Int.ediv_nonneg hr (by omega)) (by omega) hs)⟩
  · conv => whnf
    refine ix_at ?_
    conv => whnf
    refine ix_cells ?_
    conv => whnf
    refine brI (fun h2 => ?_) (fun h2 => ?_)
    · have hlt : a < (cs.length : Int) := by simpa using h2
      obtain ⟨c, ec⟩ : ∃ c, cs[a.toNat]? = some c := ⟨cs[a.toNat]'(by omega), List.getElem?_eq_getElem (by omega)⟩
      have hcc : 0 ≤ c := hc c (List.mem_of_getElem? ec)
      conv => whnf
      refine ix_cells ?_
      conv => whnf
      refine ix_at ?_
      conv => whnf
      refine ix_lst ha (by rw [List.getElem?_map, ec]; rfl) ?_
      conv => whnf
      refine ix_at ?_
      conv => whnf
      refine set_at rfl ?_
      conv => whnf
      refine ⟨⟨by omega, by omega, by omega⟩, ?_⟩
      conv => whnf
      refine brI (fun h3 => ?_) (fun h3 => ?_)
      · conv => whnf
        refine ⟨⟨by omega, by omega⟩, ?_⟩
        conv => whnf
        refine ⟨⟨hm, hm2⟩, ?_⟩
        conv => whnf
        refine set_rest rfl ?_
        conv => whnf
        refine ⟨⟨by omega, by omega⟩, ?_⟩
        conv => whnf
        refine ⟨hm, ?_⟩
        conv => whnf
        exact ⟨nat_ _, k _ _ (Int.emod_nonneg _ (by omega)) (Int.emod_lt_of_pos _ hm) (dr hc (by omega) (Int.ediv_nonneg (Int.ediv_nonneg hcc (by omega)) (by omega)) (by omega) hs)⟩
      · conv => whnf
        refine ix_seed ?_
        conv => whnf
        refine ⟨.inr (by omega), ?_⟩
        conv => whnf
        refine ⟨by omega, ?_⟩
        conv => whnf
        refine set_seed rfl ?_
        exact fin (a + 1) _ (by omega) (Int.emod_nonneg _ (by omega)) _ (.inr ⟨c, rfl⟩)
    · exact fin a s ha hs _ (.inl rfl)
/-- a draw in a def -/
theorem use_draw {env : AEnv} (j : Nat) {d : D} {many : Int} {R : RV → AEnv → Prop} (e : env[j]? = some (.own d)) (hd : Dr d) (hm : 0 < many) (hm2 : many < 1073741824) (k : ∀ r d', 0 ≤ r → r < many → Dr d' → R (.dat (.int r)) (env.set j (.own d'))) : callR S_law_draw [.at j, .dat (.int many)] env R :=
  call_lent j [.int many] e ⟨d, many, rfl, hd, hm, hm2, fun r d' h1 h2 h3 => k r d' h1 h2 h3⟩
end AL
namespace AL
open PySem L2
/-! P2: begin, pick, mixed. -/
def cutL {α : Type} (xs : List α) (lo hi : Option Int) : List α := (xs.drop (HT.sIx xs.length 0 lo)).take (HT.sIx xs.length xs.length hi - HT.sIx xs.length 0 lo)
theorem cutD_map {α : Type} (f : α → D) (xs : List α) (lo hi : Option Int) : cutD (xs.map f) lo hi = (cutL xs lo hi).map f := by
  unfold cutD cutL
  rw [List.length_map, List.map_take, List.map_drop]
theorem sz_le {n : Nat} (h : n ≤ 16777216) : n ≤ sizeLine := by rw [PySem.sizeLine_eq]; exact h
theorem sz_of {n : Nat} (h : n ≤ sizeLine) : n ≤ 16777216 := by rw [PySem.sizeLine_eq] at h; exact h
theorem sz_lt {n : Nat} (h : n < 16777216) : n < sizeLine := by rw [PySem.sizeLine_eq]; exact h
theorem seq_items {d : D} {l : List D} (h : seqOf d = some l) : d = .lst l ∨ d = .tup l := by
  cases d <;> first | (cases h; exact .inl rfl) | (cases h; exact .inr rfl) | cases h
theorem p_law_begin : BodyOk 1 3 B_law_begin a_law_begin S_law_begin := by
  rintro _ R ⟨ns, rfl, k⟩
  refine ⟨rfl, ownN (ds := [_]), ?_⟩
  conv => whnf
  refine ⟨Nat.zero_le _, ?_⟩
  conv => whnf
  rw [cutD_map]
  intro hl
  refine for_ind (Iv := fun items env => ∃ (cs ms : List Int) (x : AV), items = ms.map D.int ∧ env = [.dat (.scr (ns.map D.int)), .own (.lst (cs.map D.int)), x] ∧ (∀ c ∈ cs, (0 : Int) ≤ c) ∧ cs.length + items.length ≤ 16777216) ?_ ?_ _ _ ⟨[], _, .un, rfl, rfl, (fun c hc => nomatch hc), by simpa using sz_of hl⟩
  · rintro env ⟨cs, ms, x, _, rfl, hc, _⟩
    conv => whnf
    refine ⟨by decide +kernel, by decide +kernel, by decide, ?_⟩
    conv => whnf
    exact ⟨new_ _, k _ (dr hc (by omega) (by omega) (by omega) (by omega))⟩
  · rintro d ds env N hN ⟨cs, ms, x, e, rfl, hc, hz⟩
    obtain ⟨m, r, rfl, rfl, rfl⟩ := map_cons_inv e.symm
    rw [List.length_cons] at hz
    have put : ∀ v : Int, 0 ≤ v → (cs.map D.int).length < sizeLine ∧ N [.dat (.scr (ns.map D.int)), .own (.lst (cs.map D.int ++ [.int v])), .dat (.int m)] := fun v hv => by
      refine ⟨by rw [List.length_map]; exact sz_lt (by omega), hN _ ⟨cs ++ [v], r, _, rfl, by rw [List.map_append]; rfl, fun c hc' => ?_, by rw [List.length_append, List.length_singleton]; omega⟩⟩
      rcases List.mem_append.mp hc' with h | h
      · exact hc c h
      · rw [List.mem_singleton] at h
        rw [h]; exact hv
    conv => whnf
    refine ⟨⟨_, rfl⟩, ?_⟩
    conv => whnf
    refine brI (fun h => ?_) (fun h => ?_)
    · conv => whnf
      refine ⟨.inl (by omega), ?_⟩
      conv => whnf
      refine ⟨trivial, ?_⟩
      conv => whnf
      have : (0 : Int) ≤ m := by simpa using h
      exact put _ (by omega)
    · conv => whnf
      refine ⟨.inl (by omega), ?_⟩
      conv => whnf
      refine ⟨trivial, ?_⟩
      conv => whnf
      have : ¬ (0 : Int) ≤ m := by simpa using h
      exact put _ (by omega)
theorem p_law_pick : BodyOk 2 2 B_law_pick a_law_pick S_law_pick := by
  rintro _ R ⟨d, row, l, rfl, hd, hi, hl, hz, k⟩
  refine ⟨rfl, own0 (ds := [_]) rfl, ?_⟩
  have pos : 0 < l.length := List.length_pos_iff.mpr hl
  have get : ∀ r : Int, 0 ≤ r → r < (l.length : Int) → ∃ z, l[r.toNat]? = some z ∧ z ∈ l := fun r h1 h2 => ⟨l[r.toNat]'(by omega), List.getElem?_eq_getElem (by omega), List.getElem_mem _⟩
  cases row <;> first | (cases hi; done) | skip
  · rename_i x
    have e : l = x.cps.toList.map fun c => D.str ⟨#[c]⟩ := (Option.some.inj hi).symm
    have el : x.length = l.length := by rw [e, List.length_map, Array.length_toList]; rfl
    have elc : x.cps.toList.length = l.length := by rw [e, List.length_map]
    conv => whnf
    refine ⟨trivial, ?_⟩
    conv => whnf
    refine ⟨sz_le (by rw [el]; omega), ?_⟩
    conv => whnf
    refine ⟨trivial, ?_⟩
    conv => whnf
    refine use_draw 0 rfl hd (by omega) (by omega) fun r d' h1 h2 hd' => ?_
    rw [el] at h2
    obtain ⟨z, hz', mz⟩ := get r h1 h2
    rw [e, List.getElem?_map] at hz'
    cases w : x.cps.toList[r.toNat]? with
    | none => rw [w] at hz'; cases hz'
    | some c =>
      rw [w] at hz'
      cases hz'
      conv => whnf
      unfold fIx
      refine ⟨sz_le (by rw [el]; omega), c, ?_, nat_ _, k _ d' mz hd'⟩
      unfold atI
      have : ixN x.cps.toList.length r = some r.toNat := by
        unfold ixN
        rw [if_pos h1, if_pos (by omega)]
      rw [this]
      exact w
  · cases hi
    conv => whnf
    refine ⟨trivial, ?_⟩
    conv => whnf
    refine ⟨trivial, ?_⟩
    conv => whnf
    refine use_draw 0 rfl hd (by omega) (by omega) fun r d' h1 h2 hd' => ?_
    obtain ⟨z, hz', mz⟩ := get r h1 h2
    conv => whnf
    refine ix_tup h1 hz' ?_
    conv => whnf
    exact ⟨nat_ _, k _ d' mz hd'⟩
  · cases hi
    conv => whnf
    refine ⟨trivial, ?_⟩
    conv => whnf
    refine ⟨trivial, ?_⟩
    conv => whnf
    refine use_draw 0 rfl hd (by omega) (by omega) fun r d' h1 h2 hd' => ?_
    obtain ⟨z, hz', mz⟩ := get r h1 h2
    conv => whnf
    refine ix_lst h1 hz' ?_
    conv => whnf
    exact ⟨nat_ _, k _ d' mz hd'⟩
theorem use_pick {env : AEnv} (j : Nat) {d row : D} (l : List D) {R : RV → AEnv → Prop} (e : env[j]? = some (.own d)) (hd : Dr d) (hi : itemsOf row = some l) (hl : l ≠ []) (hz : l.length ≤ 1000000) (k : ∀ z d', z ∈ l → Dr d' → R (.dat z) (env.set j (.own d'))) : callR S_law_pick [.at j, .dat row] env R :=
  call_lent j [row] e ⟨d, row, l, rfl, hd, hi, hl, hz, fun z d' h1 h2 => k z d' h1 h2⟩
end AL
namespace AL
open PySem L2
/-! P3: mixed, unlike, some. -/
theorem idx_nat {n : Nat} {r : Int} (h : 0 ≤ r) (h2 : r < (n : Int)) : seqIndex? r n = some r.toNat := by
  refine (ixN_seq ?_).1
  unfold ixN
  rw [if_pos h, if_pos h2]
theorem erase_perm {α : Type} : ∀ (l : List α) (i : Nat) (h : i < l.length), (l[i] :: l.eraseIdx i).Perm l
  | a :: l, 0, h => List.Perm.refl _
  | a :: l, i + 1, h => by
    simp only [List.getElem_cons_succ, List.eraseIdx_cons_succ]
    exact (List.Perm.swap _ _ _).trans (List.Perm.cons a (erase_perm l i (by simpa using h)))
theorem range_len (n : Nat) : (rangeD 0 n).length = n := by unfold rangeD; rw [List.length_map, List.length_range]
theorem p_law_mixed : BodyOk 2 5 B_law_mixed a_law_mixed S_law_mixed := by
  rintro _ R ⟨d, row, l, rfl, hd, hi, hz, k⟩
  refine ⟨rfl, own0 (ds := [_]) rfl, ?_⟩
  have loop : ∀ env : AEnv, env = [.own d, .dat row, .own (.lst l), .own (.lst []), .un] → forL (agName 4) law_mixed_1_0 { nx := law_mixed_0_3 { nx := fun env => R (.dat .non) (outs [.own d, .dat row] env), rt := fun r env => (∀ i, r ≠ .at i) ∧ R r (outs [.own d, .dat row] env) }, rt := fun r env => (∀ i, r ≠ .at i) ∧ R r (outs [.own d, .dat row] env) } (rangeD 0 l.length) env := by
    intro env he
    refine for_ind (Iv := fun items env => ∃ (d' : D) (left told : List D) (x : AV), env = [.own d', .dat row, .own (.lst left), .own (.lst told), x] ∧ Dr d' ∧ left.length = items.length ∧ (told ++ left).Perm l) ?_ ?_ _ _ ⟨d, l, [], .un, he, hd, (range_len _).symm, List.Perm.refl _⟩
    · rintro env ⟨d', left, told, x, rfl, hd', hl, pm⟩
      conv => whnf
      refine ⟨rfl, new_ _, k _ d' ?_ hd'⟩
      have : left = [] := List.length_eq_zero_iff.mp hl
      subst this
      rwa [List.append_nil] at pm
    · rintro z ds env N hN ⟨d', left, told, x, rfl, hd', hl, pm⟩
      rw [List.length_cons] at hl
      have hl2 : told.length + left.length = l.length := by rw [← List.length_append]; exact pm.length_eq
      conv => whnf
      refine ⟨⟨_, rfl⟩, ?_⟩
      conv => whnf
      refine ⟨⟨_, rfl⟩, ?_⟩
      conv => whnf
      refine ⟨trivial, ?_⟩
      conv => whnf
      refine ⟨trivial, ?_⟩
      conv => whnf
      refine use_draw 0 rfl hd' (by omega) (by omega) fun r d2 h1 h2 hd2 => ?_
      have lt : r.toNat < left.length := by omega
      conv => whnf
      refine ⟨trivial, ?_⟩
      conv => whnf
      refine ⟨by omega, ?_⟩
      conv => whnf
      refine ⟨by omega, r.toNat, left[r.toNat]'lt, idx_nat h1 h2, List.getElem?_eq_getElem lt, ?_⟩
      conv => whnf
      refine ⟨trivial, ?_⟩
      conv => whnf
      refine ⟨sz_lt (by omega), ?_⟩
      conv => whnf
      refine hN _ ⟨d2, left.eraseIdx r.toNat, told ++ [left[r.toNat]'lt], _, rfl, hd2, ?_, ?_⟩
      · rw [List.length_eraseIdx_of_lt lt]; omega
      · refine List.Perm.trans ?_ pm
        rw [List.append_assoc]
        refine List.Perm.append_left _ ?_
        exact erase_perm left r.toNat lt
  rcases seq_items hi with rfl | rfl <;>
  · cases hi
    conv => whnf
    refine ⟨Nat.zero_le _, ?_⟩
    conv => whnf
    refine ⟨trivial, ?_⟩
    conv => whnf
    refine ⟨⟨by omega, by omega⟩, ?_⟩
    exact loop _ rfl
theorem use_mixed {env : AEnv} (j : Nat) {d row : D} (l : List D) {R : RV → AEnv → Prop} (e : env[j]? = some (.own d)) (hd : Dr d) (hi : seqOf row = some l) (hz : l.length ≤ 1000000) (k : ∀ l' d', l'.Perm l → Dr d' → R (.new (.lst l')) (env.set j (.own d'))) : callR S_law_mixed [.at j, .dat row] env R :=
  call_lent j [row] e ⟨d, row, l, rfl, hd, hi, hz, fun z d' h1 h2 => k z d' h1 h2⟩
theorem p_law_unlike : BodyOk 1 3 B_law_unlike a_law_unlike S_law_unlike := by
  rintro _ R ⟨row, l, n, rfl, hi, hz, hn, pl, k⟩
  refine ⟨rfl, ownN (ds := [_]), ?_⟩
  have loop : ∀ env : AEnv, env = [.dat row, .own (.lst []), .un] → forL (agName 2) law_unlike_1_0 { nx := law_unlike_0_2 { nx := fun env => R (.dat .non) (outs [.dat row] env), rt := fun r env => (∀ i, r ≠ .at i) ∧ R r (outs [.dat row] env) }, rt := fun r env => (∀ i, r ≠ .at i) ∧ R r (outs [.dat row] env) } l env := by
    intro env he
    refine for_ind (Iv := fun items env => ∃ (ahead told : List D) (x : AV), env = [.dat row, .own (.lst told), x] ∧ ahead ++ items = l ∧ told.Sublist ahead ∧ ∀ y ∈ ahead, y ∈ told) ?_ ?_ _ _ ⟨[], [], .un, he, rfl, List.Sublist.refl _, fun y h => h⟩
    · rintro env ⟨ahead, told, x, rfl, e, sl, mm⟩
      rw [List.append_nil] at e
      subst e
      conv => whnf
      exact ⟨rfl, new_ _, k _ sl mm⟩
    · rintro z ds env N hN ⟨ahead, told, x, rfl, e, sl, mm⟩
      have pz : Pl n z := pl z (by rw [← e]; simp)
      have pt : ∀ y ∈ told, Pl n y := fun y h => pl y (by rw [← e]; simp [sl.subset h])
      have lz : told.length ≤ ahead.length := sl.length_le
      have le : ahead.length + (ds.length + 1) = l.length := by rw [← e, List.length_append, List.length_cons]
      have e2 : (ahead ++ [z]) ++ ds = l := by rw [List.append_assoc]; exact e
      conv => whnf
      refine notin_lst pz pt ?_
      conv => whnf
      refine brI (fun h => ?_) (fun h => ?_)
      · conv => whnf
        refine ⟨⟨_, rfl⟩, ?_⟩
        conv => whnf
        refine ⟨trivial, ?_⟩
        conv => whnf
        refine ⟨sz_lt (by omega), ?_⟩
        conv => whnf
        refine hN _ ⟨ahead ++ [z], told ++ [z], _, rfl, e2, sl.append (List.Sublist.refl _), fun y hy => ?_⟩
        rcases List.mem_append.mp hy with q | q
        · exact List.mem_append.mpr (.inl (mm y q))
        · exact List.mem_append.mpr (.inr q)
      · conv => whnf
        have hin : z ∈ told := by simpa using h
        refine hN _ ⟨ahead ++ [z], told, _, rfl, e2, sl.trans (List.sublist_append_left _ _), fun y hy => ?_⟩
        rcases List.mem_append.mp hy with q | q
        · exact mm y q
        · rw [List.mem_singleton] at q
          rw [q]; exact hin
  rcases seq_items hi with rfl | rfl <;>
  · cases hi
    conv => whnf
    refine ⟨Nat.zero_le _, ?_⟩
    conv => whnf
    intro hl
    exact loop _ rfl
theorem use_unlike {env : AEnv} {row : D} (l : List D) (n : Nat) {R : RV → AEnv → Prop} (hi : seqOf row = some l) (hz : l.length ≤ 1000000) (hn : n ≤ 20) (pl : ∀ x ∈ l, Pl n x) (k : ∀ l', l'.Sublist l → (∀ x ∈ l, x ∈ l') → R (.new (.lst l')) env) : callR S_law_unlike [.dat row] env R :=
  call_dats [row] ⟨row, l, n, rfl, hi, hz, hn, pl, fun l' h1 h2 => k l' h1 h2⟩
end AL
namespace AL
open PySem L2
/-! P4: some, pool, names, asked, variables. -/
theorem Outs.sub {S : D → Option D → Prop} (h : ∀ d z, S d (some z) → z = d) : ∀ {ds zs : List D}, Outs S ds zs → zs.Sublist ds
  | _, _, .nil => List.Sublist.refl _
  | _, _, .yes s o => by
    rw [h _ _ s]
    exact (o.sub h).cons_cons _
  | _, _, .no s o => (o.sub h).cons _
theorem p_law_some : BodyOk 3 5 B_law_some a_law_some S_law_some := by
  rintro _ R ⟨d, row, l, n, least, rfl, hd, hi, hz, hn, pl, k⟩
  refine ⟨rfl, own0 (ds := [_, _]) rfl, ?_⟩
  have zl : l.length ≤ sizeLine := sz_le (by omega)
  -- the last comprehension
  have last : ∀ (d' : D) (told : List D) (x : AV), Dr d' → (∀ e, x ≠ .own e) → (∀ y ∈ told, y ∈ l) → told.length ≤ 3000000 → law_some_0_2 { nx := fun env => R (.dat .non) (outs [.own d, .dat row, .dat (.int least)] env), rt := fun r env => (∀ i, r ≠ .at i) ∧ R r (outs [.own d, .dat row, .dat (.int least)] env) } [.own d', .dat row, .dat (.int least), .own (.lst told), x] := by
    intro d' told x hd' nx ht hzt
    have go : ∀ env1 : AEnv, env1 = [.own d', .dat row, .dat (.int least), .own (.lst told), x] → lcL (agName 4) (aB (aOp (fIn false) (aVar 4) (aVar 3))) (aVar 4) [4] l (fun zs env2 => retR B_law_some { nx := fun env => R (.dat .non) (outs [.own d, .dat row, .dat (.int least)] env), rt := fun r env => (∀ i, r ≠ .at i) ∧ R r (outs [.own d, .dat row, .dat (.int least)] env) } (restoreE env1 env2 [4]) (.new (.lst zs))) (wipeE env1 [4]) := by
      rintro _ rfl
      refine lc_ind (Ev := fun env => env = [.own d', .dat row, .dat (.int least), .own (.lst told), .un]) (Stp := fun y oz => oz = some y ∨ oz = none) l ?_ _ _ rfl ?_
      · rintro y hy _ K rfl hK
        have pt : ∀ z ∈ told, Pl n z := fun z h => pl z (ht z h)
        conv => whnf
        refine in_lst (pl y hy) pt ?_
        conv => whnf
        refine brI (fun h => ?_) (fun h => ?_)
        · conv => whnf
          exact hK _ _ rfl (.inl rfl)
        · exact hK _ _ rfl (.inr rfl)
      · rintro zs _ o rfl
        conv => whnf
        refine ⟨new_ _, k _ _ (o.sub fun y z h => ?_) hd'⟩
        rcases h with h | h
        · exact Option.some.inj h
        · cases h
    rcases seq_items hi with rfl | rfl <;>
    · cases hi
      conv => whnf
      intro _
      refine ⟨noOwn_one (x := x) rfl nx, zl, ?_⟩
      exact go _ rfl
  have loop : ∀ (d' : D) (told : List D), Dr d' → (∀ y ∈ told, y ∈ l) → told.length ≤ 1000000 → forL (agName 4) law_some_1_0 { nx := law_some_0_2 { nx := fun env => R (.dat .non) (outs [.own d, .dat row, .dat (.int least)] env), rt := fun r env => (∀ i, r ≠ .at i) ∧ R r (outs [.own d, .dat row, .dat (.int least)] env) }, rt := fun r env => (∀ i, r ≠ .at i) ∧ R r (outs [.own d, .dat row, .dat (.int least)] env) } l [.own d', .dat row, .dat (.int least), .own (.lst told), .un] := by
    intro d' told hd' ht hzt
    refine for_ind (Iv := fun items env => ∃ (told : List D) (x : AV), env = [.own d', .dat row, .dat (.int least), .own (.lst told), x] ∧ (∀ e, x ≠ .own e) ∧ (∀ y ∈ told, y ∈ l) ∧ (∀ y ∈ items, y ∈ l) ∧ told.length + items.length ≤ 2000000) ?_ ?_ _ _ ⟨told, .un, rfl, fun e z => (by cases z), ht, fun y h => h, by omega⟩
    · rintro env ⟨told, x, rfl, nx, ht, _, hz2⟩
      exact last d' told x hd' nx ht (by omega)
    · rintro y ds env N hN ⟨told, x, rfl, nx, ht, hit, hz2⟩
      rw [List.length_cons] at hz2
      have hy : y ∈ l := hit y List.mem_cons_self
      have hit2 : ∀ z ∈ ds, z ∈ l := fun z h => hit z (List.mem_cons_of_mem _ h)
      have pt : ∀ z ∈ told, Pl n z := fun z h => pl z (ht z h)
      have nd : ∀ e, AV.dat y ≠ .own e := fun e z => by cases z
      conv => whnf
      refine brI (fun h => ?_) (fun h => ?_)
      · conv => whnf
        refine notin_lst (pl y hy) pt ?_
        conv => whnf
        refine brI (fun h => ?_) (fun h => ?_)
        · conv => whnf
          refine ⟨⟨_, rfl⟩, ?_⟩
          conv => whnf
          refine ⟨trivial, ?_⟩
          conv => whnf
          refine ⟨sz_lt (by omega), ?_⟩
          conv => whnf
          refine hN _ ⟨told ++ [y], _, rfl, nd, fun z hz => ?_, hit2, by rw [List.length_append, List.length_singleton]; omega⟩
          rcases List.mem_append.mp hz with q | q
          · exact ht z q
          · rw [List.mem_singleton] at q
            rw [q]; exact hy
        · conv => whnf
          exact hN _ ⟨told, _, rfl, nd, ht, hit2, by omega⟩
      · conv => whnf
        rw [brP_false]
        exact hN _ ⟨told, _, rfl, nd, ht, hit2, by omega⟩
  -- the first comprehension
  have first : ∀ env1 : AEnv, env1 = [.own d, .dat row, .dat (.int least), .un, .un] → lcL (agName 4) (aB (aOp fEq (aFn S_law_draw (aCons (aVar 0) (aConsD (aC (.int 2)) aNil))) (aC (.int 1)))) (aVar 4) [4] l (fun zs env2 => setR 3 (law_some_0_1 { nx := fun env => R (.dat .non) (outs [.own d, .dat row, .dat (.int least)] env), rt := fun r env => (∀ i, r ≠ .at i) ∧ R r (outs [.own d, .dat row, .dat (.int least)] env) }) (restoreE env1 env2 [4]) (.new (.lst zs))) (wipeE env1 [4]) := by
    rintro _ rfl
    refine lc_ind (Ev := fun env => ∃ d', Dr d' ∧ env = [.own d', .dat row, .dat (.int least), .un, .un]) (Stp := fun y oz => oz = some y ∨ oz = none) l ?_ _ _ ⟨d, hd, rfl⟩ ?_
    · rintro y hy _ K ⟨d', hd', rfl⟩ hK
      conv => whnf
      refine ⟨trivial, ?_⟩
      conv => whnf
      refine ⟨trivial, ?_⟩
      conv => whnf
      refine use_draw 0 rfl hd' (by omega) (by omega) fun r d2 h1 h2 hd2 => ?_
      conv => whnf
      refine eq_int ?_
      conv => whnf
      refine brI (fun h => ?_) (fun h => ?_)
      · conv => whnf
        exact hK _ _ ⟨d2, hd2, rfl⟩ (.inl rfl)
      · exact hK _ _ ⟨d2, hd2, rfl⟩ (.inr rfl)
    · rintro zs _ o ⟨d', hd', rfl⟩
      have sl := o.sub fun y z h => by
        rcases h with h | h
        · exact Option.some.inj h
        · cases h
      have lz := sl.length_le
      have lp := loop d' zs hd' (fun y h => sl.subset h) (by omega)
      rcases seq_items hi with rfl | rfl <;>
      · cases hi
        conv => whnf
        intro _
        exact lp
  rcases seq_items hi with rfl | rfl <;>
  · cases hi
    conv => whnf
    intro _
    refine ⟨noOwn_one (x := .un) rfl (fun e z => by cases z), zl, ?_⟩
    exact first _ rfl
theorem use_some {env : AEnv} (j : Nat) {d row : D} {least : Int} (l : List D) (n : Nat) {R : RV → AEnv → Prop} (e : env[j]? = some (.own d)) (hd : Dr d) (hi : seqOf row = some l) (hz : l.length ≤ 1000000) (hn : n ≤ 20) (pl : ∀ x ∈ l, Pl n x) (k : ∀ l' d', l'.Sublist l → Dr d' → R (.new (.lst l')) (env.set j (.own d'))) : callR S_law_some [.at j, .dat row, .dat (.int least)] env R :=
  call_lent j [row, .int least] e ⟨d, row, l, n, least, rfl, hd, hi, hz, hn, pl, fun z d' h1 h2 => k z d' h1 h2⟩
end AL
namespace AL
open PySem L2
/-! P5: pool, variables. -/
def intOf : D → Int
  | .int i => i
  | _ => 0
theorem perm_ints {l : List D} {xs : List Int} (p : l.Perm (xs.map D.int)) : ∃ ys : List Int, l = ys.map D.int ∧ ys.Perm xs := by
  have p2 := p.map intOf
  rw [List.map_map] at p2
  have e : (intOf ∘ D.int) = id := rfl
  rw [e, List.map_id] at p2
  refine ⟨l.map intOf, ?_, p2⟩
  rw [List.map_map]
  refine (List.map_congr_left (g := id) fun z hz => ?_).trans (List.map_id l) |>.symm
  have := p.mem_iff.mp hz
  obtain ⟨i, _, rfl⟩ := List.mem_map.mp this
  rfl
theorem p_law_pool : BodyOk 2 5 B_law_pool a_law_pool S_law_pool := by
  rintro _ R ⟨d, many, rfl, hd, h0, h9, k⟩
  refine ⟨rfl, own0 (ds := [_]) rfl, ?_⟩
  have fin : ∀ (low step : Int) (d' : D), 0 < low → low ≤ 9 → 0 < step → step ≤ 1000003 → Dr d' → law_pool_0_2 { nx := fun env => R (.dat .non) (outs [.own d, .dat (.int many)] env), rt := fun r env => (∀ i, r ≠ .at i) ∧ R r (outs [.own d, .dat (.int many)] env) } [.own d', .dat (.int many), .dat (.int low), .dat (.int step), .un] := by
    intro low step d' l1 l2 s1 s2 hd'
    conv => whnf
    refine ⟨trivial, ?_⟩
    conv => whnf
    refine ⟨trivial, ?_⟩
    conv => whnf
    refine ⟨⟨by omega, by omega⟩, ?_⟩
    refine ⟨noOwn_one (x := .un) rfl (fun e z => by cases z), sz_le (by rw [range_len]; omega), ?_⟩
    refine lc_ind (Ev := fun env => env = [.own d', .dat (.int many), .dat (.int low), .dat (.int step), .un]) (Stp := fun y oz => ∃ i : Int, y = .int i ∧ oz = some (.int (-low - step * i))) _ ?_ _ _ rfl ?_
    · rintro y hy _ K rfl hK
      obtain ⟨i, hi, rfl⟩ := List.mem_map.mp hy
      conv => whnf
      rw [brP_true]
      conv => whnf
      refine ⟨.inl (by omega), ?_⟩
      conv => whnf
      exact hK _ _ rfl ⟨_, rfl, rfl⟩
    · rintro zs _ o rfl
      have ez := o.map (xs := List.range many.toNat) (f := fun i : Nat => D.int (-low - step * (0 + (i : Int)))) fun i oz ⟨j, e1, e2⟩ => by
        cases e1
        exact e2
      have ez2 : zs = ((List.range many.toNat).map fun i : Nat => -low - step * (0 + (i : Int))).map D.int := by rw [ez, List.map_map]; rfl
      conv => whnf
      refine ⟨trivial, ?_⟩
      conv => whnf
      refine use_mixed 0 zs rfl hd' rfl (by rw [ez, List.length_map, List.length_range]; omega) fun l' d2 pm hd2 => ?_
      rw [ez2] at pm
      obtain ⟨ps, rfl, pm2⟩ := perm_ints pm
      conv => whnf
      refine ⟨new_ _, k ps d2 ?_ ?_ ?_ hd2⟩
      · refine pm2.nodup_iff.mpr ?_
        rw [List.nodup_iff_pairwise_ne, List.pairwise_map]
        refine List.Pairwise.imp_of_mem ?_ (List.nodup_range (n := many.toNat))
        intro a b _ _ ne e
        have : step * ((a : Int) - b) = 0 := by rw [Int.mul_sub]; simp only [Int.zero_add] at e; omega
        rcases Int.mul_eq_zero.mp this with q | q
        · omega
        · exact ne (by omega)
      · rw [pm2.length_eq, List.length_map, List.length_range]
      · intro p hp
        have := pm2.mem_iff.mp hp
        obtain ⟨i, hi, rfl⟩ := List.mem_map.mp this
        have hi2 : i < many.toNat := List.mem_range.mp hi
        have h1 : step * (0 + (i : Int)) ≤ 1000003 * 900 := Int.mul_le_mul (by omega) (by omega) (by omega) (by omega)
        have h2 : 0 ≤ step * (0 + (i : Int)) := Int.mul_nonneg (by omega) (by omega)
        omega
  conv => whnf
  refine ⟨trivial, ?_⟩
  conv => whnf
  refine ⟨trivial, ?_⟩
  conv => whnf
  refine use_draw 0 rfl hd (by omega) (by omega) fun r d2 h1 h2 hd2 => ?_
  conv => whnf
  refine ⟨trivial, ?_⟩
  conv => whnf
  refine ⟨trivial, ?_⟩
  conv => whnf
  refine use_draw 0 rfl hd2 (by omega) (by omega) fun r3 d3 h3 h4 hd3 => ?_
  conv => whnf
  refine ⟨rfl, ?_⟩
  conv => whnf
  refine ⟨trivial, ?_⟩
  conv => whnf
  refine ⟨trivial, ?_⟩
  conv => whnf
  refine use_draw 0 rfl hd3 (by omega) (by omega) fun r5 d5 h5 h6 hd5 => ?_
  conv => whnf
  refine eq_int ?_
  conv => whnf
  refine brI (fun h => ?_) (fun h => ?_)
  · exact fin (1 + r) 1000003 d5 (by omega) (by omega) (by omega) (by omega) hd5
  · exact fin (1 + r) (1 + r3) d5 (by omega) (by omega) (by omega) (by omega) hd5
theorem use_pool {env : AEnv} (j : Nat) {d : D} {many : Int} {R : RV → AEnv → Prop} (e : env[j]? = some (.own d)) (hd : Dr d) (h0 : 0 ≤ many) (h9 : many ≤ 900) (k : ∀ (ps : List Int) d', ps.Nodup → ps.length = many.toNat → (∀ p ∈ ps, -1000000007 < p ∧ p < 0) → Dr d' → R (.new (.lst (ps.map D.int))) (env.set j (.own d'))) : callR S_law_pool [.at j, .dat (.int many)] env R :=
  call_lent j [.int many] e ⟨d, many, rfl, hd, h0, h9, fun ps d' a b c e => k ps d' a b c e⟩
/-! variables -/
theorem addVars_cons (told : List Int) (t : Int) (ts : List Int) : addVars told (t :: ts) = addVars (if t < 0 ∧ t ∉ told then told ++ [t] else told) ts := rfl
theorem addVars_len (told ts : List Int) : (addVars told ts).length ≤ told.length + ts.length := by
  induction ts generalizing told with
  | nil => exact Nat.le_refl _
  | cons t ts ih =>
    rw [addVars_cons, List.length_cons]
    by_cases c : t < 0 ∧ t ∉ told
    · rw [if_pos c]
      have := ih (told ++ [t])
      rw [List.length_append, List.length_singleton] at this
      omega
    · rw [if_neg c]
      have := ih told
      omega
theorem vars_inner {A : AEnds} {x0 x2 : AV} (told ts : List Int) (x3 : AV) (hz : told.length + ts.length ≤ 2000000) (h : ∀ x, A.nx [x0, .own (.lst ((addVars told ts).map D.int)), x2, x]) :
    forL (agName 3) law_variables_2_0 A (ts.map D.int) [x0, .own (.lst (told.map D.int)), x2, x3] := by
  refine for_ind (Iv := fun items env => ∃ (tl us : List Int) (x : AV), items = us.map D.int ∧ env = [x0, .own (.lst (tl.map D.int)), x2, x] ∧ addVars tl us = addVars told ts ∧ tl.length + us.length ≤ 2000000) ?_ ?_ _ _ ⟨told, ts, x3, rfl, rfl, rfl, hz⟩
  · rintro env ⟨tl, us, x, e, rfl, ea, hz2⟩
    cases us with
    | cons u r => cases e
    | nil =>
      have e0 : addVars tl [] = tl := rfl
      rw [e0] at ea
      rw [ea]
      exact h x
  · rintro d ds env M hM ⟨tl, us, x, e, rfl, ea, hz2⟩
    obtain ⟨t, r, rfl, rfl, rfl⟩ := map_cons_inv e.symm
    rw [List.length_cons] at hz2
    have pt : ∀ y ∈ tl.map D.int, Pl 0 y := fun y hy => by
      obtain ⟨i, _, rfl⟩ := List.mem_map.mp hy
      exact .int 0 i
    have mem : (D.int t ∈ tl.map D.int) ↔ t ∈ tl := by
      constructor
      · intro hm
        obtain ⟨i, hi, e⟩ := List.mem_map.mp hm
        cases e
        exact hi
      · exact fun hm => List.mem_map.mpr ⟨t, hm, rfl⟩
    have skip : ¬ (t < 0 ∧ t ∉ tl) → M [x0, .own (.lst (tl.map D.int)), x2, .dat (.int t)] := fun n => by
      refine hM _ ⟨tl, r, _, rfl, rfl, ?_, by omega⟩
      rw [← ea]
      rw [addVars_cons, if_neg n]
    conv => whnf
    refine brI (fun h => ?_) (fun h => ?_)
    · have lt : t < 0 := by simpa using h
      conv => whnf
      refine notin_lst (.int 0 t) pt ?_
      conv => whnf
      refine brI (fun h2 => ?_) (fun h2 => ?_)
      · have ni : t ∉ tl := fun z => by
          have := mem.mpr z
          simp [this] at h2
        conv => whnf
        refine ⟨⟨_, rfl⟩, ?_⟩
        conv => whnf
        refine ⟨trivial, ?_⟩
        conv => whnf
        refine ⟨by rw [List.length_map]; exact sz_lt (by omega), ?_⟩
        conv => whnf
        refine hM _ ⟨tl ++ [t], r, _, rfl, by rw [List.map_append]; rfl, ?_, by rw [List.length_append, List.length_singleton]; omega⟩
        rw [← ea]
        rw [addVars_cons, if_pos ⟨lt, ni⟩]
      · have hin : D.int t ∈ tl.map D.int := by simpa using h2
        conv => whnf
        exact skip fun z => z.2 (mem.mp hin)
    · conv => whnf
      rw [brP_false]
      have ge : ¬ t < 0 := by simpa using h
      exact skip fun z => ge z.1
theorem vars_outer {A : AEnds} {x0 x2 x3 : AV} (rs : List Row) (ok : RowsOk rs) (h : ∀ x y, A.nx [x0, .own (.lst ((vars rs).map D.int)), x, y]) :
    forL (agName 2) law_variables_1_0 A (rs.map rowD) [x0, .own (.lst []), x2, x3] := by
  refine for_ind (Iv := fun items env => ∃ (tl : List Int) (us : List Row) (x y : AV), items = us.map rowD ∧ env = [x0, .own (.lst (tl.map D.int)), x, y] ∧ varsFrom tl us = vars rs ∧ (∀ r ∈ us, RowOk r) ∧ tl.length + 100 * us.length ≤ 100000) ?_ ?_ _ _ ⟨[], rs, x2, x3, rfl, rfl, rfl, ok.2, by have := ok.1; simp only [List.length_nil]; omega⟩
  · rintro env ⟨tl, us, x, y, e, rfl, ea, _, hz2⟩
    cases us with
    | cons u r => cases e
    | nil =>
      have e0 : varsFrom tl [] = tl := rfl
      rw [e0] at ea
      rw [ea]
      exact h x y
  · rintro d ds env M hM ⟨tl, us, x, y, e, rfl, ea, hok, hz2⟩
    obtain ⟨r, q, rfl, rfl, rfl⟩ := map_cons_inv e.symm
    rw [List.length_cons] at hz2
    have rok := hok r List.mem_cons_self
    have al := addVars_len tl r.2
    have l100 := rok.2
    conv => whnf
    refine ix_tup (by omega) rfl ?_
    conv => whnf
    intro _
    refine vars_inner tl r.2 y (by omega) fun x => hM _ ⟨addVars tl r.2, q, _, _, rfl, rfl, ?_, fun z hz => hok z (List.mem_cons_of_mem _ hz), by omega⟩
    rw [← ea]
    rfl
theorem p_law_variables : BodyOk 1 4 B_law_variables a_law_variables S_law_variables := by
  rintro _ R ⟨row, rs, rfl, hi, ok, k⟩
  refine ⟨rfl, ownN (ds := [_]), ?_⟩
  rcases seq_items hi with rfl | rfl <;>
  · conv => whnf
    refine ⟨Nat.zero_le _, ?_⟩
    conv => whnf
    intro _
    refine vars_outer rs ok fun x y => ?_
    conv => whnf
    exact ⟨rfl, new_ _, k⟩
theorem use_variables {env : AEnv} {row : D} (rs : List Row) {R : RV → AEnv → Prop} (hi : seqOf row = some (rs.map rowD)) (ok : RowsOk rs) (k : R (.new (.lst ((vars rs).map D.int))) env) : callR S_law_variables [.dat row] env R :=
  call_dats [row] ⟨row, rs, rfl, hi, ok, k⟩
end AL
namespace AL
open PySem L2
/-! P6: the object. -/
section
variable {C : Addr} {t : Tree}
theorem fldD_eq {f : Str} {ns : List Str} {l : List D} : fldD C f (.obj C ns l) = (ns.zip l).lookup f := if_pos rfl
theorem fld_rows : fldD C "rows" (objD C t) = some (.tup (t.rows.map rowD)) := by
  unfold objD
  rw [fldD_eq]
  rfl
theorem n_rn : (("nots" : Str) == "rows") = false := by decide +kernel
theorem n_sr : (("spans" : Str) == "rows") = false := by decide +kernel
theorem n_sn : (("spans" : Str) == "nots") = false := by decide +kernel
theorem n_wr : (("wide" : Str) == "rows") = false := by decide +kernel
theorem n_wn : (("wide" : Str) == "nots") = false := by decide +kernel
theorem n_ws : (("wide" : Str) == "spans") = false := by decide +kernel
theorem fld_nots : fldD C "nots" (objD C t) = some (.tup (t.nots.map rowD)) := by
  unfold objD
  rw [fldD_eq]
  simp [List.zip, List.zipWith, List.lookup, n_rn]
theorem fld_spans : fldD C "spans" (objD C t) = some (.dic (t.spans.map fun s => D.int s.1) (t.spans.map fun s => D.tup [.int s.2.1, .int s.2.2])) := by
  unfold objD
  rw [fldD_eq]
  simp [List.zip, List.zipWith, List.lookup, n_sr, n_sn]
theorem fld_wide : fldD C "wide" (objD C t) = some (tmD t.wide) := by
  unfold objD
  rw [fldD_eq]
  simp [List.zip, List.zipWith, List.lookup, n_wr, n_wn, n_ws]
end
theorem p_Body_variables {C : Addr} : BodyOk 1 4 B_Body_variables (a_Body_variables C) (S_Body_variables C) := by
  rintro _ R ⟨t, rfl, ok, k⟩
  refine ⟨rfl, ownN (ds := [_]), ?_⟩
  conv => whnf
  refine ⟨Nat.zero_le _, ?_⟩
  conv => whnf
  refine ⟨_, fld_rows, ?_⟩
  conv => whnf
  intro _
  refine vars_outer (A := { nx := _, rt := _ }) t.rows ok.rows fun x y => ?_
  conv => whnf
  exact ⟨rfl, new_ _, k⟩
theorem sz2 {a b : D} : [a, b].length ≤ sizeLine := sz_le (by simp)
theorem sz3 {a b c : D} : [a, b, c].length ≤ sizeLine := sz_le (by simp)
theorem sz4 {a b c d : D} : [a, b, c, d].length ≤ sizeLine := sz_le (by simp)
theorem m_rn : ¬ ("rows" : Str) = "nots" := by decide +kernel
theorem m_rs : ¬ ("rows" : Str) = "spans" := by decide +kernel
theorem m_ns : ¬ ("nots" : Str) = "spans" := by decide +kernel
theorem m_rw : ¬ ("rows" : Str) = "wide" := by decide +kernel
theorem m_nw : ¬ ("nots" : Str) = "wide" := by decide +kernel
theorem m_sw : ¬ ("spans" : Str) = "wide" := by decide +kernel
theorem oPut_len (f : Str) (d : D) : ∀ (ns : List Str) (l : List D), (oPut f d ns l).1.length ≤ ns.length + 1
  | [], _ => by simp [oPut]
  | g :: ns, [] => by simp [oPut]
  | g :: ns, u :: l => by
    unfold oPut
    split
    · simp
    · have := oPut_len f d ns l
      simpa using this
theorem p_Body_init {C : Addr} : BodyOk 5 5 B_Body_init (a_Body_init C) (S_Body_init C) := by
  rintro _ R ⟨a, b, c, e, rfl, k⟩
  refine ⟨rfl, own0 (ds := [_, _, _, _]) rfl, ?_⟩
  conv => whnf
  have e1 : oPut "rows" a [] [] = ((["rows"] : List Str), [a]) := rfl
  have e2 : oPut "nots" b ["rows"] [a] = ((["rows", "nots"] : List Str), [a, b]) := by simp [oPut, m_rn]
  have e3 : oPut "spans" c ["rows", "nots"] [a, b] = ((["rows", "nots", "spans"] : List Str), [a, b, c]) := by simp [oPut, m_rs, m_ns]
  have e4 : oPut "wide" e ["rows", "nots", "spans"] [a, b, c] = ((["rows", "nots", "spans", "wide"] : List Str), [a, b, c, e]) := by simp [oPut, m_rw, m_nw, m_sw]
  refine ⟨rfl, by decide, ?_⟩
  rw [e1]
  conv => whnf
  refine ⟨rfl, by simp, ?_⟩
  rw [e2]
  conv => whnf
  refine ⟨rfl, by simp, ?_⟩
  rw [e3]
  conv => whnf
  refine ⟨rfl, by simp, ?_⟩
  rw [e4]
  exact k
theorem p_is_whole : BodyOk 1 1 B_is_whole a_is_whole S_is_whole := by
  rintro _ R ⟨i, rfl, k⟩
  refine ⟨rfl, ownN (ds := [_]), ?_⟩
  conv => whnf
  refine ⟨_, true, rfl, by decide +kernel, ?_⟩
  conv => whnf
  rw [brP_true]
  conv => whnf
  refine ⟨_, false, rfl, by decide +kernel, ?_⟩
  conv => whnf
  exact ⟨nat_ _, k⟩
theorem bnd_ge {t : Tree} {x : Int} (h : 0 ≤ x) : bnd t x = (x, x + 1) := by unfold bnd; rw [if_pos h]
theorem bnd_lt {t : Tree} {x : Int} (h : ¬ 0 ≤ x) : bnd t x = ((t.spans.find? fun s => s.1 == x).map fun s => (s.2.1, s.2.2)).getD (0, 1000) := by
  unfold bnd
  rw [if_neg h]
  cases t.spans.find? (fun s => s.1 == x) <;> rfl
theorem p_law_bounds : BodyOk 2 3 B_law_bounds a_law_bounds S_law_bounds := by
  rintro _ R ⟨t, x, rfl, ok, k⟩
  refine ⟨rfl, ownN (ds := [_, _]), ?_⟩
  conv => whnf
  refine brI (fun h => ?_) (fun h => ?_)
  · have ge : 0 ≤ x := by simpa using h
    rw [bnd_ge ge] at k
    conv => whnf
    refine ⟨trivial, ?_⟩
    conv => whnf
    refine ⟨trivial, ?_⟩
    conv => whnf
    exact ⟨sz2, nat_ _, k⟩
  · have lt : ¬ 0 ≤ x := by simpa using h
    rw [bnd_lt lt] at k
    conv => whnf
    refine ix_tup (by omega) rfl ?_
    conv => whnf
    intro _
    refine for_ind (Iv := fun items env => ∃ (us : List Span) (y : AV), items = us.map spD ∧ env = [.dat (treeD t), .dat (.int x), y] ∧ us.find? (fun s => s.1 == x) = t.spans.find? (fun s => s.1 == x)) ?_ ?_ _ _ ⟨t.spans, .un, rfl, rfl, rfl⟩
    · rintro env ⟨us, y, e, rfl, ef⟩
      cases us with
      | cons u r => cases e
      | nil =>
        rw [← ef] at k
        conv => whnf
        refine ⟨trivial, ?_⟩
        conv => whnf
        refine ⟨trivial, ?_⟩
        conv => whnf
        exact ⟨sz2, nat_ _, k⟩
    · rintro d ds env M hM ⟨us, y, e, rfl, ef⟩
      obtain ⟨s, q, rfl, rfl, rfl⟩ := map_cons_inv e.symm
      rw [List.find?_cons] at ef
      conv => whnf
      refine ix_tup (by omega) rfl ?_
      conv => whnf
      refine eq_int ?_
      conv => whnf
      refine brI (fun h2 => ?_) (fun h2 => ?_)
      · have e2 : s.1 = x := by simpa using h2
        have e3 : (s.1 == x) = true := by simpa using e2
        rw [e3] at ef
        rw [← ef] at k
        conv => whnf
        refine ix_tup (by omega) rfl ?_
        conv => whnf
        refine ⟨trivial, ?_⟩
        conv => whnf
        refine ix_tup (by omega) rfl ?_
        conv => whnf
        refine ⟨trivial, ?_⟩
        conv => whnf
        exact ⟨sz2, nat_ _, k⟩
      · have e2 : ¬ s.1 = x := by simpa using h2
        have e3 : (s.1 == x) = false := by simpa using e2
        rw [e3] at ef
        conv => whnf
        exact hM _ ⟨q, _, rfl, rfl, ef⟩
theorem use_bounds {env : AEnv} (t : Tree) (x : Int) {R : RV → AEnv → Prop} (ok : TreeOk t) (k : R (.dat (.tup [.int (bnd t x).1, .int (bnd t x).2])) env) : callR S_law_bounds [.dat (treeD t), .dat (.int x)] env R :=
  call_dats [treeD t, .int x] ⟨t, x, rfl, ok, k⟩
theorem get_spans {x : Int} : ∀ (us : List Span), dGet (us.map fun s => D.int s.1) (us.map fun s => D.tup [.int s.2.1, .int s.2.2]) (.int x) = (us.find? fun s => s.1 == x).map fun s => D.tup [.int s.2.1, .int s.2.2]
  | [] => rfl
  | s :: us => by
    simp only [List.map_cons, dGet, List.find?_cons]
    by_cases e : s.1 = x
    · have e3 : (s.1 == x) = true := by simpa using e
      rw [e3, if_pos (by rw [e])]
      rfl
    · have e3 : (s.1 == x) = false := by simpa using e
      rw [e3, if_neg (fun z => e (by injection z))]
      exact get_spans us
theorem p_Body_span {C : Addr} : BodyOk 2 2 B_Body_span (a_Body_span C) (S_Body_span C) := by
  rintro _ R ⟨t, x, rfl, ok, k⟩
  refine ⟨rfl, ownN (ds := [_, _]), ?_⟩
  conv => whnf
  refine brI (fun h => ?_) (fun h => ?_)
  · have ge : 0 ≤ x := by simpa using h
    rw [bnd_ge ge] at k
    conv => whnf
    refine ⟨trivial, ?_⟩
    conv => whnf
    refine ⟨trivial, ?_⟩
    conv => whnf
    exact ⟨sz2, nat_ _, k⟩
  · have lt : ¬ 0 ≤ x := by simpa using h
    rw [bnd_lt lt] at k
    conv => whnf
    refine ⟨_, fld_spans, ?_⟩
    refine ⟨trivial, ?_⟩
    conv => whnf
    refine ⟨trivial, ?_⟩
    conv => whnf
    refine ⟨trivial, ?_⟩
    conv => whnf
    refine ⟨sz2, ?_⟩
    conv => whnf
    refine ⟨rfl, ?_⟩
    rw [get_spans]
    conv => whnf
    cases e : t.spans.find? (fun s => s.1 == x) with
    | none =>
      rw [e] at k
      exact ⟨nat_ _, k⟩
    | some s =>
      rw [e] at k
      exact ⟨nat_ _, k⟩
end AL
namespace AL
open PySem L2
/-! P7: laid, lays. -/
theorem get_names {x : Int} : ∀ (ks is : List Int), dGet (ks.map D.int) (is.map D.int) (.int x) = (lk ks is x).map D.int
  | [], _ => rfl
  | k :: ks, [] => rfl
  | k :: ks, i :: is => by
    simp only [List.map_cons, dGet, lk]
    by_cases e : k = x
    · rw [if_pos e, if_pos (by rw [e])]
      rfl
    · rw [if_neg e, if_neg (fun z => e (by injection z))]
      exact get_names ks is
theorem lk_some {x : Int} : ∀ {ks is : List Int}, ks.length = is.length → x ∈ ks → ∃ i, lk ks is x = some i
  | [], _, _, h => by cases h
  | k :: ks, [], hl, _ => by simp at hl
  | k :: ks, i :: is, hl, h => by
    unfold lk
    by_cases e : k = x
    · rw [if_pos e]; exact ⟨i, rfl⟩
    · rw [if_neg e]
      refine lk_some (by simpa using hl) ?_
      rcases List.mem_cons.mp h with q | q
      · exact absurd q.symm e
      · exact q
theorem ix_names {ks is : List Int} {x : Int} {F : RV → Prop} (ok : NmOk ks is) (h : x ∈ ks) (f : F (.dat (.int ((lk ks is x).getD 0)))) : fIx (nmD ks is) (.int x) F := by
  obtain ⟨i, e⟩ := lk_some ok.len h
  refine ix_dic rfl (z := .int ((lk ks is x).getD 0)) ?_ f
  rw [get_names, e]
  rfl
theorem p_law_laid : BodyOk 2 3 B_law_laid a_law_laid S_law_laid := by
  rintro _ R ⟨ts, ks, is, rfl, ok, has, hz, k⟩
  refine ⟨rfl, ownN (ds := [_, _]), ?_⟩
  conv => whnf
  intro _
  refine ⟨noOwn_one (x := .un) rfl (fun e z => by cases z), sz_le (by rw [List.length_map]; omega), ?_⟩
  refine lc_ind (Ev := fun env => env = [.dat (tmD ts), .dat (nmD ks is), .un]) (Stp := fun y oz => ∃ t : Int, y = .int t ∧ oz = some (.int (img ks is t))) _ ?_ _ _ rfl ?_
  · rintro y hy _ K rfl hK
    obtain ⟨t, ht, rfl⟩ := List.mem_map.mp hy
    conv => whnf
    rw [brP_true]
    conv => whnf
    refine brI (fun h => ?_) (fun h => ?_)
    · have ge : 0 ≤ t := by simpa using h
      conv => whnf
      exact hK _ _ rfl ⟨t, rfl, by unfold img; rw [if_pos ge]⟩
    · have lt : ¬ 0 ≤ t := by simpa using h
      conv => whnf
      refine ix_names ok (has t ht (by omega)) ?_
      conv => whnf
      exact hK _ _ rfl ⟨t, rfl, by unfold img; rw [if_neg lt]⟩
  · rintro zs _ o rfl
    have ez := o.map (f := fun t => D.int (img ks is t)) fun t oz ⟨u, e1, e2⟩ => by
      cases e1
      exact e2
    conv => whnf
    refine ⟨nat_ _, ?_⟩
    have e : D.tup zs = tmD (laidT ts ks is) := by
      rw [ez]
      unfold tmD laidT
      rw [List.map_map]
      rfl
    rw [e]
    exact k
theorem p_laid : BodyOk 2 3 B_laid a_laid S_laid := p_law_laid
theorem use_laid {env : AEnv} (ts ks is : List Int) {R : RV → AEnv → Prop} (ok : NmOk ks is) (has : Has ks ts) (hz : ts.length ≤ 1000) (k : R (.dat (tmD (laidT ts ks is))) env) : callR S_law_laid [.dat (tmD ts), .dat (nmD ks is)] env R :=
  call_dats [tmD ts, nmD ks is] ⟨ts, ks, is, rfl, ok, has, hz, k⟩
theorem use_laid2 {env : AEnv} (ts ks is : List Int) {R : RV → AEnv → Prop} (ok : NmOk ks is) (has : Has ks ts) (hz : ts.length ≤ 1000) (k : R (.dat (tmD (laidT ts ks is))) env) : callR S_laid [.dat (tmD ts), .dat (nmD ks is)] env R := use_laid ts ks is ok has hz k
theorem tmD_pl (ts : List Int) : Pl 1 (tmD ts) := .tup fun d h => by
  obtain ⟨i, _, rfl⟩ := List.mem_map.mp h
  exact .int 0 i
theorem rowD_pl {r : Row} (ok : RowOk r) : Pl 2 (rowD r) := .tup fun d h => by
  simp only [List.mem_cons, List.not_mem_nil, or_false] at h
  rcases h with e | e
  · rw [e]; exact .str 1 ok.1
  · rw [e]; exact tmD_pl _
theorem rows_pl {rs : List Row} (ok : RowsOk rs) : ∀ x ∈ rs.map rowD, Pl 2 x := fun x h => by
  obtain ⟨r, hr, rfl⟩ := List.mem_map.mp h
  exact rowD_pl (ok.2 r hr)
theorem map_inj {xs ys : List Int} : xs.map D.int = ys.map D.int ↔ xs = ys := by
  constructor
  · intro h
    have := congrArg (List.map intOf) h
    rw [List.map_map, List.map_map] at this
    have e : (intOf ∘ D.int) = id := rfl
    rwa [e, List.map_id, List.map_id] at this
  · intro h; rw [h]
theorem tmD_inj {xs ys : List Int} : tmD xs = tmD ys ↔ xs = ys := by
  unfold tmD
  rw [D.tup.injEq]
  exact map_inj
theorem rowD_inj {r q : Row} : rowD r = rowD q ↔ r = q := by
  unfold rowD
  rw [D.tup.injEq, List.cons.injEq, List.cons.injEq, D.str.injEq, tmD_inj]
  constructor
  · rintro ⟨a, b, _⟩
    exact Prod.ext a b
  · intro h; rw [h]; exact ⟨rfl, rfl, rfl⟩
theorem row_mem {r : Row} {rs : List Row} : rowD r ∈ rs.map rowD ↔ r ∈ rs := by
  rw [List.mem_map]
  constructor
  · rintro ⟨q, h, e⟩
    rw [← rowD_inj.mp e]; exact h
  · exact fun h => ⟨r, h, rfl⟩
theorem all_bl {α : Type} {p : α → Bool} (xs : List α) : ∃ bs : List Bool, (xs.map fun a => D.bl (p a)) = bs.map D.bl ∧ bs.all id = xs.all p := ⟨xs.map p, by rw [List.map_map]; rfl, by rw [List.all_map]; rfl⟩
theorem p_law_lays : BodyOk 3 9 B_law_lays a_law_lays S_law_lays := by
  rintro _ R ⟨b, t, ks, is, rfl, bo, to, ok, hw, hr, k⟩
  refine ⟨rfl, ownN (ds := [_, _, _]), ?_⟩
  conv => whnf
  refine ⟨sz_le (by rw [List.length_map]; have := ok.sz; omega), ?_⟩
  refine for_ind (Iv := fun items env => ∃ (us : List Int) (x3 x4 x5 x6 x7 : AV), items = us.map D.int ∧ env = [.dat (treeD b), .dat (treeD t), .dat (nmD ks is), x3, x4, x5, x6, x7, .un] ∧ (∀ u ∈ us, u ∈ ks) ∧ ∀ u ∈ ks, u ∈ us ∨ within b t u ((lk ks is u).getD 0) = true) ?_ ?_ _ _ ⟨ks, .un, .un, .un, .un, .un, rfl, rfl, fun u h => h, fun u h => .inl h⟩
  · rintro env ⟨us, x3, x4, x5, x6, x7, e, rfl, _, all⟩
    cases us with
    | cons u r => cases e
    | nil =>
      have hall : (ks.all fun u => within b t u ((lk ks is u).getD 0)) = true := List.all_eq_true.mpr fun u hu => (all u hu).elim (fun z => by cases z) id
      conv => whnf
      refine ix_tup (by omega) rfl ?_
      conv => whnf
      refine ⟨trivial, ?_⟩
      conv => whnf
      refine ⟨trivial, ?_⟩
      conv => whnf
      refine use_laid b.wide ks is ok hw bo.wlen ?_
      conv => whnf
      refine ix_tup (by omega) rfl ?_
      conv => whnf
      refine ne_pl (tmD_pl _) (tmD_pl _) ?_
      conv => whnf
      refine brI (fun h => ?_) (fun h => ?_)
      · have ne : ¬ laidT b.wide ks is = t.wide := fun z => by
          rw [z] at h
          simp at h
        have el : lays b t ks is = false := by unfold lays; simp [ne]
        rw [el] at k
        conv => whnf
        exact ⟨nat_ _, k⟩
      · have eq : laidT b.wide ks is = t.wide := by
          have : tmD (laidT b.wide ks is) = tmD t.wide := by simpa using h
          exact tmD_inj.mp this
        have el : lays b t ks is = b.rows.all fun r => decide ((r.1, laidT r.2 ks is) ∈ t.rows) := by
          unfold lays
          rw [hall, Bool.true_and, decide_eq_true eq, Bool.true_and]
        rw [el] at k
        conv => whnf
        refine ix_tup (by omega) rfl ?_
        conv => whnf
        intro _
        refine ⟨noOwn_one (x := .un) rfl (fun e z => by cases z), sz_le (by rw [List.length_map]; have := bo.rows.1; omega), ?_⟩
        refine lc_ind (Ev := fun env => env = [.dat (treeD b), .dat (treeD t), .dat (nmD ks is), x3, x4, x5, x6, x7, .un]) (Stp := fun y oz => ∃ r, y = rowD r ∧ oz = some (.bl (decide ((r.1, laidT r.2 ks is) ∈ t.rows)))) _ ?_ _ _ rfl ?_
        · rintro y hy _ K rfl hK
          obtain ⟨r, hm, rfl⟩ := List.mem_map.mp hy
          have rok := bo.rows.2 r hm
          conv => whnf
          rw [brP_true]
          conv => whnf
          refine ix_tup (by omega) rfl ?_
          conv => whnf
          refine ⟨trivial, ?_⟩
          conv => whnf
          refine ix_tup (by omega) rfl ?_
          conv => whnf
          refine ⟨trivial, ?_⟩
          conv => whnf
          refine ⟨trivial, ?_⟩
          conv => whnf
          refine use_laid r.2 ks is ok (hr r hm) (by have := rok.2; omega) ?_
          conv => whnf
          refine ⟨trivial, ?_⟩
          conv => whnf
          refine ⟨sz2, ?_⟩
          conv => whnf
          refine ix_tup (by omega) rfl ?_
          conv => whnf
          refine in_tup (n := 2) (m := 2) (.tup (n := 1) fun d hd => ?_) (rows_pl to.rows) ?_
          · simp only [List.mem_cons, List.not_mem_nil, or_false] at hd
            rcases hd with e | e
            · rw [e]; exact .str 1 rok.1
            · rw [e]; exact tmD_pl _
          · conv => whnf
            refine hK _ _ rfl ⟨r, rfl, ?_⟩
            have : (D.tup [.str r.1, tmD (laidT r.2 ks is)] ∈ t.rows.map rowD) ↔ (r.1, laidT r.2 ks is) ∈ t.rows := row_mem (r := (r.1, laidT r.2 ks is))
            rw [decide_eq_decide.mpr this]
        · rintro zs _ o rfl
          have ez := o.map (f := fun r : Row => D.bl (decide ((r.1, laidT r.2 ks is) ∈ t.rows))) fun r oz ⟨q, e1, e2⟩ => by
            rw [rowD_inj.mp e1]
            exact e2
          obtain ⟨bs, e1, e2⟩ := all_bl (p := fun r : Row => decide ((r.1, laidT r.2 ks is) ∈ t.rows)) b.rows
          conv => whnf
          refine ⟨bs, by rw [ez, e1], ?_⟩
          rw [e2]
          conv => whnf
          exact ⟨nat_ _, k⟩
  · rintro d ds env M hM ⟨us, x3, x4, x5, x6, x7, e, rfl, hus, all⟩
    obtain ⟨u, q, rfl, rfl, rfl⟩ := map_cons_inv e.symm
    have hu := hus u List.mem_cons_self
    conv => whnf
    refine ⟨trivial, ?_⟩
    conv => whnf
    refine ⟨trivial, ?_⟩
    conv => whnf
    refine use_bounds b u bo ?_
    conv => whnf
    refine ⟨rfl, ?_⟩
    conv => whnf
    refine ⟨rfl, ?_⟩
    conv => whnf
    refine ⟨trivial, ?_⟩
    conv => whnf
    refine ix_names ok hu ?_
    conv => whnf
    refine ⟨trivial, ?_⟩
    conv => whnf
    refine use_bounds t _ to ?_
    conv => whnf
    refine ⟨rfl, ?_⟩
    conv => whnf
    refine ⟨rfl, ?_⟩
    conv => whnf
    have bad : within b t u ((lk ks is u).getD 0) = false → lays b t ks is = false := fun h => by
      unfold lays
      have : (ks.all fun u => within b t u ((lk ks is u).getD 0)) = false := by
        rw [List.all_eq_false]
        exact ⟨u, hu, by rw [h]; simp⟩
      rw [this, Bool.false_and]
    refine brI (fun h => ?_) (fun h => ?_)
    · have lt : (bnd t ((lk ks is u).getD 0)).1 < (bnd b u).1 := by simpa using h
      conv => whnf
      rw [brP_true]
      conv => whnf
      refine ⟨nat_ _, ?_⟩
      rw [bad (by unfold within; rw [decide_eq_false (by omega)]; simp)] at k
      exact k
    · have ge : ¬ (bnd t ((lk ks is u).getD 0)).1 < (bnd b u).1 := by simpa using h
      conv => whnf
      refine brI (fun h => ?_) (fun h => ?_)
      · have lt : (bnd b u).2 < (bnd t ((lk ks is u).getD 0)).2 := by simpa using h
        conv => whnf
        refine ⟨nat_ _, ?_⟩
        rw [bad (by unfold within; rw [Bool.and_comm, decide_eq_false (by omega)]; simp)] at k
        exact k
      · have ge2 : ¬ (bnd b u).2 < (bnd t ((lk ks is u).getD 0)).2 := by simpa using h
        conv => whnf
        refine hM _ ⟨q, _, _, _, _, _, rfl, rfl, fun v hv => hus v (List.mem_cons_of_mem _ hv), fun v hv => ?_⟩
        rcases all v hv with z | z
        · rcases List.mem_cons.mp z with z | z
          · refine .inr ?_
            rw [z]
            unfold within
            rw [decide_eq_true (by omega), decide_eq_true (by omega)]
            rfl
          · exact .inl z
        · exact .inr z
theorem use_lays {env : AEnv} (b t : Tree) (ks is : List Int) {R : RV → AEnv → Prop} (bo : TreeOk b) (to : TreeOk t) (ok : NmOk ks is) (hw : Has ks b.wide) (hr : ∀ r ∈ b.rows, Has ks r.2) (k : R (.dat (.bl (lays b t ks is))) env) : callR S_law_lays [.dat (treeD b), .dat (treeD t), .dat (nmD ks is)] env R :=
  call_dats [treeD b, treeD t, nmD ks is] ⟨b, t, ks, is, rfl, bo, to, ok, hw, hr, k⟩
end AL
namespace AL
open PySem L2
/-! P8: names, objects, downward. -/
theorem use_span {C : Addr} {env : AEnv} (t : Tree) (x : Int) {R : RV → AEnv → Prop} (ok : TreeOk t) (k : R (.dat (.tup [.int (bnd t x).1, .int (bnd t x).2])) env) : callR (S_Body_span C) [.dat (objD C t), .dat (.int x)] env R :=
  call_dats [objD C t, .int x] ⟨t, x, rfl, ok, k⟩
theorem p_is_within {C : Addr} : BodyOk 4 8 B_is_within (a_is_within C) (S_is_within C) := by
  rintro _ R ⟨b, t, x, y, rfl, bo, to, k⟩
  refine ⟨rfl, ownN (ds := [_, _, _, _]), ?_⟩
  conv => whnf
  refine ⟨trivial, ⟨_, _, rfl, by decide +kernel⟩, ?_⟩
  conv => whnf
  refine ⟨trivial, ?_⟩
  conv => whnf
  refine use_span b x bo ?_
  conv => whnf
  refine ⟨rfl, ?_⟩
  conv => whnf
  refine ⟨rfl, ?_⟩
  conv => whnf
  refine ⟨trivial, ⟨_, _, rfl, by decide +kernel⟩, ?_⟩
  conv => whnf
  refine ⟨trivial, ?_⟩
  conv => whnf
  refine use_span t y to ?_
  conv => whnf
  refine ⟨rfl, ?_⟩
  conv => whnf
  refine ⟨rfl, ?_⟩
  conv => whnf
  unfold within at k
  refine brI (fun h => ?_) (fun h => ?_)
  · rw [h, Bool.true_and] at k
    conv => whnf
    exact ⟨nat_ _, k⟩
  · rw [h, Bool.false_and] at k
    conv => whnf
    exact ⟨nat_ _, k⟩
theorem set_new {ks is : List Int} {x i : Int} {env : AEnv} {j : Nat} {N : AEnv → Prop} (e : env[j]? = some (.own (nmD ks is))) (nx : x ∉ ks) (hz : ks.length < 1000000) (h : N (env.set j (.own (nmD (ks ++ [x]) (is ++ [i]))))) : setAt j (.int x) (.int i) env N := by
  have nk : D.int x ∉ ks.map D.int := fun z => by
    obtain ⟨y, hy, e⟩ := List.mem_map.mp z
    cases e
    exact nx hy
  unfold setAt
  rw [e]
  refine ⟨rfl, by rw [List.length_map]; exact sz_lt (by omega), ?_⟩
  unfold dPutK dPutW
  rw [if_neg nk, if_neg nk]
  unfold nmD at h
  rw [List.map_append, List.map_append] at h
  exact h
theorem addVars_nodup : ∀ (ts : List Int) {told : List Int}, told.Nodup → (addVars told ts).Nodup
  | [], told, h => h
  | t :: ts, told, h => by
    rw [addVars_cons]
    by_cases c : t < 0 ∧ t ∉ told
    · rw [if_pos c]
      refine addVars_nodup ts ?_
      rw [List.nodup_append]
      exact ⟨h, List.nodup_cons.mpr ⟨by simp, List.nodup_nil⟩, fun a ha b hb e => by
        rw [List.mem_singleton] at hb
        rw [e, hb] at ha
        exact c.2 ha⟩
    · rw [if_neg c]
      exact addVars_nodup ts h
theorem varsFrom_nodup : ∀ (rs : List Row) {told : List Int}, told.Nodup → (varsFrom told rs).Nodup
  | [], told, h => h
  | r :: rs, told, h => varsFrom_nodup rs (addVars_nodup r.2 h)
theorem vars_nodup (rs : List Row) : (vars rs).Nodup := varsFrom_nodup rs List.nodup_nil
theorem addVars_neg : ∀ (ts : List Int) {told : List Int}, (∀ x ∈ told, x < 0) → ∀ x ∈ addVars told ts, x < 0
  | [], told, h => h
  | t :: ts, told, h => by
    rw [addVars_cons]
    by_cases c : t < 0 ∧ t ∉ told
    · rw [if_pos c]
      refine addVars_neg ts fun x hx => ?_
      rcases List.mem_append.mp hx with q | q
      · exact h x q
      · rw [List.mem_singleton] at q
        rw [q]; exact c.1
    · rw [if_neg c]
      exact addVars_neg ts h
theorem varsFrom_neg : ∀ (rs : List Row) {told : List Int}, (∀ x ∈ told, x < 0) → ∀ x ∈ varsFrom told rs, x < 0
  | [], told, h => h
  | r :: rs, told, h => varsFrom_neg rs (addVars_neg r.2 h)
theorem vars_neg (rs : List Row) : ∀ x ∈ vars rs, x < 0 := varsFrom_neg rs fun x h => by cases h
theorem addVars_sub : ∀ (ts : List Int) {told : List Int}, ∀ x ∈ told, x ∈ addVars told ts
  | [], told, x, h => h
  | t :: ts, told, x, h => by
    rw [addVars_cons]
    by_cases c : t < 0 ∧ t ∉ told
    · rw [if_pos c]
      exact addVars_sub ts x (List.mem_append.mpr (.inl h))
    · rw [if_neg c]
      exact addVars_sub ts x h
theorem addVars_has : ∀ (ts : List Int) {told : List Int}, Has (addVars told ts) ts
  | [], told => fun x h => by cases h
  | t :: ts, told => fun x h lt => by
    rw [addVars_cons]
    rcases List.mem_cons.mp h with e | e
    · refine addVars_sub ts x ?_
      rw [e]
      rw [e] at lt
      by_cases c : t < 0 ∧ t ∉ told
      · rw [if_pos c]; simp
      · rw [if_neg c]
        exact Classical.byContradiction fun z => c ⟨lt, z⟩
    · exact addVars_has ts x e lt
theorem varsFrom_sub : ∀ (rs : List Row) {told : List Int}, ∀ x ∈ told, x ∈ varsFrom told rs
  | [], told, x, h => h
  | r :: rs, told, x, h => varsFrom_sub rs x (addVars_sub r.2 x h)
theorem varsFrom_has : ∀ (rs : List Row) {told : List Int}, ∀ r ∈ rs, Has (varsFrom told rs) r.2
  | [], told, r, h => by cases h
  | q :: rs, told, r, h => by
    rcases List.mem_cons.mp h with e | e
    · rw [e]
      exact fun x hx lt => varsFrom_sub rs x (addVars_has q.2 x hx lt)
    · exact varsFrom_has rs r e
theorem vars_has (rs : List Row) : ∀ r ∈ rs, Has (vars rs) r.2 := varsFrom_has rs
theorem varsFrom_len : ∀ (rs : List Row) {told : List Int}, (∀ r ∈ rs, RowOk r) → (varsFrom told rs).length ≤ told.length + 100 * rs.length
  | [], told, _ => by show told.length ≤ _; omega
  | r :: rs, told, h => by
    have h1 := addVars_len told r.2
    have h2 := varsFrom_len rs (told := addVars told r.2) fun q hq => h q (List.mem_cons_of_mem _ hq)
    have h3 := (h r List.mem_cons_self).2
    show (varsFrom (addVars told r.2) rs).length ≤ _
    rw [List.length_cons]
    omega
theorem vars_len {rs : List Row} (ok : RowsOk rs) : (vars rs).length ≤ 100000 := by
  have := varsFrom_len rs (told := []) ok.2
  have h := ok.1
  unfold vars
  rw [List.length_nil] at this
  omega
theorem names_ok {b : Tree} (bo : TreeOk b) {is : List Int} (hl : is.length = (vars b.rows).length) : NmOk (vars b.rows) is := ⟨hl.symm, vars_nodup _, by have := vars_len bo.rows; omega, vars_neg _⟩
theorem range_D (n : Nat) : rangeD 0 n = (List.range' 0 n).map fun j : Nat => D.int (0 + (j : Int)) := by
  unfold rangeD
  rw [List.range_eq_range']
theorem p_law_names_of : BodyOk 2 5 B_law_names_of a_law_names_of S_law_names_of := by
  rintro _ R ⟨b, is, rfl, bo, hz, hl, k⟩
  refine ⟨rfl, ownN (ds := [_, _]), ?_⟩
  have vl := vars_len bo.rows
  have nd := vars_nodup b.rows
  generalize hv : vars b.rows = vs at *
  conv => whnf
  refine ix_tup (by omega) rfl ?_
  conv => whnf
  refine ⟨trivial, ?_⟩
  conv => whnf
  refine use_variables b.rows rfl bo.rows ?_
  rw [hv]
  conv => whnf
  refine ⟨trivial, ?_⟩
  conv => whnf
  refine ⟨⟨by omega, by rw [List.length_map]; omega⟩, ?_⟩
  conv in rangeD _ _ => rw [List.length_map, show ((vs.length : Int)).toNat = vs.length from rfl, range_D]
  refine for_ind (Iv := fun items env => ∃ (i m : Nat) (x : AV), items = (List.range' i m).map (fun j : Nat => D.int (0 + (j : Int))) ∧ i + m = vs.length ∧ env = [.dat (treeD b), .dat (tmD is), .own (.lst (vs.map D.int)), .own (nmD (vs.take i) (is.take i)), x]) ?_ ?_ _ _ ⟨0, vs.length, .un, rfl, by omega, rfl⟩
  · rintro env ⟨i, m, x, e, em, rfl⟩
    cases m with
    | succ m => cases e
    | zero =>
      have ei : i = vs.length := by omega
      rw [ei, List.take_length, ← hl, List.take_length]
      conv => whnf
      exact ⟨rfl, new_ _, k⟩
  · rintro d ds env M hM ⟨i, m, x, e, em, rfl⟩
    cases m with
    | zero => cases e
    | succ m =>
      cases e
      have li : i < vs.length := by omega
      have li2 : i < is.length := by omega
      have t0 : ((0 : Int) + (i : Int)).toNat = i := by omega
      conv => whnf
      refine ix_tup (z := .int is[i]) (by omega) (by rw [t0, List.getElem?_map, List.getElem?_eq_getElem li2]; rfl) ?_
      conv => whnf
      refine ix_lst (z := .int vs[i]) (by omega) (by rw [t0, List.getElem?_map, List.getElem?_eq_getElem li]; rfl) ?_
      conv => whnf
      refine set_new (ks := vs.take i) (is := is.take i) rfl (fun hm => ?_) (by rw [List.length_take]; omega) ?_
      · obtain ⟨j, hj, ej⟩ := List.mem_iff_getElem.mp hm
        rw [List.length_take] at hj
        rw [List.getElem_take] at ej
        have := (List.getElem_inj (h₀ := by omega) (h₁ := li) nd).mp ej
        omega
      · refine hM _ ⟨i + 1, m, .dat (.int (0 + (i : Int))), rfl, by omega, ?_⟩
        rw [List.take_succ, List.take_succ, List.getElem?_eq_getElem li, List.getElem?_eq_getElem li2]
        rfl
theorem use_names_of {env : AEnv} (b : Tree) (is : List Int) {R : RV → AEnv → Prop} (bo : TreeOk b) (hz : is.length ≤ 1000) (hl : is.length = (vars b.rows).length) (k : R (.new (nmD (vars b.rows) is)) env) : callR S_law_names_of [.dat (treeD b), .dat (tmD is)] env R :=
  call_dats [treeD b, tmD is] ⟨b, is, rfl, bo, hz, hl, k⟩
end AL
namespace AL
open PySem L2
/-! P9: objects made and told. -/
theorem set_dic {ks vs : List D} {x v : D} {env : AEnv} {j : Nat} {N : AEnv → Prop} (e : env[j]? = some (.own (.dic ks vs))) (hk : isKey x = true) (nx : x ∉ ks) (hz : ks.length < 1000000) (h : N (env.set j (.own (.dic (ks ++ [x]) (vs ++ [v]))))) : setAt j x v env N := by
  unfold setAt
  rw [e]
  refine ⟨hk, sz_lt (by omega), ?_⟩
  unfold dPutK dPutW
  rw [if_neg nx, if_neg nx]
  exact h
theorem p_law_object {C : Addr} : BodyOk 1 3 B_law_object (a_law_object C) (S_law_object C) := by
  rintro _ R ⟨t, rfl, ok, k⟩
  refine ⟨rfl, ownN (ds := [_]), ?_⟩
  conv => whnf
  refine ix_tup (by omega) rfl ?_
  conv => whnf
  intro _
  refine for_ind (Iv := fun items env => ∃ (pre us : List Span) (x : AV), items = us.map spD ∧ pre ++ us = t.spans ∧ env = [.dat (treeD t), .own (.dic (pre.map fun s => D.int s.1) (pre.map fun s => D.tup [.int s.2.1, .int s.2.2])), x]) ?_ ?_ _ _ ⟨[], t.spans, .un, rfl, rfl, rfl⟩
  · rintro env ⟨pre, us, x, e, ep, rfl⟩
    cases us with
    | cons u r => cases e
    | nil =>
      rw [List.append_nil] at ep
      subst ep
      conv => whnf
      refine ix_tup (by omega) rfl ?_
      conv => whnf
      refine ⟨trivial, ?_⟩
      conv => whnf
      refine ix_tup (by omega) rfl ?_
      conv => whnf
      refine ⟨trivial, ?_⟩
      conv => whnf
      refine ⟨trivial, ?_⟩
      conv => whnf
      refine ix_tup (by omega) rfl ?_
      conv => whnf
      refine ⟨trivial, ?_⟩
      conv => whnf
      refine call_lent 3 [_, _, _, _] rfl ⟨_, _, _, _, rfl, ?_⟩
      conv => whnf
      refine ⟨rfl, _, rfl, ?_⟩
      conv => whnf
      exact ⟨new_ _, k⟩
  · rintro d ds env M hM ⟨pre, us, x, e, ep, rfl⟩
    obtain ⟨s, q, rfl, rfl, rfl⟩ := map_cons_inv e.symm
    have ds := ok.desc
    rw [← ep, List.pairwise_append] at ds
    have sl := ok.slen
    rw [← ep, List.length_append, List.length_cons] at sl
    conv => whnf
    refine ix_tup (by omega) rfl ?_
    conv => whnf
    refine ⟨trivial, ?_⟩
    conv => whnf
    refine ix_tup (by omega) rfl ?_
    conv => whnf
    refine ⟨trivial, ?_⟩
    conv => whnf
    refine ⟨sz2, ?_⟩
    conv => whnf
    refine ix_tup (by omega) rfl ?_
    conv => whnf
    refine set_dic rfl rfl (fun hm => ?_) (by rw [List.length_map]; omega) ?_
    · obtain ⟨a, ha, ea⟩ := List.mem_map.mp hm
      have := ds.2.2 a ha s List.mem_cons_self
      injection ea with ea
      omega
    · refine hM _ ⟨pre ++ [s], q, .dat (spD s), rfl, by rw [List.append_assoc]; exact ep, ?_⟩
      rw [List.map_append, List.map_append]
      rfl
theorem use_object {C : Addr} {env : AEnv} (t : Tree) {R : RV → AEnv → Prop} (ok : TreeOk t) (k : R (.new (objD C t)) env) : callR (S_law_object C) [.dat (treeD t)] env R :=
  call_dats [treeD t] ⟨t, rfl, ok, k⟩
theorem find_span : ∀ {sp : List Span}, (sp.Pairwise fun a b => b.1 < a.1) → ∀ s ∈ sp, sp.find? (fun z => z.1 == s.1) = some s
  | [], _, s, h => by cases h
  | a :: sp, pw, s, h => by
    rw [List.find?_cons]
    rw [List.pairwise_cons] at pw
    rcases List.mem_cons.mp h with e | e
    · rw [e]; simp
    · have lt := pw.1 s e
      have : (a.1 == s.1) = false := by simp; omega
      rw [this]
      exact find_span pw.2 s e
theorem p_Body_tree {C : Addr} : BodyOk 1 3 B_Body_tree (a_Body_tree C) (S_Body_tree C) := by
  rintro _ R ⟨t, rfl, ok, k⟩
  refine ⟨rfl, ownN (ds := [_]), ?_⟩
  conv => whnf
  refine ⟨_, fld_spans, ?_⟩
  conv => whnf
  refine ⟨t.spans.map (·.1), by rw [List.map_map]; rfl, fun ns' pm pw => ?_⟩
  have en : ns' = t.spans.map (·.1) := by
    refine List.Perm.eq_of_pairwise (le := (· ≥ ·)) (fun a b _ _ h1 h2 => by omega) pw ?_ pm
    rw [List.pairwise_map]
    exact ok.desc.imp fun h => by omega
  rw [en]
  conv => whnf
  intro _
  refine ⟨noOwn_one (x := .un) rfl (fun e z => by cases z), sz_le (by rw [List.length_map, List.length_map]; have := ok.slen; omega), ?_⟩
  refine lc_ind (Ev := fun env => env = [.dat (objD C t), .un, .un]) (Stp := fun y oz => ∃ x : Int, y = .int x ∧ oz = some (((t.spans.find? fun z => z.1 == x).map spD).getD .non)) _ ?_ _ _ rfl ?_
  · rintro y hy _ K rfl hK
    obtain ⟨x, hx, rfl⟩ := List.mem_map.mp hy
    obtain ⟨s, hs, rfl⟩ := List.mem_map.mp hx
    have fs := find_span ok.desc s hs
    conv => whnf
    rw [brP_true]
    conv => whnf
    refine ⟨trivial, ?_⟩
    conv => whnf
    refine ⟨_, fld_spans, ?_⟩
    conv => whnf
    refine ix_dic (z := .tup [.int s.2.1, .int s.2.2]) rfl (by rw [get_spans, fs]; rfl) ?_
    conv => whnf
    refine ix_tup (by omega) rfl ?_
    conv => whnf
    refine ⟨trivial, ?_⟩
    conv => whnf
    refine ⟨_, fld_spans, ?_⟩
    conv => whnf
    refine ix_dic (z := .tup [.int s.2.1, .int s.2.2]) rfl (by rw [get_spans, fs]; rfl) ?_
    conv => whnf
    refine ix_tup (by omega) rfl ?_
    conv => whnf
    refine ⟨trivial, ?_⟩
    conv => whnf
    refine ⟨sz3, ?_⟩
    conv => whnf
    exact hK _ _ rfl ⟨s.1, rfl, by rw [fs]; rfl⟩
  · rintro zs _ o rfl
    have ez := o.map (f := fun x : Int => ((t.spans.find? fun z => z.1 == x).map spD).getD .non) fun x oz ⟨u, e1, e2⟩ => by
      injection e1 with e1
      rw [e1]
      exact e2
    have e : zs = t.spans.map spD := by
      rw [ez, List.map_map]
      refine List.map_congr_left fun s hs => ?_
      show ((t.spans.find? fun z => z.1 == s.1).map spD).getD .non = _
      rw [find_span ok.desc s hs]
      rfl
    rw [e]
    conv => whnf
    refine ⟨_, fld_rows, ?_⟩
    conv => whnf
    refine ⟨trivial, ?_⟩
    conv => whnf
    refine ⟨_, fld_nots, ?_⟩
    conv => whnf
    refine ⟨trivial, ?_⟩
    conv => whnf
    refine ⟨trivial, ?_⟩
    conv => whnf
    refine ⟨_, fld_wide, ?_⟩
    conv => whnf
    refine ⟨trivial, ?_⟩
    conv => whnf
    refine ⟨sz4, ?_⟩
    conv => whnf
    exact ⟨nat_ _, k⟩
end AL
namespace AL
open PySem L2
/-! P10: downward, names_from, is_fold, told, asks. -/
theorem p_law_downward : BodyOk 1 3 B_law_downward a_law_downward S_law_downward := by
  rintro _ R ⟨row, ts, rfl, hi, hz, k⟩
  refine ⟨rfl, ownN (ds := [_]), ?_⟩
  have zl : (ts.map D.int).length ≤ sizeLine := sz_le (by rw [List.length_map]; omega)
  rcases seq_items hi with rfl | rfl <;>
  · cases hi
    conv => whnf
    intro _
    refine ⟨noOwn_one (x := .un) rfl (fun e z => by cases z), zl, ?_⟩
    refine lc_ind (Ev := fun env => env = [.dat _, .un, .un]) (Stp := fun y oz => ∃ t : Int, y = .int t ∧ oz = some (.int (-t))) _ ?_ _ _ rfl ?_
    · rintro y hy _ K rfl hK
      obtain ⟨t, ht, rfl⟩ := List.mem_map.mp hy
      conv => whnf
      rw [brP_true]
      conv => whnf
      exact hK _ _ rfl ⟨t, rfl, rfl⟩
    · rintro zs _ o rfl
      have ez := o.map (f := fun t : Int => D.int (-t)) fun t oz ⟨u, e1, e2⟩ => by
        cases e1
        exact e2
      conv => whnf
      refine ⟨ts.map fun t => -t, by rw [ez, List.map_map]; rfl, fun ns pm pw => ?_⟩
      conv => whnf
      intro _
      have ln : ns.length = ts.length := by rw [pm.length_eq, List.length_map]
      refine ⟨noOwn_one (x := .un) rfl (fun e z => by cases z), sz_le (by rw [List.length_map]; omega), ?_⟩
      refine lc_ind (Ev := fun env => env = [.dat _, .un, .un]) (Stp := fun y oz => ∃ t : Int, y = .int t ∧ oz = some (.int (-t))) _ ?_ _ _ rfl ?_
      · rintro y hy _ K rfl hK
        obtain ⟨t, ht, rfl⟩ := List.mem_map.mp hy
        conv => whnf
        rw [brP_true]
        conv => whnf
        exact hK _ _ rfl ⟨t, rfl, rfl⟩
      · rintro zs2 _ o2 rfl
        have ez2 := o2.map (f := fun t : Int => D.int (-t)) fun t oz ⟨u, e1, e2⟩ => by
          cases e1
          exact e2
        have e : zs2 = (ns.map fun t => -t).map D.int := by rw [ez2, List.map_map]; rfl
        rw [e]
        conv => whnf
        refine ⟨new_ _, k _ ?_ ?_⟩
        · have := pm.map fun t : Int => -t
          rw [List.map_map] at this
          have e2 : ((fun t : Int => -t) ∘ fun t => -t) = id := funext fun t => Int.neg_neg t
          rwa [e2, List.map_id] at this
        · rw [List.pairwise_map]
          exact pw.imp fun h => by omega
theorem use_downward {env : AEnv} {row : D} (ts : List Int) {R : RV → AEnv → Prop} (hi : seqOf row = some (ts.map D.int)) (hz : ts.length ≤ 1000) (k : ∀ ts' : List Int, ts'.Perm ts → ts'.Pairwise (· ≥ ·) → R (.new (.lst (ts'.map D.int))) env) : callR S_law_downward [.dat row] env R :=
  call_dats [row] ⟨row, ts, rfl, hi, hz, k⟩
theorem zip_ints (xs ys : List Int) : zipD (xs.map D.int) (ys.map D.int) = (xs.zip ys).map fun p => D.tup [.int p.1, .int p.2] := by
  unfold zipD
  rw [List.zip_map, List.map_map]
  rfl
theorem p_names_from {C : Addr} : BodyOk 2 6 B_names_from (a_names_from C) (S_names_from C) := by
  rintro _ R ⟨b, is, rfl, bo, hz, k⟩
  refine ⟨rfl, ownN (ds := [_, _]), ?_⟩
  have vl := vars_len bo.rows
  have nd := vars_nodup b.rows
  conv => whnf
  refine ⟨trivial, ⟨_, _, rfl, by decide +kernel⟩, ?_⟩
  conv => whnf
  refine call_dats [_] ⟨b, rfl, bo, ?_⟩
  generalize hv : vars b.rows = vs at *
  conv => whnf
  refine ⟨_, true, rfl, by decide +kernel, ?_⟩
  conv => whnf
  refine brI (fun h => by cases h) (fun _ => ?_)
  conv => whnf
  refine ne_int ?_
  conv => whnf
  rw [List.length_map, List.length_map]
  refine brI (fun h => ?_) (fun h => ?_)
  · have ne : ¬ is.length = vs.length := by
      intro z
      rw [z] at h
      simp at h
    rw [if_neg ne] at k
    conv => whnf
    exact ⟨nat_ _, k⟩
  · have hl : is.length = vs.length := by
      have : ((is.length : Int) = (vs.length : Int)) := by simpa using h
      omega
    rw [if_pos hl] at k
    conv => whnf
    refine ⟨trivial, ?_⟩
    conv => whnf
    refine ⟨trivial, ?_⟩
    conv => whnf
    rw [zip_ints]
    refine for_ind (Iv := fun items env => ∃ (p1 p2 us ws : List Int) (x4 x5 : AV), items = (us.zip ws).map (fun p => D.tup [.int p.1, .int p.2]) ∧ p1 ++ us = vs ∧ p2 ++ ws = is ∧ us.length = ws.length ∧ env = [.dat (objD C b), .dat (tmD is), .dat (.lst (vs.map D.int)), .own (nmD p1 p2), x4, x5]) ?_ ?_ _ _ ⟨[], [], vs, is, .un, .un, rfl, rfl, rfl, hl.symm, rfl⟩
    · rintro env ⟨p1, p2, us, ws, x4, x5, e, e1, e2, el, rfl⟩
      cases us with
      | cons u r =>
        cases ws with
        | nil => cases el
        | cons v q => cases e
      | nil =>
        cases ws with
        | cons v q => cases el
        | nil =>
          rw [List.append_nil] at e1 e2
          subst e1
          subst e2
          conv => whnf
          exact ⟨rfl, new_ _, k⟩
    · rintro d ds env M hM ⟨p1, p2, us, ws, x4, x5, e, e1, e2, el, rfl⟩
      cases us with
      | nil => cases e
      | cons u r =>
        cases ws with
        | nil => cases el
        | cons v q =>
          cases e
          have nu : u ∉ p1 := fun z => by
            rw [← e1, List.nodup_append] at nd
            exact nd.2.2 u z u List.mem_cons_self rfl
          have lp : p1.length ≤ vs.length := by rw [← e1, List.length_append]; omega
          conv => whnf
          refine ⟨rfl, ?_⟩
          conv => whnf
          refine ⟨rfl, ?_⟩
          conv => whnf
          refine ⟨trivial, ?_⟩
          conv => whnf
          refine call_dats [_] ⟨v, rfl, ?_⟩
          conv => whnf
          refine brI (fun h => by cases h) (fun _ => ?_)
          conv => whnf
          refine set_new rfl nu (by omega) ?_
          refine hM _ ⟨p1 ++ [u], p2 ++ [v], r, q, .dat (.int u), .dat (.int v), rfl, by rw [List.append_assoc]; exact e1, by rw [List.append_assoc]; exact e2, by simpa using el, rfl⟩
theorem use_within {C : Addr} {env : AEnv} (b t : Tree) (x y : Int) {R : RV → AEnv → Prop} (bo : TreeOk b) (to : TreeOk t) (k : R (.dat (.bl (within b t x y))) env) : callR (S_is_within C) [.dat (objD C b), .dat (.int x), .dat (objD C t), .dat (.int y)] env R :=
  call_dats [objD C b, .int x, objD C t, .int y] ⟨b, t, x, y, rfl, bo, to, k⟩
theorem laidT_len (ts ks is : List Int) : (laidT ts ks is).length = ts.length := by unfold laidT; rw [List.length_map]
theorem p_is_fold {C : Addr} : BodyOk 3 7 B_is_fold (a_is_fold C) (S_is_fold C) := by
  rintro _ R ⟨b, t, is, rfl, bo, to, hz, hw, k⟩
  refine ⟨rfl, ownN (ds := [_, _, _]), ?_⟩
  have vl := vars_len bo.rows
  conv => whnf
  repeat (refine ⟨trivial, ?_⟩; conv => whnf)
  refine call_dats [_, _] ⟨b, is, rfl, bo, hz, ?_⟩
  by_cases hl : is.length = (vars b.rows).length
  · rw [if_pos hl]
    have ok := names_ok bo hl
    have hr := vars_has b.rows
    unfold foldV at k
    rw [decide_eq_true hl, Bool.true_and] at k
    generalize hv : vars b.rows = ks at *
    conv => whnf
    refine brI (fun h => by cases h) (fun _ => ?_)
    conv => whnf
    refine ⟨_, fld_wide, ?_⟩
    conv => whnf
    refine ⟨_, fld_wide, ?_⟩
    conv => whnf
    refine ne_int ?_
    conv => whnf
    rw [List.length_map, List.length_map]
    refine brI (fun h => ?_) (fun h => ?_)
    · have ne : ¬ b.wide.length = t.wide.length := by
        intro z
        rw [z] at h
        simp at h
      have el : lays b t ks is = false := by
        unfold lays
        have : ¬ laidT b.wide ks is = t.wide := fun z => ne (by rw [← z, laidT_len])
        simp [this]
      rw [el] at k
      conv => whnf
      exact ⟨nat_ _, k⟩
    · conv => whnf
      refine ⟨sz_le (by rw [List.length_map]; omega), ?_⟩
      refine ⟨noOwn_one (x := .un) rfl (fun e z => by cases z), sz_le (by rw [List.length_map]; omega), ?_⟩
      refine lc_ind (Ev := fun env => env = [.dat (objD C b), .dat (objD C t), .dat (tmD is), .dat (nmD ks is), .un, .un, .un]) (Stp := fun y oz => ∃ x : Int, y = .int x ∧ oz = some (.bl (within b t x ((lk ks is x).getD 0)))) _ ?_ _ _ rfl ?_
      · rintro y hy _ K rfl hK
        obtain ⟨x, hx, rfl⟩ := List.mem_map.mp hy
        conv => whnf
        rw [brP_true]
        conv => whnf
        repeat (refine ⟨trivial, ?_⟩; conv => whnf)
        refine ix_names ok hx ?_
        conv => whnf
        repeat (refine ⟨trivial, ?_⟩; conv => whnf)
        refine use_within b t x _ bo to ?_
        conv => whnf
        exact hK _ _ rfl ⟨x, rfl, rfl⟩
      · rintro zs _ o rfl
        have ez := o.map (f := fun x : Int => D.bl (within b t x ((lk ks is x).getD 0))) fun x oz ⟨u, e1, e2⟩ => by
          injection e1 with e1
          rw [e1]
          exact e2
        obtain ⟨bs, e1, e2⟩ := all_bl (p := fun x : Int => within b t x ((lk ks is x).getD 0)) ks
        conv => whnf
        refine ⟨bs, by rw [ez, e1], ?_⟩
        rw [e2]
        conv => whnf
        refine brI (fun h => ?_) (fun h => ?_)
        · have hf : (ks.all fun x => within b t x ((lk ks is x).getD 0)) = false := by simpa using h
          have el : lays b t ks is = false := by
            unfold lays
            rw [hf, Bool.false_and]
          rw [el] at k
          conv => whnf
          exact ⟨nat_ _, k⟩
        · have ht : (ks.all fun x => within b t x ((lk ks is x).getD 0)) = true := by simpa using h
          conv => whnf
          refine ⟨_, fld_wide, ?_⟩
          conv => whnf
          repeat (refine ⟨trivial, ?_⟩; conv => whnf)
          refine call_dats [tmD _, nmD _ _] ⟨b.wide, ks, is, rfl, ok, hw, bo.wlen, ?_⟩
          conv => whnf
          refine ⟨_, fld_wide, ?_⟩
          conv => whnf
          refine ne_pl (tmD_pl _) (tmD_pl _) ?_
          conv => whnf
          refine brI (fun h => ?_) (fun h => ?_)
          · have ne : ¬ laidT b.wide ks is = t.wide := fun z => by
              rw [z] at h
              simp at h
            have el : lays b t ks is = false := by unfold lays; simp [ne]
            rw [el] at k
            conv => whnf
            exact ⟨nat_ _, k⟩
          · have eq : laidT b.wide ks is = t.wide := by
              have : tmD (laidT b.wide ks is) = tmD t.wide := by simpa using h
              exact tmD_inj.mp this
            have el : lays b t ks is = b.rows.all fun r => decide ((r.1, laidT r.2 ks is) ∈ t.rows) := by
              unfold lays
              rw [ht, Bool.true_and, decide_eq_true eq, Bool.true_and]
            rw [el] at k
            conv => whnf
            refine ⟨_, fld_rows, ?_⟩
            conv => whnf
            intro _
            refine ⟨noOwn_two (x := .un) (y := .un) rfl (fun e z => by cases z) rfl (fun e z => by cases z), sz_le (by rw [List.length_map]; have := bo.rows.1; omega), ?_⟩
            refine lc_ind (Ev := fun env => env = [.dat (objD C b), .dat (objD C t), .dat (tmD is), .dat (nmD ks is), .un, .un, .un]) (Stp := fun y oz => ∃ r, y = rowD r ∧ oz = some (.bl (decide ((r.1, laidT r.2 ks is) ∈ t.rows)))) _ ?_ _ _ rfl ?_
            · rintro y hy _ K rfl hK
              obtain ⟨r, hm, rfl⟩ := List.mem_map.mp hy
              have rok := bo.rows.2 r hm
              conv => whnf
              refine ⟨rfl, ?_⟩
              conv => whnf
              refine ⟨rfl, ?_⟩
              conv => whnf
              rw [brP_true]
              conv => whnf
              repeat (refine ⟨trivial, ?_⟩; conv => whnf)
              refine call_dats [tmD _, nmD _ _] ⟨r.2, ks, is, rfl, ok, hr r hm, by have := rok.2; omega, ?_⟩
              conv => whnf
              repeat (refine ⟨trivial, ?_⟩; conv => whnf)
              refine ⟨sz2, ?_⟩
              conv => whnf
              refine ⟨_, fld_rows, ?_⟩
              conv => whnf
              refine in_tup (n := 2) (m := 2) (.tup (n := 1) fun d hd => ?_) (rows_pl to.rows) ?_
              · simp only [List.mem_cons, List.not_mem_nil, or_false] at hd
                rcases hd with e | e
                · rw [e]; exact .str 1 rok.1
                · rw [e]; exact tmD_pl _
              · conv => whnf
                refine hK _ _ rfl ⟨r, rfl, ?_⟩
                have : (D.tup [.str r.1, tmD (laidT r.2 ks is)] ∈ t.rows.map rowD) ↔ (r.1, laidT r.2 ks is) ∈ t.rows := row_mem (r := (r.1, laidT r.2 ks is))
                rw [decide_eq_decide.mpr this]
            · rintro zs _ o rfl
              have ez := o.map (f := fun r : Row => D.bl (decide ((r.1, laidT r.2 ks is) ∈ t.rows))) fun r oz ⟨q, e1, e2⟩ => by
                rw [rowD_inj.mp e1]
                exact e2
              obtain ⟨bs, e1, e2⟩ := all_bl (p := fun r : Row => decide ((r.1, laidT r.2 ks is) ∈ t.rows)) b.rows
              conv => whnf
              refine ⟨bs, by rw [ez, e1], ?_⟩
              rw [e2]
              conv => whnf
              exact ⟨nat_ _, k⟩
  · rw [if_neg hl]
    have ef : foldV b t is = false := by
      unfold foldV
      rw [decide_eq_false hl, Bool.false_and]
    rw [ef] at k
    conv => whnf
    refine brI (fun _ => ?_) (fun h => by cases h)
    conv => whnf
    rw [brP_true]
    conv => whnf
    exact ⟨nat_ _, k⟩
end AL
namespace AL
open PySem L2
/-! P11: told, asks, other, images. -/
theorem spD_pl (s : Span) : Pl 1 (spD s) := .tup fun d h => by
  simp only [List.mem_cons, List.not_mem_nil, or_false] at h
  rcases h with e | e | e <;> (rw [e]; exact .int 0 _)
theorem treeD_pl {t : Tree} (ok : TreeOk t) : Pl 4 (treeD t) := .tup fun d h => by
  simp only [List.mem_cons, List.not_mem_nil, or_false] at h
  rcases h with e | e | e | e <;> rw [e]
  · exact .tup fun d hd => rows_pl ok.rows d hd
  · exact .tup fun d hd => rows_pl ok.nots d hd
  · exact .tup fun d hd => by
      obtain ⟨s, _, rfl⟩ := List.mem_map.mp hd
      exact (spD_pl s).up (by omega)
  · exact (tmD_pl _).up (by omega)
theorem use_tree {C : Addr} {env : AEnv} (t : Tree) {R : RV → AEnv → Prop} (ok : TreeOk t) (k : R (.dat (treeD t)) env) : callR (S_Body_tree C) [.dat (objD C t)] env R :=
  call_dats [objD C t] ⟨t, rfl, ok, k⟩
theorem p_law_told {C : Addr} : BodyOk 4 7 B_law_told (a_law_told C) S_law_told := by
  rintro _ R ⟨b, t, is, rfl, bo, to, hz, hw, k⟩
  refine ⟨rfl, ownN (ds := [_, _, _, _]), ?_⟩
  conv => whnf
  repeat (refine ⟨trivial, ?_⟩; conv => whnf)
  refine use_object b bo ?_
  conv => whnf
  repeat (refine ⟨trivial, ?_⟩; conv => whnf)
  refine use_object t to ?_
  conv => whnf
  repeat (refine ⟨trivial, ?_⟩; conv => whnf)
  refine ⟨rfl, ?_⟩
  conv => whnf
  repeat (refine ⟨trivial, ?_⟩; conv => whnf)
  refine call_dats [_, _, _] ⟨b, t, is, rfl, bo, to, hz, hw, ?_⟩
  conv => whnf
  repeat (refine ⟨trivial, ?_⟩; conv => whnf)
  refine ⟨_, true, rfl, by decide +kernel, ?_⟩
  conv => whnf
  repeat (refine ⟨trivial, ?_⟩; conv => whnf)
  refine brI (fun h => by cases h) (fun _ => ?_)
  conv => whnf
  repeat (refine ⟨trivial, ?_⟩; conv => whnf)
  refine ne_bl ?_
  conv => whnf
  repeat (refine ⟨trivial, ?_⟩; conv => whnf)
  refine brI (fun h => by simp at h) (fun _ => ?_)
  conv => whnf
  repeat (refine ⟨trivial, ?_⟩; conv => whnf)
  refine ⟨⟨_, _, rfl, by decide +kernel⟩, ?_⟩
  conv => whnf
  repeat (refine ⟨trivial, ?_⟩; conv => whnf)
  refine use_tree b bo ?_
  conv => whnf
  repeat (refine ⟨trivial, ?_⟩; conv => whnf)
  refine eq_pl (treeD_pl bo) (treeD_pl bo) ?_
  conv => whnf
  repeat (refine ⟨trivial, ?_⟩; conv => whnf)
  refine brI (fun _ => ?_) (fun h => by simp at h)
  conv => whnf
  repeat (refine ⟨trivial, ?_⟩; conv => whnf)
  refine ⟨⟨_, _, rfl, by decide +kernel⟩, ?_⟩
  conv => whnf
  repeat (refine ⟨trivial, ?_⟩; conv => whnf)
  refine use_tree t to ?_
  conv => whnf
  repeat (refine ⟨trivial, ?_⟩; conv => whnf)
  refine eq_pl (treeD_pl to) (treeD_pl to) ?_
  conv => whnf
  repeat (refine ⟨trivial, ?_⟩; conv => whnf)
  rw [decide_eq_true rfl]
  exact ⟨nat_ _, k⟩
theorem use_told {env : AEnv} (b t : Tree) (is : List Int) (due : Bool) {R : RV → AEnv → Prop} (bo : TreeOk b) (to : TreeOk t) (hz : is.length ≤ 1000) (hw : Has (vars b.rows) b.wide) (hd : foldV b t is = due) (k : R (.dat (.bl true)) env) : callR S_law_told [.dat (treeD b), .dat (treeD t), .dat (tmD is), .dat (.bl due)] env R := by
  subst hd
  exact call_dats [treeD b, treeD t, tmD is, .bl _] ⟨b, t, is, rfl, bo, to, hz, hw, k⟩
theorem p_law_asks : BodyOk 3 3 B_law_asks a_law_asks S_law_asks := by
  rintro _ R ⟨b, t, is, rfl, bo, to, hz, hl, hw, k⟩
  refine ⟨rfl, ownN (ds := [_, _, _]), ?_⟩
  conv => whnf
  repeat (refine ⟨trivial, ?_⟩; conv => whnf)
  refine use_names_of b is bo hz hl ?_
  conv => whnf
  repeat (refine ⟨trivial, ?_⟩; conv => whnf)
  refine use_lays b t _ is bo to (names_ok bo hl) hw (vars_has _) ?_
  conv => whnf
  repeat (refine ⟨trivial, ?_⟩; conv => whnf)
  refine use_told b t is _ bo to hz hw ?_ ?_
  · unfold foldV
    rw [decide_eq_true hl, Bool.true_and]
  · conv => whnf
    repeat (refine ⟨trivial, ?_⟩; conv => whnf)
    exact ⟨nat_ _, k⟩
theorem use_asks {env : AEnv} (b t : Tree) (is : List Int) {R : RV → AEnv → Prop} (bo : TreeOk b) (to : TreeOk t) (hz : is.length ≤ 1000) (hl : is.length = (vars b.rows).length) (hw : Has (vars b.rows) b.wide) (k : R (.dat (.bl true)) env) : callR S_law_asks [.dat (treeD b), .dat (treeD t), .dat (tmD is)] env R :=
  call_dats [treeD b, treeD t, tmD is] ⟨b, t, is, rfl, bo, to, hz, hl, hw, k⟩
theorem sz1 {a : D} : [a].length ≤ sizeLine := sz_le (by simp)
/-! slices -/
theorem cut_to {α : Type} (xs : List α) (i : Nat) (h : i ≤ xs.length) : cutL xs none (some (i : Int)) = xs.take i := by
  unfold cutL
  rw [HT.sIx_none, HT.sIx_nat, Nat.min_eq_left h, Nat.sub_zero]
  rfl
theorem cut_from {α : Type} (xs : List α) (i : Nat) (h : i ≤ xs.length) : cutL xs (some (i : Int)) none = xs.drop i := by
  unfold cutL
  rw [HT.sIx_none, HT.sIx_nat, Nat.min_eq_left h]
  rw [List.take_of_length_le (by rw [List.length_drop]; omega)]
theorem cut_init {α : Type} (xs : List α) : cutL xs none (some (-1)) = xs.take (xs.length - 1) := by
  unfold cutL
  rw [HT.sIx_none]
  have : HT.sIx xs.length xs.length (some (-1)) = xs.length - 1 := by
    show (if (-1 : Int) < 0 then (-1 + (xs.length : Int)).toNat else min (-1 : Int).toNat xs.length) = _
    rw [if_pos (by omega)]
    omega
  rw [this, Nat.sub_zero]
  rfl
/-- one thing exchanged -/
def exch (xs : List Int) (i : Nat) (z : Int) : List Int := xs.take i ++ [z] ++ xs.drop (i + 1)
theorem exch_len (xs : List Int) (i : Nat) (z : Int) (h : i < xs.length) : (exch xs i z).length = xs.length := by
  unfold exch
  simp only [List.length_append, List.length_take, List.length_drop, List.length_singleton]
  omega
/-- the tuple made of a slice, one thing, a slice -/
theorem exch_D (xs : List Int) (i : Nat) (z : Int) (h : i < xs.length) : cutD (xs.map D.int) none (some (i : Int)) ++ [D.int z] ++ cutD (xs.map D.int) (some ((i : Int) + 1)) none = (exch xs i z).map D.int := by
  have e : ((i : Int) + 1) = ((i + 1 : Nat) : Int) := by omega
  rw [e, cutD_map, cutD_map, cut_to xs i (by omega), cut_from xs (i + 1) (by omega)]
  unfold exch
  rw [List.map_append, List.map_append]
  rfl
theorem toNat_eq {r : Int} (h : 0 ≤ r) : ∃ i : Nat, r = (i : Int) := ⟨r.toNat, by omega⟩
theorem p_law_other : BodyOk 3 6 B_law_other a_law_other S_law_other := by
  rintro _ R ⟨d, is, st, rfl, hd, hne, hst, hz, hz2, k⟩
  refine ⟨rfl, own0 (ds := [_, _]) rfl, ?_⟩
  have pos : 0 < is.length := List.length_pos_iff.mpr hne
  conv => whnf
  repeat (refine ⟨trivial, ?_⟩; conv => whnf)
  refine use_draw 0 rfl hd (by rw [List.length_map]; omega) (by rw [List.length_map]; omega) fun r d1 h1 h2 hd1 => ?_
  rw [List.length_map] at h2
  obtain ⟨i, rfl⟩ := toNat_eq h1
  have hi : i < is.length := by omega
  conv => whnf
  repeat (refine ⟨trivial, ?_⟩; conv => whnf)
  refine use_draw 0 rfl hd1 (by omega) (by omega) fun r2 d2 h3 h4 hd2 => ?_
  conv => whnf
  repeat (refine ⟨trivial, ?_⟩; conv => whnf)
  refine eq_int ?_
  conv => whnf
  repeat (refine ⟨trivial, ?_⟩; conv => whnf)
  refine brI (fun h => ?_) (fun h => ?_)
  · conv => whnf
    repeat (refine ⟨trivial, ?_⟩; conv => whnf)
    refine use_draw 0 rfl hd2 (by rw [List.length_map]; omega) (by rw [List.length_map]; omega) fun r3 d3 h5 h6 hd3 => ?_
    rw [List.length_map] at h6
    obtain ⟨j, rfl⟩ := toNat_eq h5
    have hj : j < is.length := by omega
    conv => whnf
    repeat (refine ⟨trivial, ?_⟩; conv => whnf)
    refine ix_tup (z := .int is[j]) (by omega) (by rw [Int.toNat_natCast, List.getElem?_map, List.getElem?_eq_getElem hj]; rfl) ?_
    conv => whnf
    repeat (refine ⟨trivial, ?_⟩; conv => whnf)
    refine ix_tup (z := .int is[i]) (by omega) (by rw [Int.toNat_natCast, List.getElem?_map, List.getElem?_eq_getElem hi]; rfl) ?_
    conv => whnf
    repeat (refine ⟨trivial, ?_⟩; conv => whnf)
    refine ⟨sz2, ?_⟩
    conv => whnf
    repeat (refine ⟨trivial, ?_⟩; conv => whnf)
    refine ⟨rfl, ?_⟩
    conv => whnf
    repeat (refine ⟨trivial, ?_⟩; conv => whnf)
    unfold setAt
    have ix : ∀ (m : Nat) (n : Nat), m < n → ixN n (m : Int) = some m := fun m n h => by
      unfold ixN
      rw [if_pos (by omega), if_pos (by omega)]
      rfl
    refine ⟨i, ix i _ (by rw [List.length_map]; exact hi), ?_⟩
    conv => whnf
    repeat (refine ⟨trivial, ?_⟩; conv => whnf)
    unfold setAt
    refine ⟨j, ix j _ (by rw [List.length_set, List.length_map]; exact hj), ?_⟩
    conv => whnf
    repeat (refine ⟨trivial, ?_⟩; conv => whnf)
    refine ⟨rfl, ?_⟩
    conv => whnf
    repeat (refine ⟨trivial, ?_⟩; conv => whnf)
    refine ⟨nat_ _, ?_⟩
    have e : ((is.map D.int).set i (D.int is[j])).set j (D.int is[i]) = ((is.set i is[j]).set j is[i]).map D.int := by
      rw [List.map_set, List.map_set]
    rw [e]
    exact k _ _ (by rw [List.length_set, List.length_set]) hd3
  · conv => whnf
    repeat (refine ⟨trivial, ?_⟩; conv => whnf)
    refine use_pick 0 (st.map D.int) rfl hd2 rfl (by simpa using hst) (by rw [List.length_map]; omega) fun z d3 mz hd3 => ?_
    obtain ⟨v, _, rfl⟩ := List.mem_map.mp mz
    conv => whnf
    repeat (refine ⟨trivial, ?_⟩; conv => whnf)
    refine ⟨sz1, ?_⟩
    conv => whnf
    repeat (refine ⟨trivial, ?_⟩; conv => whnf)
    have lc : (cutD (is.map D.int) none (some (i : Int))).length ≤ 900 := Nat.le_trans (cutD_len _ _ _) (by rw [List.length_map]; exact hz)
    have ld : (cutD (is.map D.int) (some ((i : Int) + 1)) none).length ≤ 900 := Nat.le_trans (cutD_len _ _ _) (by rw [List.length_map]; exact hz)
    refine ⟨sz_le (by show _ + 1 ≤ _; omega), ?_⟩
    conv => whnf
    repeat (refine ⟨trivial, ?_⟩; conv => whnf)
    refine ⟨sz_le (by rw [List.length_append]; show _ + 1 + _ ≤ _; omega), ?_⟩
    conv => whnf
    repeat (refine ⟨trivial, ?_⟩; conv => whnf)
    refine ⟨nat_ _, ?_⟩
    have e := exch_D is i v hi
    show R (.dat (.tup (cutD (is.map D.int) none (some (i : Int)) ++ [D.int v] ++ cutD (is.map D.int) (some ((i : Int) + 1)) none))) _
    rw [e]
    exact k _ _ (exch_len is i v hi) hd3
theorem use_other {env : AEnv} (j : Nat) {d : D} (is st : List Int) {R : RV → AEnv → Prop} (e : env[j]? = some (.own d)) (hd : Dr d) (hne : is ≠ []) (hst : st ≠ []) (hz : is.length ≤ 900) (hz2 : st.length ≤ 200000) (k : ∀ (is' : List Int) d', is'.length = is.length → Dr d' → R (.dat (tmD is')) (env.set j (.own d'))) : callR S_law_other [.at j, .dat (tmD is), .dat (.lst (st.map D.int))] env R :=
  call_lent j [tmD is, .lst (st.map D.int)] e ⟨d, is, st, rfl, hd, hne, hst, hz, hz2, fun a b c e => k a b c e⟩
end AL
namespace AL
open PySem L2
/-! P12: images. -/
theorem addVars_in : ∀ (ts : List Int) {told : List Int}, ∀ x ∈ addVars told ts, x ∈ told ∨ x ∈ ts
  | [], told, x, h => .inl h
  | t :: ts, told, x, h => by
    rw [addVars_cons] at h
    rcases addVars_in ts x h with q | q
    · by_cases c : t < 0 ∧ t ∉ told
      · rw [if_pos c] at q
        rcases List.mem_append.mp q with w | w
        · exact .inl w
        · rw [List.mem_singleton] at w
          exact .inr (by rw [w]; exact List.mem_cons_self)
      · rw [if_neg c] at q
        exact .inl q
    · exact .inr (List.mem_cons_of_mem _ q)
theorem varsFrom_in : ∀ (rs : List Row) {told : List Int}, ∀ x ∈ varsFrom told rs, x ∈ told ∨ ∃ r ∈ rs, x ∈ r.2
  | [], told, x, h => .inl h
  | r :: rs, told, x, h => by
    rcases varsFrom_in rs x h with q | ⟨s, hs, q⟩
    · rcases addVars_in r.2 x q with w | w
      · exact .inl w
      · exact .inr ⟨r, List.mem_cons_self, w⟩
    · exact .inr ⟨s, List.mem_cons_of_mem _ hs, q⟩
theorem vars_in {rs : List Row} {x : Int} (h : x ∈ vars rs) : ∃ r ∈ rs, x ∈ r.2 := (varsFrom_in rs x h).elim (fun z => by cases z) id
theorem lk_at : ∀ {ks is : List Int} (i : Nat) (h1 : i < ks.length) (h2 : i < is.length), ks.Nodup → lk ks is ks[i] = some is[i]
  | k :: ks, j :: is, 0, _, _, _ => by
    show (if k = k then some j else _) = _
    rw [if_pos rfl]
    rfl
  | k :: ks, j :: is, i + 1, h1, h2, nd => by
    rw [List.nodup_cons] at nd
    have h1' : i < ks.length := by simpa using h1
    have ne : ¬ k = ks[i] := fun e => nd.1 (e ▸ List.getElem_mem h1')
    show (if k = ks[i] then some j else lk ks is ks[i]) = _
    rw [if_neg ne]
    exact lk_at i h1' (by simpa using h2) nd.2
theorem exch_at (xs : List Int) (i : Nat) (z : Int) (h : i < xs.length) : (exch xs i z)[i]'(by rw [exch_len xs i z h]; exact h) = z := by
  unfold exch
  rw [List.getElem_append_left (by simp only [List.length_append, List.length_take, List.length_singleton]; omega), List.getElem_append_right (by rw [List.length_take]; omega)]
  simp [List.length_take]
/-- a great negative image fits no row -/
theorem big_no {b t : Tree} {is : List Int} (p : PairOk b t is) {i : Nat} (hi : i < is.length) : foldV b t (exch is i (-1000000007)) = false := by
  have hl := exch_len is i (-1000000007) hi
  have nd := vars_nodup b.rows
  have ik : i < (vars b.rows).length := by rw [← p.len]; exact hi
  unfold foldV lays
  have : (b.rows.all fun r => decide ((r.1, laidT r.2 (vars b.rows) (exch is i (-1000000007))) ∈ t.rows)) = false := by
    rw [List.all_eq_false]
    obtain ⟨r, hr, hx⟩ := vars_in (List.getElem_mem ik)
    refine ⟨r, hr, fun h => ?_⟩
    have hm := of_decide_eq_true h
    have lt : ¬ 0 ≤ (vars b.rows)[i] := by have := vars_neg _ _ (List.getElem_mem ik); omega
    have e : img (vars b.rows) (exch is i (-1000000007)) (vars b.rows)[i] = -1000000007 := by
      unfold img
      rw [if_neg lt, lk_at i ik (by rw [hl]; exact hi) nd, exch_at is i _ hi]
      rfl
    have := p.big _ hm (-1000000007) (List.mem_map.mpr ⟨_, hx, e⟩)
    omega
  rw [this]
  simp
theorem short_no {b t : Tree} {is : List Int} (h : ¬ is.length = (vars b.rows).length) : foldV b t is = false := by
  unfold foldV
  rw [decide_eq_false h, Bool.false_and]
theorem p_law_images : BodyOk 4 7 B_law_images a_law_images S_law_images := by
  rintro _ R ⟨d, b, t, is, rfl, hd, p, k⟩
  refine ⟨rfl, own0 (ds := [_, _, _]) rfl, ?_⟩
  have vl := vars_len p.to.rows
  have hz := p.sz
  conv => whnf
  repeat (refine ⟨trivial, ?_⟩; conv => whnf)
  refine ix_tup (by omega) rfl ?_
  conv => whnf
  repeat (refine ⟨trivial, ?_⟩; conv => whnf)
  refine use_variables t.rows rfl p.to.rows ?_
  conv => whnf
  repeat (refine ⟨trivial, ?_⟩; conv => whnf)
  refine ⟨sz2, ?_⟩
  conv => whnf
  repeat (refine ⟨trivial, ?_⟩; conv => whnf)
  refine ⟨sz_le (by rw [List.length_map]; show _ + 2 ≤ _; omega), ?_⟩
  conv => whnf
  repeat (refine ⟨trivial, ?_⟩; conv => whnf)
  refine use_asks b t is p.bo p.to (by omega) p.len p.wide ?_
  conv => whnf
  repeat (refine ⟨trivial, ?_⟩; conv => whnf)
  refine brI (fun h => by cases h) (fun _ => ?_)
  conv => whnf
  repeat (refine ⟨trivial, ?_⟩; conv => whnf)
  refine ⟨sz1, ?_⟩
  conv => whnf
  repeat (refine ⟨trivial, ?_⟩; conv => whnf)
  refine ⟨sz_le (by rw [List.length_map]; show _ + 1 ≤ _; omega), ?_⟩
  conv => whnf
  repeat (refine ⟨trivial, ?_⟩; conv => whnf)
  have e50 : D.tup (is.map D.int ++ [D.int 50]) = tmD (is ++ [50]) := by unfold tmD; rw [List.map_append]; rfl
  show callR S_law_told [.dat (treeD b), .dat (treeD t), .dat (.tup (is.map D.int ++ [D.int 50])), .dat (.bl false)] _ _
  rw [e50]
  refine use_told b t _ _ p.bo p.to (by rw [List.length_append, List.length_singleton]; omega) p.wide (short_no (by rw [List.length_append, List.length_singleton, p.len]; omega)) ?_
  conv => whnf
  repeat (refine ⟨trivial, ?_⟩; conv => whnf)
  refine brI (fun h => by cases h) (fun _ => ?_)
  conv => whnf
  repeat (refine ⟨trivial, ?_⟩; conv => whnf)
  refine eq_int ?_
  conv => whnf
  repeat (refine ⟨trivial, ?_⟩; conv => whnf)
  rw [List.length_map]
  refine brI (fun h => ?_) (fun h => ?_)
  · conv => whnf
    repeat (refine ⟨trivial, ?_⟩; conv => whnf)
    exact ⟨nat_ _, k _ hd⟩
  · have pos : 0 < is.length := by
      rcases Nat.eq_zero_or_pos is.length with z | z
      · rw [z] at h
        simp at h
      · exact z
    conv => whnf
    repeat (refine ⟨trivial, ?_⟩; conv => whnf)
    rw [cutD_map, cut_init]
    refine use_told b t (is.take (is.length - 1)) _ p.bo p.to (by rw [List.length_take]; omega) p.wide (short_no (by rw [List.length_take, p.len]; rw [p.len] at pos; omega)) ?_
    conv => whnf
    repeat (refine ⟨trivial, ?_⟩; conv => whnf)
    refine brI (fun h => by cases h) (fun _ => ?_)
    conv => whnf
    repeat (refine ⟨trivial, ?_⟩; conv => whnf)
    refine ⟨⟨by omega, by omega⟩, ?_⟩
    refine for_ind (Iv := fun items env => ∃ (d' : D) (x4 x5 : AV), (x4 = .own (.lst ((vars t.rows).map D.int ++ [D.int 50, D.int 150])) ∨ x4 = .dat (.lst ((vars t.rows).map D.int ++ [D.int 50, D.int 150]))) ∧ env = [.own d', .dat (treeD b), .dat (treeD t), .dat (tmD is), x4, x5, .un] ∧ Dr d') ?_ ?_ _ _ ⟨d, _, .un, .inl rfl, rfl, hd⟩
    · rintro env ⟨d', x4, x5, _, rfl, hd'⟩
      conv => whnf
      repeat (refine ⟨trivial, ?_⟩; conv => whnf)
      refine use_draw 0 rfl hd' (by rw [List.length_map]; omega) (by rw [List.length_map]; omega) fun r d2 h1 h2 hd2 => ?_
      rw [List.length_map] at h2
      obtain ⟨i, rfl⟩ := toNat_eq h1
      have hi : i < is.length := by omega
      have lc : (cutD (is.map D.int) none (some (i : Int))).length ≤ 900 := Nat.le_trans (cutD_len _ _ _) (by rw [List.length_map]; exact hz)
      have ld : (cutD (is.map D.int) (some ((i : Int) + 1)) none).length ≤ 900 := Nat.le_trans (cutD_len _ _ _) (by rw [List.length_map]; exact hz)
      conv => whnf
      repeat (refine ⟨trivial, ?_⟩; conv => whnf)
      refine ⟨sz1, ?_⟩
      conv => whnf
      repeat (refine ⟨trivial, ?_⟩; conv => whnf)
      refine ⟨sz_le (by show _ + 1 ≤ _; omega), ?_⟩
      conv => whnf
      repeat (refine ⟨trivial, ?_⟩; conv => whnf)
      refine ⟨sz_le (by rw [List.length_append]; show _ + 1 + _ ≤ _; omega), ?_⟩
      conv => whnf
      repeat (refine ⟨trivial, ?_⟩; conv => whnf)
      show callR S_law_told [.dat (treeD b), .dat (treeD t), .dat (.tup (cutD (is.map D.int) none (some (i : Int)) ++ [D.int (-1000000007)] ++ cutD (is.map D.int) (some ((i : Int) + 1)) none)), .dat (.bl false)] _ _
      rw [exch_D is i _ hi]
      refine use_told b t (exch is i (-1000000007)) _ p.bo p.to (by rw [exch_len _ _ _ hi]; omega) p.wide (big_no p hi) ?_
      conv => whnf
      repeat (refine ⟨trivial, ?_⟩; conv => whnf)
      exact ⟨nat_ _, k _ hd2⟩
    · rintro y ds env M hM ⟨d', x4, x5, hx, rfl, hd'⟩
      have est : (vars t.rows).map D.int ++ [D.int 50, D.int 150] = (vars t.rows ++ [50, 150]).map D.int := by rw [List.map_append]; rfl
      rcases hx with rfl | rfl <;>
      · conv => whnf
        repeat (refine ⟨trivial, ?_⟩; conv => whnf)
        rw [est]
        refine use_other 0 is (vars t.rows ++ [50, 150]) rfl hd' (List.length_pos_iff.mp pos) (by simp) (by omega) (by rw [List.length_append]; show _ + 2 ≤ _; omega) fun is' d2 hl hd2 => ?_
        conv => whnf
        repeat (refine ⟨trivial, ?_⟩; conv => whnf)
        refine use_asks b t is' p.bo p.to (by omega) (by rw [hl]; exact p.len) p.wide ?_
        conv => whnf
        repeat (refine ⟨trivial, ?_⟩; conv => whnf)
        refine brI (fun h => by cases h) (fun _ => ?_)
        conv => whnf
        repeat (refine ⟨trivial, ?_⟩; conv => whnf)
        exact hM _ ⟨d2, _, _, .inr (by rw [est]), rfl, hd2⟩
theorem use_images {env : AEnv} (j : Nat) {d : D} (b t : Tree) (is : List Int) {R : RV → AEnv → Prop} (e : env[j]? = some (.own d)) (hd : Dr d) (p : PairOk b t is) (k : ∀ d', Dr d' → R (.dat (.bl true)) (env.set j (.own d'))) : callR S_law_images [.at j, .dat (treeD b), .dat (treeD t), .dat (tmD is)] env R :=
  call_lent j [treeD b, treeD t, tmD is] e ⟨d, b, t, is, rfl, hd, p, fun d' h => k d' h⟩
end AL
namespace AL
open PySem L2
/-! P13: trees. -/
theorem spD_inj {s q : Span} : spD s = spD q ↔ s = q := by
  unfold spD
  constructor
  · intro h
    injection h with h
    injection h with h1 h
    injection h with h2 h
    injection h with h3 h
    injection h1 with h1
    injection h2 with h2
    injection h3 with h3
    exact Prod.ext h1 (Prod.ext h2 h3)
  · intro h; rw [h]
theorem sub_ok {rs rs' : List Row} (ok : RowsOk rs) (h : ∀ r ∈ rs', r ∈ rs) (hl : rs'.length ≤ rs.length) : RowsOk rs' := ⟨Nat.le_trans hl ok.1, fun r hr => ok.2 r (h r hr)⟩
/-- a filter of spans by a test of the first number -/
theorem span_filter {T : AT'} {p : Span → Bool} {x0 x1 x2 x3 x4 x5 x6 x7 x8 x9 x10 x11 x12 : AV} (hT : ∀ (s : Span) (R : Bool → AEnv → Prop), R (p s) [x0, x1, x2, x3, x4, x5, x6, x7, x8, x9, x10, x11, x12, .dat (spD s)] → T [x0, x1, x2, x3, x4, x5, x6, x7, x8, x9, x10, x11, x12, .dat (spD s)] R)
    (us : List Span) {R : List D → AEnv → Prop} (k : R ((us.filter p).map spD) [x0, x1, x2, x3, x4, x5, x6, x7, x8, x9, x10, x11, x12, .un]) : lcL (agName 13) T (aVar 13) [13] (us.map spD) R [x0, x1, x2, x3, x4, x5, x6, x7, x8, x9, x10, x11, x12, .un] := by
  refine lc_ind (Ev := fun env => env = [x0, x1, x2, x3, x4, x5, x6, x7, x8, x9, x10, x11, x12, .un]) (Stp := fun y oz => ∃ s, y = spD s ∧ oz = if p s then some (spD s) else none) _ ?_ _ _ rfl ?_
  · rintro y hy _ K rfl hK
    obtain ⟨s, hs, rfl⟩ := List.mem_map.mp hy
    refine hT s _ ?_
    refine brI (fun h => ?_) (fun h => ?_)
    · conv => whnf
      repeat (refine ⟨trivial, ?_⟩; conv => whnf)
      exact hK _ _ rfl ⟨s, rfl, by rw [h]; rfl⟩
    · exact hK _ _ rfl ⟨s, rfl, by rw [h]; rfl⟩
  · rintro zs _ o rfl
    have ez := o.filter (p := p) fun s oz ⟨q, e1, e2⟩ => by
      rw [spD_inj.mp e1]
      exact e2
    rw [ez]
    exact k
/-- the spans with one exchanged, and set in order -/
def sp1 (b : Tree) (u a c : Int) : List Span := (b.spans.filter fun s => !decide (s.1 = u)) ++ [(u, a, c)]
def sp2 (b : Tree) (u a c : Int) : List Span := (((sp1 b u a c).filter fun s => decide (u < s.1)) ++ ((sp1 b u a c).filter fun s => decide (s.1 = u))) ++ ((sp1 b u a c).filter fun s => decide (s.1 < u))
theorem sp2_ok {b : Tree} (ok : TreeOk b) (hl : b.spans.length ≤ 900) (u a c : Int) : TreeOk ⟨b.rows, b.nots, sp2 b u a c, b.wide⟩ := by
  have lf : (b.spans.filter fun s => !decide (s.1 = u)).length ≤ b.spans.length := List.length_filter_le _ _
  have mid : ((sp1 b u a c).filter fun s => decide (s.1 = u)) = [(u, a, c)] := by
    unfold sp1
    rw [List.filter_append, List.filter_filter]
    have : (b.spans.filter fun s => decide (s.1 = u) && !decide (s.1 = u)) = [] := by
      rw [List.filter_eq_nil_iff]
      intro s _
      cases decide (s.1 = u) <;> simp
    rw [this]
    simp
  have up : ((sp1 b u a c).filter fun s => decide (u < s.1)).Sublist b.spans := by
    unfold sp1
    rw [List.filter_append]
    have : ([(u, a, c)] : List Span).filter (fun s => decide (u < s.1)) = [] := by simp
    rw [this, List.append_nil]
    exact List.filter_sublist.trans List.filter_sublist
  have dn : ((sp1 b u a c).filter fun s => decide (s.1 < u)).Sublist b.spans := by
    unfold sp1
    rw [List.filter_append]
    have : ([(u, a, c)] : List Span).filter (fun s => decide (s.1 < u)) = [] := by simp
    rw [this, List.append_nil]
    exact List.filter_sublist.trans List.filter_sublist
  have gt : ∀ s ∈ (sp1 b u a c).filter fun s => decide (u < s.1), u < s.1 := fun s h => of_decide_eq_true (List.mem_filter.mp h).2
  have lt : ∀ s ∈ (sp1 b u a c).filter fun s => decide (s.1 < u), s.1 < u := fun s h => of_decide_eq_true (List.mem_filter.mp h).2
  have le3 : ∀ l : List Span, (l.filter fun s => decide (u < s.1)).length + (l.filter fun s => decide (s.1 = u)).length + (l.filter fun s => decide (s.1 < u)).length ≤ l.length := fun l => by
    induction l with
    | nil => simp
    | cons x l ih =>
      simp only [List.filter_cons, List.length_cons]
      rcases Int.lt_trichotomy u x.1 with h | h | h
      · have h2 : ¬ x.1 = u := by omega
        have h3 : ¬ x.1 < u := by omega
        simp only [h, h2, h3, decide_true, decide_false, if_true, Bool.false_eq_true, if_false, List.length_cons]
        omega
      · have h1 : ¬ u < x.1 := by omega
        have h2 : x.1 = u := by omega
        have h3 : ¬ x.1 < u := by omega
        simp only [h1, h2, h3, decide_true, decide_false, if_true, Bool.false_eq_true, if_false, List.length_cons, Int.lt_irrefl]
        omega
      · have h1 : ¬ u < x.1 := by omega
        have h2 : ¬ x.1 = u := by omega
        simp only [h1, h2, h, decide_true, decide_false, if_true, Bool.false_eq_true, if_false, List.length_cons]
        omega
  refine ⟨ok.rows, ok.nots, ?_, ok.wlen, ?_⟩
  · have := le3 (sp1 b u a c)
    show (sp2 b u a c).length ≤ 1000
    unfold sp2
    rw [List.length_append, List.length_append]
    have l1 : (sp1 b u a c).length ≤ 901 := by unfold sp1; rw [List.length_append]; show _ + 1 ≤ _; omega
    omega
  · show (sp2 b u a c).Pairwise fun a b => b.1 < a.1
    unfold sp2
    rw [mid, List.pairwise_append, List.pairwise_append]
    refine ⟨⟨ok.desc.sublist up, List.pairwise_singleton _ _, fun x hx y hy => ?_⟩, ok.desc.sublist dn, fun x hx y hy => ?_⟩
    · rw [List.mem_singleton] at hy
      rw [hy]
      exact gt x hx
    · have l := lt y hy
      rcases List.mem_append.mp hx with h | h
      · have := gt x h
        omega
      · rw [List.mem_singleton] at h
        rw [h]
        exact l
def menuD : List D := [.tup [.int 0, .int 100], .tup [.int 100, .int 200], .tup [.int 0, .int 400], .tup [.int 200, .int 1000], .tup [.int 0, .int 1000]]
set_option maxHeartbeats 0 in
theorem p_law_trees : BodyOk 4 14 B_law_trees a_law_trees S_law_trees := by
  rintro _ R ⟨d, b, t, is, rfl, hd, p, hne, hsp, hwd, k⟩
  refine ⟨rfl, own0 (ds := [_, _, _]) rfl, ?_⟩
  have pos : 0 < t.rows.length := List.length_pos_iff.mpr hne
  have vl := vars_len p.to.rows
  have vlb := vars_len p.bo.rows
  have hz := p.sz
  have rz := p.to.rows.1
  -- the end
  have fin : ∀ (d' : D) (x4 x5 x6 x7 x8 x9 x10 x11 x12 : AV), Dr d' → law_trees_0_6 { nx := fun env => R (.dat .non) (outs [.own d, .dat (treeD b), .dat (treeD t), .dat (tmD is)] env), rt := fun r env => (∀ i, r ≠ .at i) ∧ R r (outs [.own d, .dat (treeD b), .dat (treeD t), .dat (tmD is)] env) } [.own d', .dat (treeD b), .dat (treeD t), .dat (tmD is), x4, x5, x6, x7, x8, x9, x10, x11, x12, .un] := by
    intro d' x4 x5 x6 x7 x8 x9 x10 x11 x12 hd'
    conv => whnf
    repeat (refine ⟨trivial, ?_⟩; conv => whnf)
    refine ix_tup (by omega) rfl ?_
    conv => whnf
    repeat (refine ⟨trivial, ?_⟩; conv => whnf)
    refine ⟨sz1, ?_⟩
    conv => whnf
    repeat (refine ⟨trivial, ?_⟩; conv => whnf)
    refine ⟨sz_le (by rw [List.length_map]; show _ + 1 ≤ _; omega), ?_⟩
    conv => whnf
    repeat (refine ⟨trivial, ?_⟩; conv => whnf)
    refine ⟨sz1, ?_⟩
    conv => whnf
    repeat (refine ⟨trivial, ?_⟩; conv => whnf)
    refine ⟨sz4 (a := .non) (b := .non) (c := .non) (d := .non), ?_⟩
    conv => whnf
    repeat (refine ⟨trivial, ?_⟩; conv => whnf)
    have e : D.tup ([.tup (t.rows.map rowD), .tup (t.nots.map rowD), .tup (t.spans.map spD)] ++ [.tup (t.wide.map D.int ++ [D.int 50])]) = treeD ⟨t.rows, t.nots, t.spans, t.wide ++ [50]⟩ := by
      unfold treeD tmD
      rw [List.map_append]
      rfl
    show callR S_law_asks [.dat (treeD b), .dat (.tup ([.tup (t.rows.map rowD), .tup (t.nots.map rowD), .tup (t.spans.map spD)] ++ [.tup (t.wide.map D.int ++ [D.int 50])])), .dat (tmD is)] _ _
    rw [e]
    refine use_asks b _ is p.bo ⟨p.to.rows, p.to.nots, p.to.slen, by rw [List.length_append]; show _ + 1 ≤ _; omega, p.to.desc⟩ (by omega) p.len p.wide ?_
    conv => whnf
    repeat (refine ⟨trivial, ?_⟩; conv => whnf)
    exact ⟨nat_ _, k _ hd'⟩
  conv => whnf
  repeat (refine ⟨trivial, ?_⟩; conv => whnf)
  refine ix_tup (by omega) rfl ?_
  conv => whnf
  repeat (refine ⟨trivial, ?_⟩; conv => whnf)
  refine use_draw 0 rfl hd (by rw [List.length_map]; omega) (by rw [List.length_map]; omega) fun r d1 h1 h2 hd1 => ?_
  rw [List.length_map] at h2
  obtain ⟨i, rfl⟩ := toNat_eq h1
  have hi : i < t.rows.length := by omega
  conv => whnf
  repeat (refine ⟨trivial, ?_⟩; conv => whnf)
  refine ix_tup (by omega) rfl ?_
  conv => whnf
  repeat (refine ⟨trivial, ?_⟩; conv => whnf)
  refine ix_tup (by omega) rfl ?_
  conv => whnf
  repeat (refine ⟨trivial, ?_⟩; conv => whnf)
  have ei : ((i : Int) + 1) = ((i + 1 : Nat) : Int) := by omega
  have c1 : cutD (t.rows.map rowD) none (some (i : Int)) = (t.rows.take i).map rowD := by rw [cutD_map, cut_to _ i (by omega)]
  have c2 : cutD (t.rows.map rowD) (some ((i : Int) + 1)) none = (t.rows.drop (i + 1)).map rowD := by rw [ei, cutD_map, cut_from _ (i + 1) (by omega)]
  rw [c1, c2]
  have le : ((t.rows.take i).map rowD).length + ((t.rows.drop (i + 1)).map rowD).length ≤ 1000 := by rw [List.length_map, List.length_map, List.length_take, List.length_drop]; omega
  refine ⟨sz_le (by omega), ?_⟩
  conv => whnf
  repeat (refine ⟨trivial, ?_⟩; conv => whnf)
  refine ⟨sz1, ?_⟩
  conv => whnf
  repeat (refine ⟨trivial, ?_⟩; conv => whnf)
  refine ⟨sz4 (a := .non) (b := .non) (c := .non) (d := .non), ?_⟩
  conv => whnf
  repeat (refine ⟨trivial, ?_⟩; conv => whnf)
  have e1 : D.tup ([.tup ((t.rows.take i).map rowD ++ (t.rows.drop (i + 1)).map rowD)] ++ [.tup (t.nots.map rowD), .tup (t.spans.map spD), tmD t.wide]) = treeD ⟨t.rows.take i ++ t.rows.drop (i + 1), t.nots, t.spans, t.wide⟩ := by
    unfold treeD
    rw [List.map_append]
    rfl
  show callR S_law_asks [.dat (treeD b), .dat (.tup ([.tup ((t.rows.take i).map rowD ++ (t.rows.drop (i + 1)).map rowD)] ++ [.tup (t.nots.map rowD), .tup (t.spans.map spD), tmD t.wide])), .dat (tmD is)] _ _
  rw [e1]
  have sub : RowsOk (t.rows.take i ++ t.rows.drop (i + 1)) := sub_ok p.to.rows (fun r hr => (List.mem_append.mp hr).elim List.mem_of_mem_take List.mem_of_mem_drop) (by rw [List.length_append, List.length_take, List.length_drop]; omega)
  refine use_asks b _ is p.bo ⟨sub, p.to.nots, p.to.slen, p.to.wlen, p.to.desc⟩ (by omega) p.len p.wide ?_
  conv => whnf
  repeat (refine ⟨trivial, ?_⟩; conv => whnf)
  refine brI (fun h => by cases h) (fun _ => ?_)
  conv => whnf
  repeat (refine ⟨trivial, ?_⟩; conv => whnf)
  refine ⟨sz2, ?_⟩
  conv => whnf
  repeat (refine ⟨trivial, ?_⟩; conv => whnf)
  refine ⟨sz2, ?_⟩
  conv => whnf
  repeat (refine ⟨trivial, ?_⟩; conv => whnf)
  refine ⟨sz2, ?_⟩
  conv => whnf
  repeat (refine ⟨trivial, ?_⟩; conv => whnf)
  refine ⟨sz2, ?_⟩
  conv => whnf
  repeat (refine ⟨trivial, ?_⟩; conv => whnf)
  refine ⟨sz2, ?_⟩
  conv => whnf
  repeat (refine ⟨trivial, ?_⟩; conv => whnf)
  refine ⟨by decide +kernel, ?_⟩
  conv => whnf
  repeat (refine ⟨trivial, ?_⟩; conv => whnf)
  refine ix_tup (by omega) rfl ?_
  conv => whnf
  repeat (refine ⟨trivial, ?_⟩; conv => whnf)
  refine use_variables b.rows rfl p.bo.rows ?_
  conv => whnf
  repeat (refine ⟨trivial, ?_⟩; conv => whnf)
  rw [cutD_map]
  intro _
  refine for_ind (Iv := fun items env => ∃ (us : List Int) (d' : D) (x5 x6 x7 x8 x9 x10 : AV), items = us.map D.int ∧ (x6 = .own (.lst menuD) ∨ x6 = .dat (.lst menuD)) ∧ Dr d' ∧ env = [.own d', .dat (treeD b), .dat (treeD t), .dat (tmD is), .dat (.int (i : Int)), x5, x6, x7, x8, x9, x10, .un, .un, .un]) ?_ ?_ _ _ ⟨_, d1, _, _, .un, .un, .un, .un, rfl, .inl rfl, hd1, rfl⟩
  · rintro env ⟨us, d', x5, x6, x7, x8, x9, x10, e, hx, hd', rfl⟩
    conv => whnf
    repeat (refine ⟨trivial, ?_⟩; conv => whnf)
    refine ix_tup (by omega) rfl ?_
    conv => whnf
    repeat (refine ⟨trivial, ?_⟩; conv => whnf)
    rw [List.length_map]
    refine brI (fun h => ?_) (fun h => ?_)
    · have wpos : 0 < t.wide.length := by simpa using h
      conv => whnf
      repeat (refine ⟨trivial, ?_⟩; conv => whnf)
      refine ix_tup (by omega) rfl ?_
      conv => whnf
      repeat (refine ⟨trivial, ?_⟩; conv => whnf)
      refine use_draw 0 rfl hd' (by rw [List.length_map]; omega) (by rw [List.length_map]; omega) fun r d2 h1 h2 hd2 => ?_
      rw [List.length_map] at h2
      obtain ⟨j, rfl⟩ := toNat_eq h1
      have hj : j < t.wide.length := by omega
      conv => whnf
      repeat (refine ⟨trivial, ?_⟩; conv => whnf)
      refine ix_tup (by omega) rfl ?_
      conv => whnf
      repeat (refine ⟨trivial, ?_⟩; conv => whnf)
      refine use_variables t.rows rfl p.to.rows ?_
      conv => whnf
      repeat (refine ⟨trivial, ?_⟩; conv => whnf)
      refine ⟨sz2, ?_⟩
      conv => whnf
      repeat (refine ⟨trivial, ?_⟩; conv => whnf)
      refine ⟨sz_le (by rw [List.length_map]; show _ + 2 ≤ _; omega), ?_⟩
      conv => whnf
      repeat (refine ⟨trivial, ?_⟩; conv => whnf)
      have est : (vars t.rows).map D.int ++ [D.int 50, D.int 150] = (vars t.rows ++ [50, 150]).map D.int := by rw [List.map_append]; rfl
      show callR S_law_pick [.at 0, .dat (.lst ((vars t.rows).map D.int ++ [D.int 50, D.int 150]))] _ _
      rw [est]
      refine use_pick 0 ((vars t.rows ++ [50, 150]).map D.int) rfl hd2 rfl (by simp) (by rw [List.length_map, List.length_append]; show _ + 2 ≤ _; omega) fun z d3 mz hd3 => ?_
      obtain ⟨v, _, rfl⟩ := List.mem_map.mp mz
      conv => whnf
      repeat (refine ⟨trivial, ?_⟩; conv => whnf)
      refine ix_tup (by omega) rfl ?_
      conv => whnf
      repeat (refine ⟨trivial, ?_⟩; conv => whnf)
      refine ⟨sz1, ?_⟩
      conv => whnf
      repeat (refine ⟨trivial, ?_⟩; conv => whnf)
      have lc : (cutD (t.wide.map D.int) none (some (j : Int))).length ≤ 900 := Nat.le_trans (cutD_len _ _ _) (by rw [List.length_map]; exact hwd)
      have ld : (cutD (t.wide.map D.int) (some ((j : Int) + 1)) none).length ≤ 900 := Nat.le_trans (cutD_len _ _ _) (by rw [List.length_map]; exact hwd)
      refine ⟨sz_le (by show _ + 1 ≤ _; omega), ?_⟩
      conv => whnf
      repeat (refine ⟨trivial, ?_⟩; conv => whnf)
      refine ix_tup (by omega) rfl ?_
      conv => whnf
      repeat (refine ⟨trivial, ?_⟩; conv => whnf)
      refine ⟨sz_le (by rw [List.length_append]; show _ + 1 + _ ≤ _; omega), ?_⟩
      conv => whnf
      repeat (refine ⟨trivial, ?_⟩; conv => whnf)
      refine ⟨sz1, ?_⟩
      conv => whnf
      repeat (refine ⟨trivial, ?_⟩; conv => whnf)
      refine ⟨sz4 (a := .non) (b := .non) (c := .non) (d := .non), ?_⟩
      conv => whnf
      repeat (refine ⟨trivial, ?_⟩; conv => whnf)
      have e3 : D.tup ([.tup (t.rows.map rowD), .tup (t.nots.map rowD), .tup (t.spans.map spD)] ++ [.tup (cutD (t.wide.map D.int) none (some (j : Int)) ++ [D.int v] ++ cutD (t.wide.map D.int) (some ((j : Int) + 1)) none)]) = treeD ⟨t.rows, t.nots, t.spans, exch t.wide j v⟩ := by
        rw [exch_D t.wide j v hj]
        rfl
      show callR S_law_asks [.dat (treeD b), .dat (.tup ([.tup (t.rows.map rowD), .tup (t.nots.map rowD), .tup (t.spans.map spD)] ++ [.tup (cutD (t.wide.map D.int) none (some (j : Int)) ++ [D.int v] ++ cutD (t.wide.map D.int) (some ((j : Int) + 1)) none)])), .dat (tmD is)] _ _
      rw [e3]
      refine use_asks b _ is p.bo ⟨p.to.rows, p.to.nots, p.to.slen, by rw [exch_len _ _ _ hj]; omega, p.to.desc⟩ (by omega) p.len p.wide ?_
      conv => whnf
      repeat (refine ⟨trivial, ?_⟩; conv => whnf)
      refine brI (fun h => by cases h) (fun _ => ?_)
      exact fin d3 _ _ _ _ _ _ _ _ _ hd3
    · exact fin d' _ _ _ _ _ _ _ _ _ hd'
  · rintro y ds env M hM ⟨us, d', x5, x6, x7, x8, x9, x10, e, hx, hd', rfl⟩
    obtain ⟨u, q, rfl, rfl, rfl⟩ := map_cons_inv e.symm
    have bsl := p.bo.slen
    have body : ∀ (z : D) (d2 : D), z ∈ menuD → Dr d2 → ∃ a c, z = .tup [.int a, .int c] := fun z d2 h _ => by
      simp only [menuD, List.mem_cons, List.not_mem_nil, or_false] at h
      rcases h with e | e | e | e | e <;> exact ⟨_, _, e⟩
    rcases hx with rfl | rfl <;>
    · conv => whnf
      repeat (refine ⟨trivial, ?_⟩; conv => whnf)
      refine ix_tup (by omega) rfl ?_
      conv => whnf
      repeat (refine ⟨trivial, ?_⟩; conv => whnf)
      intro _
      refine ⟨noOwn_one (x := .un) rfl (fun e z => by cases z), sz_le (by rw [List.length_map]; omega), ?_⟩
      refine span_filter (p := fun s => !decide (s.1 = u)) (fun s R' hR => ?_) b.spans ?_
      · conv => whnf
        repeat (refine ⟨trivial, ?_⟩; conv => whnf)
        refine ix_tup (by omega) rfl ?_
        conv => whnf
        repeat (refine ⟨trivial, ?_⟩; conv => whnf)
        exact ne_int hR
      conv => whnf
      repeat (refine ⟨trivial, ?_⟩; conv => whnf)
      refine ⟨sz1, ?_⟩
      conv => whnf
      repeat (refine ⟨trivial, ?_⟩; conv => whnf)
      refine use_pick 0 menuD rfl hd' rfl (by simp [menuD]) (by simp [menuD]) fun z d2 mz hd2 => ?_
      obtain ⟨a, c, rfl⟩ := body z d2 mz hd2
      conv => whnf
      repeat (refine ⟨trivial, ?_⟩; conv => whnf)
      refine ⟨sz3 (a := .non) (b := .non) (c := .non), ?_⟩
      conv => whnf
      repeat (refine ⟨trivial, ?_⟩; conv => whnf)
      refine ⟨sz1, ?_⟩
      conv => whnf
      repeat (refine ⟨trivial, ?_⟩; conv => whnf)
      have lf : (b.spans.filter fun s => !decide (s.1 = u)).length ≤ b.spans.length := List.length_filter_le _ _
      refine ⟨sz_le (by rw [List.length_map]; show _ + 1 ≤ _; omega), ?_⟩
      have esp : (b.spans.filter fun s => !decide (s.1 = u)).map spD ++ [D.tup [.int u, .int a, .int c]] = (sp1 b u a c).map spD := by
        unfold sp1
        rw [List.map_append]
        rfl
      have l1 : (sp1 b u a c).length ≤ 1000 := by unfold sp1; rw [List.length_append]; show _ + 1 ≤ _; omega
      have ls : ∀ f : Span → Bool, ((sp1 b u a c).filter f).length ≤ 1000 := fun f => Nat.le_trans (List.length_filter_le _ _) l1
      conv => whnf
      repeat (refine ⟨trivial, ?_⟩; conv => whnf)
      intro _
      refine ⟨noOwn_one (x := .un) rfl (fun e z => by cases z), sz_le (by rw [List.length_append, List.length_map]; show _ + 1 ≤ _; omega), ?_⟩
      show lcL (agName 13) _ _ _ ((b.spans.filter fun s => !decide (s.1 = u)).map spD ++ [D.tup [.int u, .int a, .int c]]) _ _
      rw [esp]
      refine span_filter (p := fun s => decide (u < s.1)) (fun s R' hR => ?_) (sp1 b u a c) ?_
      · conv => whnf
        repeat (refine ⟨trivial, ?_⟩; conv => whnf)
        refine ix_tup (by omega) rfl ?_
        conv => whnf
        repeat (refine ⟨trivial, ?_⟩; conv => whnf)
        exact hR
      conv => whnf
      repeat (refine ⟨trivial, ?_⟩; conv => whnf)
      intro _
      refine ⟨noOwn_one (x := .un) rfl (fun e z => by cases z), sz_le (by rw [List.length_append, List.length_map]; show _ + 1 ≤ _; omega), ?_⟩
      show lcL (agName 13) _ _ _ ((b.spans.filter fun s => !decide (s.1 = u)).map spD ++ [D.tup [.int u, .int a, .int c]]) _ _
      rw [esp]
      refine span_filter (p := fun s => decide (s.1 < u)) (fun s R' hR => ?_) (sp1 b u a c) ?_
      · conv => whnf
        repeat (refine ⟨trivial, ?_⟩; conv => whnf)
        refine ix_tup (by omega) rfl ?_
        conv => whnf
        repeat (refine ⟨trivial, ?_⟩; conv => whnf)
        exact hR
      conv => whnf
      repeat (refine ⟨trivial, ?_⟩; conv => whnf)
      intro _
      refine ⟨noOwn_one (x := .un) rfl (fun e z => by cases z), sz_le (by rw [List.length_append, List.length_map]; show _ + 1 ≤ _; omega), ?_⟩
      show lcL (agName 13) _ _ _ ((b.spans.filter fun s => !decide (s.1 = u)).map spD ++ [D.tup [.int u, .int a, .int c]]) _ _
      rw [esp]
      refine span_filter (p := fun s => decide (s.1 = u)) (fun s R' hR => ?_) (sp1 b u a c) ?_
      · conv => whnf
        repeat (refine ⟨trivial, ?_⟩; conv => whnf)
        refine ix_tup (by omega) rfl ?_
        conv => whnf
        repeat (refine ⟨trivial, ?_⟩; conv => whnf)
        exact eq_int hR
      conv => whnf
      repeat (refine ⟨trivial, ?_⟩; conv => whnf)
      refine ⟨sz_le (by rw [List.length_map, List.length_map]; have := ls (fun s => decide (u < s.1)); have := ls (fun s => decide (s.1 = u)); omega), ?_⟩
      conv => whnf
      repeat (refine ⟨trivial, ?_⟩; conv => whnf)
      refine ⟨sz_le (by rw [List.length_append, List.length_map, List.length_map, List.length_map]; have := ls (fun s => decide (u < s.1)); have := ls (fun s => decide (s.1 = u)); have := ls (fun s => decide (s.1 < u)); omega), ?_⟩
      conv => whnf
      repeat (refine ⟨trivial, ?_⟩; conv => whnf)
      refine ix_tup (by omega) rfl ?_
      conv => whnf
      repeat (refine ⟨trivial, ?_⟩; conv => whnf)
      refine ix_tup (by omega) rfl ?_
      conv => whnf
      repeat (refine ⟨trivial, ?_⟩; conv => whnf)
      refine ix_tup (by omega) rfl ?_
      conv => whnf
      repeat (refine ⟨trivial, ?_⟩; conv => whnf)
      refine ⟨sz4, ?_⟩
      conv => whnf
      repeat (refine ⟨trivial, ?_⟩; conv => whnf)
      have e9 : D.tup [.tup (b.rows.map rowD), .tup (b.nots.map rowD), .tup ((((sp1 b u a c).filter fun s => decide (u < s.1)).map spD ++ ((sp1 b u a c).filter fun s => decide (s.1 = u)).map spD) ++ ((sp1 b u a c).filter fun s => decide (s.1 < u)).map spD), tmD b.wide] = treeD ⟨b.rows, b.nots, sp2 b u a c, b.wide⟩ := by
        unfold treeD sp2
        rw [List.map_append, List.map_append]
      show callR S_law_asks [.dat (.tup [.tup (b.rows.map rowD), .tup (b.nots.map rowD), .tup ((((sp1 b u a c).filter fun s => decide (u < s.1)).map spD ++ ((sp1 b u a c).filter fun s => decide (s.1 = u)).map spD) ++ ((sp1 b u a c).filter fun s => decide (s.1 < u)).map spD), tmD b.wide]), .dat (treeD t), .dat (tmD is)] _ _
      rw [e9]
      refine use_asks ⟨b.rows, b.nots, sp2 b u a c, b.wide⟩ t is (sp2_ok p.bo hsp u a c) p.to (by omega) p.len p.wide ?_
      conv => whnf
      repeat (refine ⟨trivial, ?_⟩; conv => whnf)
      refine brI (fun h => by cases h) (fun _ => ?_)
      conv => whnf
      repeat (refine ⟨trivial, ?_⟩; conv => whnf)
      exact hM _ ⟨q, d2, _, _, _, _, _, _, rfl, .inr rfl, hd2, rfl⟩
theorem use_trees {env : AEnv} (j : Nat) {d : D} (b t : Tree) (is : List Int) {R : RV → AEnv → Prop} (e : env[j]? = some (.own d)) (hd : Dr d) (p : PairOk b t is) (hne : t.rows ≠ []) (hsp : b.spans.length ≤ 900) (hwd : t.wide.length ≤ 900) (k : ∀ d', Dr d' → R (.dat (.bl true)) (env.set j (.own d'))) : callR S_law_trees [.at j, .dat (treeD b), .dat (treeD t), .dat (tmD is)] env R :=
  call_lent j [treeD b, treeD t, tmD is] e ⟨d, b, t, is, rfl, hd, p, hne, hsp, hwd, fun d' h => k d' h⟩
end AL
namespace AL
open PySem L2
/-! P14: near, far, law. -/
theorem lk_self : ∀ (ks : List Int) (x : Int), x ∈ ks → lk ks ks x = some x
  | [], x, h => by cases h
  | k :: ks, x, h => by
    show (if k = x then some k else lk ks ks x) = some x
    by_cases e : k = x
    · rw [if_pos e, e]
    · rw [if_neg e]
      refine lk_self ks x ?_
      rcases List.mem_cons.mp h with q | q
      · exact absurd q.symm e
      · exact q
theorem laid_self {ks ts : List Int} (h : Has ks ts) : laidT ts ks ks = ts := by
  unfold laidT
  refine (List.map_congr_left (g := id) fun t ht => ?_).trans (List.map_id ts)
  unfold img
  by_cases ge : 0 ≤ t
  · rw [if_pos ge]; rfl
  · rw [if_neg ge, lk_self ks t (h t ht (by omega))]; rfl
/-- the identity is a fold -/
theorem self_fold {b : Tree} (bo : TreeOk b) (hw : Has (vars b.rows) b.wide) : foldV b b (vars b.rows) = true := by
  unfold foldV lays
  rw [decide_eq_true rfl, Bool.true_and, laid_self hw, decide_eq_true rfl, Bool.true_and, Bool.and_eq_true, List.all_eq_true, List.all_eq_true]
  refine ⟨fun x hx => ?_, fun r hr => ?_⟩
  · rw [lk_self _ x hx]
    show within b b x x = true
    unfold within
    rw [decide_eq_true (Int.le_refl _), decide_eq_true (Int.le_refl _)]
    rfl
  · rw [laid_self (vars_has b.rows r hr)]
    exact decide_eq_true hr
theorem look_all {ks is : List Int} (ok : NmOk ks is) : ks.map (fun x => (lk ks is x).getD 0) = is := by
  apply List.ext_getElem
  · rw [List.length_map]; exact ok.len
  · intro i h1 h2
    rw [List.getElem_map]
    rw [List.length_map] at h1
    rw [lk_at i h1 h2 ok.nd]
    rfl
theorem p_law_near : BodyOk 1 8 B_law_near a_law_near S_law_near := by
  rintro _ R ⟨d, rfl, hd, k⟩
  refine ⟨rfl, own0 (ds := []) rfl, ?_⟩
  conv => whnf
  repeat (refine ⟨trivial, ?_⟩; conv => whnf)
  refine call_lent 0 [] rfl ⟨d, rfl, hd, fun b t is d1 p hne hsp hwd hd1 => ?_⟩
  conv => whnf
  refine ⟨rfl, ?_⟩
  conv => whnf
  repeat (refine ⟨trivial, ?_⟩; conv => whnf)
  refine ⟨rfl, ?_⟩
  conv => whnf
  repeat (refine ⟨trivial, ?_⟩; conv => whnf)
  refine ix_tup (by omega) rfl ?_
  conv => whnf
  repeat (refine ⟨trivial, ?_⟩; conv => whnf)
  refine use_variables b.rows rfl p.bo.rows ?_
  conv => whnf
  repeat (refine ⟨trivial, ?_⟩; conv => whnf)
  refine ix_tup (by omega) rfl ?_
  conv => whnf
  repeat (refine ⟨trivial, ?_⟩; conv => whnf)
  refine ix_tup (by omega) rfl ?_
  conv => whnf
  repeat (refine ⟨trivial, ?_⟩; conv => whnf)
  refine ix_tup (by omega) rfl ?_
  conv => whnf
  repeat (refine ⟨trivial, ?_⟩; conv => whnf)
  refine ix_tup (by omega) rfl ?_
  conv => whnf
  repeat (refine ⟨trivial, ?_⟩; conv => whnf)
  refine ⟨sz4, ?_⟩
  conv => whnf
  repeat (refine ⟨trivial, ?_⟩; conv => whnf)
  have vl : (vars b.rows).length ≤ 900 := by rw [← p.len]; exact p.sz
  refine use_told b b (vars b.rows) true p.bo p.bo (by omega) p.wide (self_fold p.bo p.wide) ?_
  conv => whnf
  repeat (refine ⟨trivial, ?_⟩; conv => whnf)
  refine brI (fun h => by cases h) (fun _ => ?_)
  conv => whnf
  repeat (refine ⟨trivial, ?_⟩; conv => whnf)
  have bo2 : TreeOk ⟨b.rows, b.rows, b.spans, b.wide⟩ := ⟨p.bo.rows, p.bo.rows, p.bo.slen, p.bo.wlen, p.bo.desc⟩
  refine use_told ⟨b.rows, b.rows, b.spans, b.wide⟩ ⟨b.rows, b.rows, b.spans, b.wide⟩ (vars b.rows) true bo2 bo2 (by omega) p.wide (self_fold bo2 p.wide) ?_
  conv => whnf
  repeat (refine ⟨trivial, ?_⟩; conv => whnf)
  refine brI (fun h => by cases h) (fun _ => ?_)
  conv => whnf
  repeat (refine ⟨trivial, ?_⟩; conv => whnf)
  intro _
  have ok := names_ok p.bo p.len
  refine ⟨noOwn_one (x := .un) rfl (fun e z => by cases z), sz_le (by rw [List.length_map]; omega), ?_⟩
  refine lc_ind (Ev := fun env => env = [.own d1, .dat (tmD (vars b.rows)), .dat (treeD ⟨b.rows, b.rows, b.spans, b.wide⟩), .un, .dat (treeD b), .dat (treeD t), .dat (nmD (vars b.rows) is), .un]) (Stp := fun y oz => ∃ x : Int, y = .int x ∧ oz = some (.int ((lk (vars b.rows) is x).getD 0))) _ ?_ _ _ rfl ?_
  · rintro y hy _ K rfl hK
    obtain ⟨x, hx, rfl⟩ := List.mem_map.mp hy
    conv => whnf
    repeat (refine ⟨trivial, ?_⟩; conv => whnf)
    rw [brP_true]
    conv => whnf
    repeat (refine ⟨trivial, ?_⟩; conv => whnf)
    refine ix_names ok hx ?_
    conv => whnf
    repeat (refine ⟨trivial, ?_⟩; conv => whnf)
    exact hK _ _ rfl ⟨x, rfl, rfl⟩
  · rintro zs _ o rfl
    have ez := o.map (f := fun x : Int => D.int ((lk (vars b.rows) is x).getD 0)) fun x oz ⟨u, e1, e2⟩ => by
      injection e1 with e1
      rw [e1]
      exact e2
    have e : D.tup zs = tmD is := by
      unfold tmD
      rw [ez, ← look_all ok, List.map_map]
      rw [look_all ok]
      rfl
    conv => whnf
    repeat (refine ⟨trivial, ?_⟩; conv => whnf)
    rw [e]
    refine use_images 0 b t is rfl hd1 p fun d2 hd2 => ?_
    conv => whnf
    repeat (refine ⟨trivial, ?_⟩; conv => whnf)
    rw [brP_true]
    conv => whnf
    repeat (refine ⟨trivial, ?_⟩; conv => whnf)
    refine use_trees 0 b t is rfl hd2 p hne hsp hwd fun d3 hd3 => ?_
    conv => whnf
    repeat (refine ⟨trivial, ?_⟩; conv => whnf)
    exact ⟨nat_ _, k _ hd3⟩
theorem p_law_far : BodyOk 1 8 B_law_far a_law_far S_law_far := by
  rintro _ R ⟨d, rfl, hd, k⟩
  refine ⟨rfl, own0 (ds := []) rfl, ?_⟩
  conv => whnf
  repeat (refine ⟨trivial, ?_⟩; conv => whnf)
  refine call_lent 0 [] rfl ⟨d, rfl, hd, fun b t line paths d1 bo to hv hpn hpl hp hne hsp hwd hd1 => ?_⟩
  have pk : ∀ z ∈ paths.map (fun p => D.lst (p.map D.int)), ∃ q ∈ paths, z = .lst (q.map D.int) := fun z hz => by
    obtain ⟨q, hq, e⟩ := List.mem_map.mp hz
    exact ⟨q, hq, e.symm⟩
  conv => whnf
  refine ⟨rfl, ?_⟩
  conv => whnf
  repeat (refine ⟨trivial, ?_⟩; conv => whnf)
  refine ⟨rfl, ?_⟩
  conv => whnf
  repeat (refine ⟨trivial, ?_⟩; conv => whnf)
  refine ⟨⟨by omega, by omega⟩, ?_⟩
  refine for_ind (Iv := fun items env => ∃ (d' : D) (x1 : AV), env = [.own d', x1, .un, .un, .dat (treeD b), .dat (treeD t), .dat (.lst (line.map D.int)), .dat (.lst (paths.map fun p => D.lst (p.map D.int)))] ∧ Dr d') ?_ ?_ _ _ ⟨d1, .un, rfl, hd1⟩
  · rintro env ⟨d', x1, rfl, hd'⟩
    conv => whnf
    repeat (refine ⟨trivial, ?_⟩; conv => whnf)
    refine ix_tup (by omega) rfl ?_
    conv => whnf
    repeat (refine ⟨trivial, ?_⟩; conv => whnf)
    refine ix_tup (by omega) rfl ?_
    conv => whnf
    repeat (refine ⟨trivial, ?_⟩; conv => whnf)
    refine ⟨Nat.zero_le _, ?_⟩
    conv => whnf
    repeat (refine ⟨trivial, ?_⟩; conv => whnf)
    refine ⟨Nat.zero_le _, ?_⟩
    conv => whnf
    repeat (refine ⟨trivial, ?_⟩; conv => whnf)
    refine ⟨sz4, ?_⟩
    conv => whnf
    repeat (refine ⟨trivial, ?_⟩; conv => whnf)
    refine use_pick 0 _ rfl hd' rfl (by simpa using hpn) (by rw [List.length_map]; omega) fun z d2 mz hd2 => ?_
    obtain ⟨q, hq, rfl⟩ := pk z mz
    have pq := (hp q hq).1
    have bo2 : TreeOk ⟨b.rows, b.nots, [], []⟩ := ⟨bo.rows, bo.nots, by simp, by simp, List.Pairwise.nil⟩
    have to2 : TreeOk ⟨t.rows, t.nots, t.spans, []⟩ := ⟨to.rows, to.nots, to.slen, by simp, to.desc⟩
    conv => whnf
    repeat (refine ⟨trivial, ?_⟩; conv => whnf)
    refine ⟨Nat.zero_le _, ?_⟩
    conv => whnf
    repeat (refine ⟨trivial, ?_⟩; conv => whnf)
    refine ⟨sz1, ?_⟩
    conv => whnf
    repeat (refine ⟨trivial, ?_⟩; conv => whnf)
    refine ⟨sz4 (a := .non) (b := .non) (c := .non) (d := .non), ?_⟩
    conv => whnf
    repeat (refine ⟨trivial, ?_⟩; conv => whnf)
    show callR S_law_told [.dat (treeD ⟨b.rows, b.nots, [], []⟩), .dat (treeD ⟨t.rows, t.nots, t.spans, []⟩), .dat (tmD q), .dat (.bl true)] _ _
    refine use_told _ _ q true bo2 to2 (by have := pq.sz; omega) (fun x hx => by cases hx) (hp q hq).2 ?_
    conv => whnf
    repeat (refine ⟨trivial, ?_⟩; conv => whnf)
    rw [brP_true]
    conv => whnf
    repeat (refine ⟨trivial, ?_⟩; conv => whnf)
    refine use_trees 0 b t q rfl hd2 pq hne hsp hwd fun d3 hd3 => ?_
    conv => whnf
    repeat (refine ⟨trivial, ?_⟩; conv => whnf)
    exact ⟨nat_ _, k _ hd3⟩
  · rintro y ds env M hM ⟨d', x1, rfl, hd'⟩
    conv => whnf
    repeat (refine ⟨trivial, ?_⟩; conv => whnf)
    refine use_pick 0 _ rfl hd' rfl (by simpa using hpn) (by rw [List.length_map]; omega) fun z d2 mz hd2 => ?_
    obtain ⟨q, hq, rfl⟩ := pk z mz
    conv => whnf
    repeat (refine ⟨trivial, ?_⟩; conv => whnf)
    refine use_images 0 b t q rfl hd2 (hp q hq).1 fun d3 hd3 => ?_
    conv => whnf
    repeat (refine ⟨trivial, ?_⟩; conv => whnf)
    refine brI (fun h => by cases h) (fun _ => ?_)
    conv => whnf
    repeat (refine ⟨trivial, ?_⟩; conv => whnf)
    exact hM _ ⟨d3, _, rfl, hd3⟩
theorem p_law : BodyOk 1 2 B_law a_law S_law := by
  rintro _ R ⟨ns, rfl, k⟩
  refine ⟨rfl, ownN (ds := [_]), ?_⟩
  conv => whnf
  repeat (refine ⟨trivial, ?_⟩; conv => whnf)
  refine call_dats [_] ⟨ns, rfl, fun d hd => ?_⟩
  conv => whnf
  repeat (refine ⟨trivial, ?_⟩; conv => whnf)
  refine call_lent 1 [] rfl ⟨d, rfl, hd, fun d1 hd1 => ?_⟩
  conv => whnf
  repeat (refine ⟨trivial, ?_⟩; conv => whnf)
  refine brI (fun h => by cases h) (fun _ => ?_)
  conv => whnf
  repeat (refine ⟨trivial, ?_⟩; conv => whnf)
  refine call_lent 1 [] rfl ⟨d1, rfl, hd1, fun d2 hd2 => ?_⟩
  conv => whnf
  repeat (refine ⟨trivial, ?_⟩; conv => whnf)
  refine brI (fun h => by cases h) (fun _ => ?_)
  conv => whnf
  repeat (refine ⟨trivial, ?_⟩; conv => whnf)
  refine use_draw 1 rfl hd2 (by omega) (by omega) fun r d3 h1 h2 hd3 => ?_
  conv => whnf
  repeat (refine ⟨trivial, ?_⟩; conv => whnf)
  refine brI (fun h => ?_) (fun h => ?_)
  · conv => whnf
    repeat (refine ⟨trivial, ?_⟩; conv => whnf)
    exact ⟨nat_ _, k⟩
  · conv => whnf
    repeat (refine ⟨trivial, ?_⟩; conv => whnf)
    refine call_lent 1 [] rfl ⟨d3, rfl, hd3, fun d4 hd4 => ?_⟩
    conv => whnf
    repeat (refine ⟨trivial, ?_⟩; conv => whnf)
    exact ⟨nat_ _, k⟩
end AL
namespace AL
open PySem L2
/-! P15: names, asked. -/
theorem strOk_add {x y : Str} (h1 : PyData.strOk x = true) (h2 : PyData.strOk y = true) : PyData.strOk (x ++ y) = true := by
  show (x.cps ++ y.cps).all _ = true
  rw [Array.all_append]
  unfold PyData.strOk at h1 h2
  rw [h1, h2]
  rfl
theorem len_add (x y : Str) : (x ++ y).length = x.length + y.length := by
  show (x.cps ++ y.cps).size = _
  rw [Array.size_append]
  rfl
theorem join_ok : ∀ {ys : List Str}, (∀ y ∈ ys, PyData.strOk y = true ∧ y.length = 1) → PyData.strOk (Txt.join "" ys) = true ∧ (Txt.join "" ys).length = ys.length := by
  intro ys h
  have e : Txt.join "" ys = Str.join "" ys := StrLaws.glued_eq_join "" ys
  rw [e]
  induction ys with
  | nil => exact ⟨by decide +kernel, by decide +kernel⟩
  | cons a r ih =>
    cases r with
    | nil => exact h a List.mem_cons_self
    | cons b q =>
      have := ih (fun y hy => h y (List.mem_cons_of_mem _ hy)) (StrLaws.glued_eq_join "" (b :: q))
      obtain ⟨a1, a2⟩ := h a List.mem_cons_self
      show PyData.strOk (a ++ "" ++ Str.join "" (b :: q)) = true ∧ (a ++ "" ++ Str.join "" (b :: q)).length = _
      refine ⟨strOk_add (strOk_add a1 (by decide +kernel)) this.1, ?_⟩
      rw [len_add, len_add, this.2, a2]
      have : ("" : Str).length = 0 := by decide +kernel
      rw [this]
      simp only [List.length_cons]
      omega
def letD : Str := "abcdefghijklmnopqrstuvwxyz"
theorem let_len : letD.cps.toList.length = 26 := by decide +kernel
theorem let_ok : ∀ c ∈ letD.cps.toList, PyData.strOk ⟨#[c]⟩ = true := by decide +kernel
theorem outs_strs {S : D → Option D → Prop} (h : ∀ y z, S y (some z) → ∃ c ∈ letD.cps.toList, z = .str ⟨#[c]⟩) : ∀ {ds zs : List D}, Outs S ds zs → ∃ ys : List Str, zs = ys.map D.str ∧ (∀ y ∈ ys, PyData.strOk y = true ∧ y.length = 1) ∧ ys.length ≤ ds.length
  | _, _, .nil => ⟨[], rfl, (fun y h => nomatch h), Nat.le_refl _⟩
  | _, _, .yes s o => by
    obtain ⟨ys, rfl, ok, hl⟩ := outs_strs h o
    obtain ⟨c, hc, rfl⟩ := h _ _ s
    refine ⟨⟨#[c]⟩ :: ys, rfl, fun y hy => ?_, Nat.succ_le_succ hl⟩
    rcases List.mem_cons.mp hy with e | e
    · rw [e]; exact ⟨let_ok c hc, rfl⟩
    · exact ok y e
  | _, _, .no s o => by
    obtain ⟨ys, e, ok, hl⟩ := outs_strs h o
    exact ⟨ys, e, ok, Nat.le_succ_of_le hl⟩
theorem sum_ones : ∀ {ys : List Str}, (∀ y ∈ ys, PyData.strOk y = true ∧ y.length = 1) → (ys.map (·.length)).sum = ys.length
  | [], _ => rfl
  | y :: ys, h => by
    rw [List.map_cons, List.sum_cons, sum_ones fun z hz => h z (List.mem_cons_of_mem _ hz), (h y List.mem_cons_self).2, List.length_cons]
    omega
theorem p_law_names : BodyOk 2 7 B_law_names a_law_names S_law_names := by
  rintro _ R ⟨d, many, rfl, hd, h0, h9, k⟩
  refine ⟨rfl, own0 (ds := [_]) rfl, ?_⟩
  conv => whnf
  repeat (refine ⟨trivial, ?_⟩; conv => whnf)
  refine ⟨Nat.zero_le _, ?_⟩
  conv => whnf
  repeat (refine ⟨trivial, ?_⟩; conv => whnf)
  refine ⟨⟨by omega, by omega⟩, ?_⟩
  refine for_ind (Iv := fun items env => ∃ (d' : D) (ns : List Str) (x4 x5 : AV), env = [.own d', .dat (.int many), .dat (.str letD), .own (.lst (ns.map D.str)), x4, x5, .un] ∧ Dr d' ∧ ns.length + items.length = many.toNat ∧ (∀ x ∈ ns, PyData.strOk x = true) ∧ ∀ z ∈ items, ∃ i : Int, 0 ≤ i ∧ z = .int i) ?_ ?_ _ _ ⟨d, [], .un, .un, rfl, hd, (by rw [range_len]; simp), (fun x h => nomatch h), fun z hz => ?_⟩
  · rintro env ⟨d', ns, x4, x5, rfl, hd', hl, ok, _⟩
    conv => whnf
    repeat (refine ⟨trivial, ?_⟩; conv => whnf)
    exact ⟨rfl, new_ _, k ns d' (by simpa using hl) ok hd'⟩
  · rintro y ds env M hM ⟨d', ns, x4, x5, rfl, hd', hl, ok, hit⟩
    obtain ⟨i, i0, rfl⟩ := hit y List.mem_cons_self
    rw [List.length_cons] at hl
    conv => whnf
    repeat (refine ⟨trivial, ?_⟩; conv => whnf)
    refine use_draw 0 rfl hd' (by omega) (by omega) fun r d2 h1 h2 hd2 => ?_
    conv => whnf
    repeat (refine ⟨trivial, ?_⟩; conv => whnf)
    refine ⟨⟨by omega, by omega⟩, ?_⟩
    refine ⟨noOwn_one (x := .un) rfl (fun e z => by cases z), sz_le (by rw [range_len]; omega), ?_⟩
    refine lc_ind (Ev := fun env => ∃ d3, Dr d3 ∧ env = [.own d3, .dat (.int many), .dat (.str letD), .own (.lst (ns.map D.str)), .dat (.int i), x5, .un]) (Stp := fun y oz => ∀ z, oz = some z → ∃ c ∈ letD.cps.toList, z = .str ⟨#[c]⟩) _ ?_ _ _ ⟨d2, hd2, rfl⟩ ?_
    · rintro y hy _ K ⟨d3, hd3, rfl⟩ hK
      conv => whnf
      repeat (refine ⟨trivial, ?_⟩; conv => whnf)
      rw [brP_true]
      conv => whnf
      repeat (refine ⟨trivial, ?_⟩; conv => whnf)
      refine use_pick 0 (letD.cps.toList.map fun c => D.str ⟨#[c]⟩) rfl hd3 rfl ?_ ?_ fun z d4 mz hd4 => ?_
      · intro e
        have := congrArg List.length e
        rw [List.length_map, let_len] at this
        cases this
      · rw [List.length_map, let_len]; omega
      · obtain ⟨c, hc, rfl⟩ := List.mem_map.mp mz
        conv => whnf
        repeat (refine ⟨trivial, ?_⟩; conv => whnf)
        exact hK _ _ ⟨d4, hd4, rfl⟩ fun z e => ⟨c, hc, (Option.some.inj e).symm⟩
    · rintro zs _ o ⟨d3, hd3, rfl⟩
      obtain ⟨ys, rfl, yok, yl⟩ := outs_strs (fun y z h => h z rfl) o
      rw [range_len] at yl
      obtain ⟨j1, j2⟩ := join_ok yok
      conv => whnf
      repeat (refine ⟨trivial, ?_⟩; conv => whnf)
      have l0 : ("" : Str).length = 0 := by decide +kernel
      have lq : ("q" : Str).length = 1 := by decide +kernel
      refine ⟨ys, rfl, by rw [sum_ones yok, l0]; omega, ?_⟩
      conv => whnf
      repeat (refine ⟨trivial, ?_⟩; conv => whnf)
      refine ⟨⟨_, rfl⟩, ?_⟩
      conv => whnf
      repeat (refine ⟨trivial, ?_⟩; conv => whnf)
      refine ⟨sz_le (by rw [j2, lq]; omega), ?_⟩
      conv => whnf
      repeat (refine ⟨trivial, ?_⟩; conv => whnf)
      refine ⟨by omega, ?_⟩
      conv => whnf
      repeat (refine ⟨trivial, ?_⟩; conv => whnf)
      unfold fIx
      have hm : 0 ≤ i % 26 := Int.emod_nonneg _ (by omega)
      have hm2 : i % 26 < 26 := Int.emod_lt_of_pos _ (by omega)
      have lt : (i % 26).toNat < letD.cps.toList.length := by rw [let_len]; omega
      refine ⟨by decide +kernel, letD.cps.toList[(i % 26).toNat], ?_, ?_⟩
      · unfold atI
        have : ixN letD.cps.toList.length (i % 26) = some (i % 26).toNat := by
          unfold ixN
          rw [if_pos hm, if_pos (by rw [let_len]; omega)]
        rw [this]
        exact List.getElem?_eq_getElem lt
      · conv => whnf
        repeat (refine ⟨trivial, ?_⟩; conv => whnf)
        refine ⟨sz_le (by rw [len_add, j2, lq]; show _ + 1 ≤ _; omega), ?_⟩
        conv => whnf
        repeat (refine ⟨trivial, ?_⟩; conv => whnf)
        refine ⟨by rw [List.length_map]; exact sz_lt (by omega), ?_⟩
        conv => whnf
        repeat (refine ⟨trivial, ?_⟩; conv => whnf)
        refine hM _ ⟨d3, ns ++ [Txt.join "" ys ++ "q" ++ ⟨#[letD.cps.toList[(i % 26).toNat]]⟩], _, _, by rw [List.map_append]; rfl, hd3, by rw [List.length_append, List.length_singleton]; omega, fun x hx => ?_, fun z hz => hit z (List.mem_cons_of_mem _ hz)⟩
        rcases List.mem_append.mp hx with h | h
        · exact ok x h
        · rw [List.mem_singleton] at h
          rw [h]
          exact strOk_add (strOk_add j1 (by decide +kernel)) (let_ok _ (List.getElem_mem lt))
  · obtain ⟨i, _, rfl⟩ := List.mem_map.mp hz
    exact ⟨0 + (i : Int), by omega, rfl⟩
theorem use_names {env : AEnv} (j : Nat) {d : D} {many : Int} {R : RV → AEnv → Prop} (e : env[j]? = some (.own d)) (hd : Dr d) (h0 : 0 ≤ many) (h9 : many ≤ 1000) (k : ∀ (ns : List Str) d', ns.length = many.toNat → (∀ x ∈ ns, PyData.strOk x = true) → Dr d' → R (.new (.lst (ns.map D.str))) (env.set j (.own d'))) : callR S_law_names [.at j, .dat (.int many)] env R :=
  call_lent j [.int many] e ⟨d, many, rfl, hd, h0, h9, fun ns d' a b c => k ns d' a b c⟩
/-! asked -/
theorem sub_map {α β : Type} {f : α → β} : ∀ {xs : List α} {l : List β}, l.Sublist (xs.map f) → ∃ ys : List α, l = ys.map f ∧ ys.Sublist xs
  | [], l, h => by
    have := List.sublist_nil.mp h
    exact ⟨[], this, List.Sublist.refl _⟩
  | x :: xs, l, h => by
    cases h with
    | cons _ h =>
      obtain ⟨ys, e, s⟩ := sub_map h
      exact ⟨ys, e, s.cons _⟩
    | cons_cons _ h =>
      obtain ⟨ys, e, s⟩ := sub_map h
      exact ⟨x :: ys, by rw [e]; rfl, s.cons_cons _⟩
theorem outs_ints {P : Int → Prop} {S : D → Option D → Prop} (h : ∀ y z, S y (some z) → ∃ t, P t ∧ z = .int t) : ∀ {ds zs : List D}, Outs S ds zs → ∃ ts : List Int, zs = ts.map D.int ∧ (∀ t ∈ ts, P t) ∧ ts.length ≤ ds.length
  | _, _, .nil => ⟨[], rfl, (fun y h => nomatch h), Nat.le_refl _⟩
  | _, _, .yes s o => by
    obtain ⟨ts, rfl, ok, hl⟩ := outs_ints h o
    obtain ⟨t, ht, rfl⟩ := h _ _ s
    refine ⟨t :: ts, rfl, fun y hy => ?_, Nat.succ_le_succ hl⟩
    rcases List.mem_cons.mp hy with e | e
    · rw [e]; exact ht
    · exact ok y e
  | _, _, .no s o => by
    obtain ⟨ts, e, ok, hl⟩ := outs_ints h o
    exact ⟨ts, e, ok, Nat.le_succ_of_le hl⟩
theorem seq_itemsOf {d : D} {l : List D} (h : seqOf d = some l) : itemsOf d = some l := by
  rcases seq_items h with rfl | rfl <;> exact h
theorem p_law_asked : BodyOk 4 9 B_law_asked a_law_asked S_law_asked := by
  rintro _ R ⟨d, tb, tabs, many, tm, terms, rfl, hd, htb, htm, h0, h9, hne, htl, htl2, htab, k⟩
  refine ⟨rfl, own0 (ds := [_, _, _]) rfl, ?_⟩
  conv => whnf
  repeat (refine ⟨trivial, ?_⟩; conv => whnf)
  refine ⟨Nat.zero_le _, ?_⟩
  conv => whnf
  repeat (refine ⟨trivial, ?_⟩; conv => whnf)
  refine ⟨⟨by omega, by omega⟩, ?_⟩
  refine for_ind (Iv := fun items env => ∃ (d' : D) (rs : List Row) (x5 x6 x7 : AV), env = [.own d', .dat tb, .dat (.int many), .dat tm, .own (.lst (rs.map rowD)), x5, x6, x7, .un] ∧ Dr d' ∧ rs.length + items.length = many.toNat ∧ (∀ r ∈ rs, RowOk r) ∧ ∀ r ∈ rs, ∀ t ∈ r.2, t ∈ terms) ?_ ?_ _ _ ⟨d, [], .un, .un, .un, rfl, hd, (by rw [range_len]; simp), (fun x h => nomatch h), (fun x h => nomatch h)⟩
  · rintro env ⟨d', rs, x5, x6, x7, rfl, hd', hl, ok, hin⟩
    have hl2 : rs.length = many.toNat := by simpa using hl
    conv => whnf
    repeat (refine ⟨trivial, ?_⟩; conv => whnf)
    refine use_unlike (rs.map rowD) 2 rfl (by rw [List.length_map]; omega) (by omega) (fun x hx => ?_) fun l' sl all => ?_
    · obtain ⟨r, hr, rfl⟩ := List.mem_map.mp hx
      exact rowD_pl (ok r hr)
    · obtain ⟨rs', rfl, sl2⟩ := sub_map sl
      conv => whnf
      repeat (refine ⟨trivial, ?_⟩; conv => whnf)
      refine ⟨new_ _, k rs' d' ?_ ⟨?_, fun r hr => ok r (sl2.subset hr)⟩ (fun r hr => hin r (sl2.subset hr)) ?_ hd'⟩
      · rw [← hl2]; exact sl2.length_le
      · have := sl2.length_le
        omega
      · intro hp e
        subst e
        cases rs with
        | nil => simp at hl2; omega
        | cons r q =>
          have := all (rowD r) (by simp)
          cases this
  · rintro y ds env M hM ⟨d', rs, x5, x6, x7, rfl, hd', hl, ok, hin⟩
    rw [List.length_cons] at hl
    obtain ⟨ne1, ne2⟩ := hne (by omega)
    conv => whnf
    repeat (refine ⟨trivial, ?_⟩; conv => whnf)
    refine use_pick 0 (tabs.map tabD) rfl hd' (seq_itemsOf htb) (by simpa using ne1) (by rw [List.length_map]; omega) fun z d2 mz hd2 => ?_
    obtain ⟨tab, htb2, rfl⟩ := List.mem_map.mp mz
    obtain ⟨t1, t2, t3⟩ := htab tab htb2
    conv => whnf
    repeat (refine ⟨trivial, ?_⟩; conv => whnf)
    refine ⟨rfl, ?_⟩
    conv => whnf
    repeat (refine ⟨trivial, ?_⟩; conv => whnf)
    refine ⟨rfl, ?_⟩
    conv => whnf
    repeat (refine ⟨trivial, ?_⟩; conv => whnf)
    refine ⟨⟨_, rfl⟩, ?_⟩
    conv => whnf
    repeat (refine ⟨trivial, ?_⟩; conv => whnf)
    refine ⟨⟨by omega, by omega⟩, ?_⟩
    refine ⟨noOwn_one (x := .un) rfl (fun e z => by cases z), sz_le (by rw [range_len]; omega), ?_⟩
    refine lc_ind (Ev := fun env => ∃ d3, Dr d3 ∧ env = [.own d3, .dat tb, .dat (.int many), .dat tm, .own (.lst (rs.map rowD)), .dat y, .dat (.str tab.1), .dat (.int tab.2), .un]) (Stp := fun y oz => ∀ z, oz = some z → ∃ t, t ∈ terms ∧ z = .int t) _ ?_ _ _ ⟨d2, hd2, rfl⟩ ?_
    · rintro y hy _ K ⟨d3, hd3, rfl⟩ hK
      conv => whnf
      repeat (refine ⟨trivial, ?_⟩; conv => whnf)
      rw [brP_true]
      conv => whnf
      repeat (refine ⟨trivial, ?_⟩; conv => whnf)
      refine use_pick 0 (terms.map D.int) rfl hd3 (seq_itemsOf htm) (by simpa using ne2) (by rw [List.length_map]; omega) fun z d4 mz hd4 => ?_
      obtain ⟨t, ht, rfl⟩ := List.mem_map.mp mz
      conv => whnf
      repeat (refine ⟨trivial, ?_⟩; conv => whnf)
      exact hK _ _ ⟨d4, hd4, rfl⟩ fun z e => ⟨t, ht, (Option.some.inj e).symm⟩
    · rintro zs _ o ⟨d3, hd3, rfl⟩
      obtain ⟨ts, rfl, tin, tl⟩ := outs_ints (P := (· ∈ terms)) (fun y z h => h z rfl) o
      rw [range_len] at tl
      conv => whnf
      repeat (refine ⟨trivial, ?_⟩; conv => whnf)
      refine ⟨sz2, ?_⟩
      conv => whnf
      repeat (refine ⟨trivial, ?_⟩; conv => whnf)
      refine ⟨by rw [List.length_map]; exact sz_lt (by omega), ?_⟩
      conv => whnf
      repeat (refine ⟨trivial, ?_⟩; conv => whnf)
      refine hM _ ⟨d3, rs ++ [(tab.1, ts)], _, _, _, by rw [List.map_append]; rfl, hd3, by rw [List.length_append, List.length_singleton]; omega, fun r hr => ?_, fun r hr => ?_⟩
      · rcases List.mem_append.mp hr with h | h
        · exact ok r h
        · rw [List.mem_singleton] at h
          rw [h]
          exact ⟨t1, by show ts.length ≤ 100; omega⟩
      · rcases List.mem_append.mp hr with h | h
        · exact hin r h
        · rw [List.mem_singleton] at h
          rw [h]
          exact tin
theorem use_asked {env : AEnv} (j : Nat) {d tb tm : D} {many : Int} (tabs : List (Str × Int)) (terms : List Int) {R : RV → AEnv → Prop} (e : env[j]? = some (.own d)) (hd : Dr d) (htb : seqOf tb = some (tabs.map tabD)) (htm : seqOf tm = some (terms.map D.int)) (h0 : 0 ≤ many) (h9 : many ≤ 900) (hne : 0 < many → tabs ≠ [] ∧ terms ≠ []) (htl : tabs.length ≤ 1000) (htl2 : terms.length ≤ 1000) (htab : ∀ t ∈ tabs, PyData.strOk t.1 = true ∧ 0 ≤ t.2 ∧ t.2 ≤ 100)
    (k : ∀ (rs : List Row) d', rs.length ≤ many.toNat → RowsOk rs → (∀ r ∈ rs, ∀ t ∈ r.2, t ∈ terms) → (0 < many → rs ≠ []) → Dr d' → R (.new (.lst (rs.map rowD))) (env.set j (.own d'))) : callR S_law_asked [.at j, .dat tb, .dat (.int many), .dat tm] env R :=
  call_lent j [tb, .int many, tm] e ⟨d, tb, tabs, many, tm, terms, rfl, hd, htb, htm, h0, h9, hne, htl, htl2, htab, fun rs d' a b c x y => k rs d' a b c x y⟩
end AL
namespace AL
open PySem L2
/-! P16: bent. -/
def rowOf : D → Row
  | .tup [.str n, .tup l] => (n, l.map intOf)
  | _ => ("", [])
theorem rowOf_D (r : Row) : rowOf (rowD r) = r := by
  show (r.1, (r.2.map D.int).map intOf) = r
  rw [List.map_map]
  have e : (intOf ∘ D.int) = id := rfl
  rw [e, List.map_id]
theorem perm_rows {l : List D} {xs : List Row} (p : l.Perm (xs.map rowD)) : ∃ ys : List Row, l = ys.map rowD ∧ ys.Perm xs := by
  have p2 := p.map rowOf
  rw [List.map_map] at p2
  have e : (rowOf ∘ rowD) = id := funext rowOf_D
  rw [e, List.map_id] at p2
  refine ⟨l.map rowOf, ?_, p2⟩
  rw [List.map_map]
  refine (List.map_congr_left (g := id) fun z hz => ?_).trans (List.map_id l) |>.symm
  obtain ⟨i, _, rfl⟩ := List.mem_map.mp (p.mem_iff.mp hz)
  show rowD (rowOf (rowD i)) = rowD i
  rw [rowOf_D]
theorem outs_bls {S : D → Option D → Prop} (h : ∀ y z, S y (some z) → ∃ b, z = .bl b) : ∀ {ds zs : List D}, Outs S ds zs → ∃ bs : List Bool, zs = bs.map D.bl
  | _, _, .nil => ⟨[], rfl⟩
  | _, _, .yes s o => by
    obtain ⟨bs, rfl⟩ := outs_bls h o
    obtain ⟨b, rfl⟩ := h _ _ s
    exact ⟨b :: bs, rfl⟩
  | _, _, .no s o => outs_bls h o
theorem ints_pl (l : List Int) : ∀ x ∈ l.map D.int, Pl 0 x := fun x h => by
  obtain ⟨i, _, rfl⟩ := List.mem_map.mp h
  exact .int 0 i
set_option maxHeartbeats 0 in
theorem p_law_bent : BodyOk 4 10 B_law_bent a_law_bent S_law_bent := by
  rintro _ R ⟨d, rs, w, mk, rfl, hd, ok, hne, mne, ml, wl, k0⟩
  have k : ∀ (rs' : List Row) (w' : List Int) d', rs' ≠ [] → (∀ r ∈ rs', r ∈ rs) → rs'.length ≤ rs.length → w'.length ≤ w.length + 1 → Dr d' → R (.dat (.tup [.lst (rs'.map rowD), tmD w'])) [.own d', .dat (.lst (rs.map rowD)), .dat (tmD w), .dat (.lst (mk.map D.int))] := fun rs' w' d' => k0 rs' w' true d'
  refine ⟨rfl, own0 (ds := [_, _, _]) rfl, ?_⟩
  have vl := vars_len ok
  have rl := ok.1
  have pos : 0 < rs.length := List.length_pos_iff.mpr hne
  -- behind the first test
  have fin : ∀ (d' : D) (way : Int) (x6 x7 : AV), Dr d' → law_bent_0_3 { nx := fun env => R (.dat .non) (outs [.own d, .dat (.lst (rs.map rowD)), .dat (tmD w), .dat (.lst (mk.map D.int))] env), rt := fun r env => (∀ i, r ≠ .at i) ∧ R r (outs [.own d, .dat (.lst (rs.map rowD)), .dat (tmD w), .dat (.lst (mk.map D.int))] env) }
      [.own d', .dat (.lst (rs.map rowD)), .dat (tmD w), .dat (.lst (mk.map D.int)), .dat (.int way), .own (.lst ((vars rs ++ mk).map D.int)), x6, x7, .un, .un] := by
    intro d' way x6 x7 hd'
    have sne : vars rs ++ mk ≠ [] := by simp [mne]
    have sl : ((vars rs ++ mk).map D.int).length ≤ 1000000 := by rw [List.length_map, List.length_append]; omega
    have last : law_bent_0_4 { nx := fun env => R (.dat .non) (outs [.own d, .dat (.lst (rs.map rowD)), .dat (tmD w), .dat (.lst (mk.map D.int))] env), rt := fun r env => (∀ i, r ≠ .at i) ∧ R r (outs [.own d, .dat (.lst (rs.map rowD)), .dat (tmD w), .dat (.lst (mk.map D.int))] env) }
      [.own d', .dat (.lst (rs.map rowD)), .dat (tmD w), .dat (.lst (mk.map D.int)), .dat (.int way), .own (.lst ((vars rs ++ mk).map D.int)), x6, x7, .un, .un] := by
      conv => whnf
      repeat (refine ⟨trivial, ?_⟩; conv => whnf)
      refine eq_int ?_
      conv => whnf
      repeat (refine ⟨trivial, ?_⟩; conv => whnf)
      refine brI (fun h => ?_) (fun h => ?_)
      · conv => whnf
        repeat (refine ⟨trivial, ?_⟩; conv => whnf)
        refine use_pick 0 _ rfl hd' rfl (by simpa using sne) sl fun z d2 mz hd2 => ?_
        obtain ⟨v, _, rfl⟩ := List.mem_map.mp mz
        conv => whnf
        repeat (refine ⟨trivial, ?_⟩; conv => whnf)
        refine ⟨sz1, ?_⟩
        conv => whnf
        repeat (refine ⟨trivial, ?_⟩; conv => whnf)
        refine ⟨sz_le (by rw [List.length_map]; show _ + 1 ≤ _; omega), ?_⟩
        conv => whnf
        repeat (refine ⟨trivial, ?_⟩; conv => whnf)
        refine ⟨sz2, ?_⟩
        conv => whnf
        repeat (refine ⟨trivial, ?_⟩; conv => whnf)
        refine ⟨nat_ _, ?_⟩
        have e : D.tup (w.map D.int ++ [D.int v]) = tmD (w ++ [v]) := by unfold tmD; rw [List.map_append]; rfl
        show R (.dat (.tup [.lst (rs.map rowD), .tup (w.map D.int ++ [D.int v])])) _
        rw [e]
        exact k rs (w ++ [v]) d2 hne (fun r h => h) (Nat.le_refl _) (by rw [List.length_append]; exact Nat.le_refl _) hd2
      · conv => whnf
        repeat (refine ⟨trivial, ?_⟩; conv => whnf)
        refine eq_int ?_
        conv => whnf
        repeat (refine ⟨trivial, ?_⟩; conv => whnf)
        refine brI (fun h => ?_) (fun h => ?_)
        · conv => whnf
          repeat (refine ⟨trivial, ?_⟩; conv => whnf)
          rw [cutD_map, cut_init]
          refine ⟨sz2, ?_⟩
          conv => whnf
          repeat (refine ⟨trivial, ?_⟩; conv => whnf)
          refine ⟨nat_ _, ?_⟩
          exact k rs (w.take (w.length - 1)) d' hne (fun r h => h) (Nat.le_refl _) (by rw [List.length_take]; omega) hd'
        · conv => whnf
          repeat (refine ⟨trivial, ?_⟩; conv => whnf)
          refine ⟨sz2, ?_⟩
          conv => whnf
          repeat (refine ⟨trivial, ?_⟩; conv => whnf)
          exact ⟨nat_ _, k rs w d' hne (fun r h => h) (Nat.le_refl _) (by omega) hd'⟩
    conv => whnf
    repeat (refine ⟨trivial, ?_⟩; conv => whnf)
    refine eq_int ?_
    conv => whnf
    repeat (refine ⟨trivial, ?_⟩; conv => whnf)
    refine brI (fun h => ?_) (fun h => ?_)
    · conv => whnf
      repeat (refine ⟨trivial, ?_⟩; conv => whnf)
      rw [List.length_map]
      refine brI (fun h => ?_) (fun h => ?_)
      · have wpos : 0 < w.length := by simpa using h
        conv => whnf
        repeat (refine ⟨trivial, ?_⟩; conv => whnf)
        refine use_draw 0 rfl hd' (by rw [List.length_map]; omega) (by rw [List.length_map]; omega) fun r d2 h1 h2 hd2 => ?_
        rw [List.length_map] at h2
        obtain ⟨i, rfl⟩ := toNat_eq h1
        have hi : i < w.length := by omega
        conv => whnf
        repeat (refine ⟨trivial, ?_⟩; conv => whnf)
        refine use_pick 0 _ rfl hd2 rfl (by simpa using sne) sl fun z d3 mz hd3 => ?_
        obtain ⟨v, _, rfl⟩ := List.mem_map.mp mz
        conv => whnf
        repeat (refine ⟨trivial, ?_⟩; conv => whnf)
        refine ⟨sz1, ?_⟩
        conv => whnf
        repeat (refine ⟨trivial, ?_⟩; conv => whnf)
        have lc : (cutD (w.map D.int) none (some (i : Int))).length ≤ 900 := Nat.le_trans (cutD_len _ _ _) (by rw [List.length_map]; exact wl)
        have ld : (cutD (w.map D.int) (some ((i : Int) + 1)) none).length ≤ 900 := Nat.le_trans (cutD_len _ _ _) (by rw [List.length_map]; exact wl)
        refine ⟨sz_le (by show _ + 1 ≤ _; omega), ?_⟩
        conv => whnf
        repeat (refine ⟨trivial, ?_⟩; conv => whnf)
        refine ⟨sz_le (by rw [List.length_append]; show _ + 1 + _ ≤ _; omega), ?_⟩
        conv => whnf
        repeat (refine ⟨trivial, ?_⟩; conv => whnf)
        refine ⟨sz2, ?_⟩
        conv => whnf
        repeat (refine ⟨trivial, ?_⟩; conv => whnf)
        refine ⟨nat_ _, ?_⟩
        show R (.dat (.tup [.lst (rs.map rowD), .tup (cutD (w.map D.int) none (some (i : Int)) ++ [D.int v] ++ cutD (w.map D.int) (some ((i : Int) + 1)) none)])) _
        rw [exch_D w i v hi]
        exact k rs (exch w i v) d3 hne (fun r h => h) (Nat.le_refl _) (by rw [exch_len _ _ _ hi]; omega) hd3
      · exact last
    · conv => whnf
      repeat (refine ⟨trivial, ?_⟩; conv => whnf)
      rw [brP_false]
      exact last
  conv => whnf
  repeat (refine ⟨trivial, ?_⟩; conv => whnf)
  refine use_draw 0 rfl hd (by omega) (by omega) fun way d1 h1 h2 hd1 => ?_
  conv => whnf
  repeat (refine ⟨trivial, ?_⟩; conv => whnf)
  refine use_variables rs rfl ok ?_
  conv => whnf
  repeat (refine ⟨trivial, ?_⟩; conv => whnf)
  refine ⟨sz_le (by rw [List.length_map, List.length_map]; omega), ?_⟩
  have est : (vars rs).map D.int ++ mk.map D.int = (vars rs ++ mk).map D.int := by rw [List.map_append]
  conv => whnf
  repeat (refine ⟨trivial, ?_⟩; conv => whnf)
  rw [est]
  refine eq_int ?_
  conv => whnf
  repeat (refine ⟨trivial, ?_⟩; conv => whnf)
  refine brI (fun h => ?_) (fun h => ?_)
  · conv => whnf
    repeat (refine ⟨trivial, ?_⟩; conv => whnf)
    rw [List.length_map]
    refine brI (fun h => ?_) (fun h => ?_)
    · have two : 1 < rs.length := by
        have : (1 : Int) < rs.length := by simpa using h
        omega
      conv => whnf
      repeat (refine ⟨trivial, ?_⟩; conv => whnf)
      refine use_mixed 0 (rs.map rowD) rfl hd1 rfl (by rw [List.length_map]; omega) fun l' d2 pm hd2 => ?_
      obtain ⟨ys, rfl, pm2⟩ := perm_rows pm
      have yl := pm2.length_eq
      have ec : cutD (ys.map rowD) (some 1) none = (ys.drop 1).map rowD := by
        rw [cutD_map]
        exact congrArg _ (cut_from ys 1 (by omega))
      have ok2 : RowsOk (ys.drop 1) := sub_ok ok (fun r hr => pm2.mem_iff.mp (List.mem_of_mem_drop hr)) (by rw [List.length_drop]; omega)
      conv => whnf
      repeat (refine ⟨trivial, ?_⟩; conv => whnf)
      rw [ec]
      refine use_variables (ys.drop 1) rfl ok2 ?_
      conv => whnf
      repeat (refine ⟨trivial, ?_⟩; conv => whnf)
      intro _
      refine ⟨noOwn_one (x := .un) rfl (fun e z => by cases z), sz_le (by rw [List.length_map]; omega), ?_⟩
      refine lc_ind (Ev := fun env => env = [.own d2, .dat (.lst (rs.map rowD)), .dat (tmD w), .dat (.lst (mk.map D.int)), .dat (.int way), .own (.lst ((vars rs ++ mk).map D.int)), .dat (.lst ((ys.drop 1).map rowD)), .own (.lst ((vars (ys.drop 1)).map D.int)), .un, .un]) (Stp := fun y oz => ∀ z, oz = some z → ∃ b, z = .bl b) _ ?_ _ _ rfl ?_
      · rintro y hy _ K rfl hK
        obtain ⟨t, ht, rfl⟩ := List.mem_map.mp hy
        conv => whnf
        repeat (refine ⟨trivial, ?_⟩; conv => whnf)
        refine brI (fun h => ?_) (fun h => ?_)
        · conv => whnf
          repeat (refine ⟨trivial, ?_⟩; conv => whnf)
          refine in_lst (.int 0 t) (ints_pl _) ?_
          conv => whnf
          repeat (refine ⟨trivial, ?_⟩; conv => whnf)
          exact hK _ _ rfl fun z e => ⟨_, (Option.some.inj e).symm⟩
        · exact hK _ _ rfl fun z e => nomatch e
      · rintro zs _ o rfl
        obtain ⟨bs, rfl⟩ := outs_bls (fun y z h => h z rfl) o
        conv => whnf
        repeat (refine ⟨trivial, ?_⟩; conv => whnf)
        refine ⟨bs, rfl, ?_⟩
        conv => whnf
        repeat (refine ⟨trivial, ?_⟩; conv => whnf)
        refine brI (fun h => ?_) (fun h => ?_)
        · conv => whnf
          repeat (refine ⟨trivial, ?_⟩; conv => whnf)
          refine ⟨sz2, ?_⟩
          conv => whnf
          repeat (refine ⟨trivial, ?_⟩; conv => whnf)
          refine ⟨nat_ _, ?_⟩
          refine k (ys.drop 1) w d2 (fun e => ?_) (fun r hr => pm2.mem_iff.mp (List.mem_of_mem_drop hr)) (by rw [List.length_drop]; omega) (by omega) hd2
          have := congrArg List.length e
          rw [List.length_drop] at this
          simp at this
          omega
        · exact fin d2 way _ _ hd2
    · exact fin d1 way _ _ hd1
  · conv => whnf
    repeat (refine ⟨trivial, ?_⟩; conv => whnf)
    rw [brP_false]
    exact fin d1 way _ _ hd1
theorem use_bent {env : AEnv} (j : Nat) {d : D} (rs : List Row) (w mk : List Int) {R : RV → AEnv → Prop} (e : env[j]? = some (.own d)) (hd : Dr d) (ok : RowsOk rs) (hne : rs ≠ []) (mne : mk ≠ []) (ml : mk.length ≤ 100) (wl : w.length ≤ 900) (k : ∀ (rs' : List Row) (w' : List Int) d', rs' ≠ [] → (∀ r ∈ rs', r ∈ rs) → rs'.length ≤ rs.length → w'.length ≤ w.length + 1 → Dr d' → R (.dat (.tup [.lst (rs'.map rowD), tmD w'])) (env.set j (.own d'))) : callR S_law_bent [.at j, .dat (.lst (rs.map rowD)), .dat (tmD w), .dat (.lst (mk.map D.int))] env R :=
  call_lent j [.lst (rs.map rowD), tmD w, .lst (mk.map D.int)] e ⟨d, rs, w, mk, rfl, hd, ok, hne, mne, ml, wl, fun rs' w' _ d' a b c x y => k rs' w' d' a b c x y⟩
end AL
namespace AL
open PySem L2
/-! P17: the end of scene. -/
def SceneEnd (A : AEnds) : Prop := ∀ b t is d' es, PairOk b t is → t.rows ≠ [] → b.spans.length ≤ 900 → t.wide.length ≤ 900 → Dr d' → A.rt (.dat (.tup [treeD b, treeD t, nmD (vars b.rows) is])) (.own d' :: es)
def cellsD (low high : Int) : List D := [.tup [.int 0, .int low], .tup [.int low, .int high], .tup [.int high, .int 1000]]
def menu2D (low high : Int) : List D := cellsD low high ++ [.tup [.int 0, .int high], .tup [.int low, .int 1000], .tup [.int 0, .int 1000]]
structure LowHigh (low high : Int) : Prop where
  l1 : 100 ≤ low
  l2 : low ≤ 400
  h1 : low ≤ high
  h2 : high ≤ 800
theorem outs_ex {α : Type} {f : α → D} {P : α → Prop} {S : D → Option D → Prop} (h : ∀ y oz, S y oz → ∃ a, P a ∧ oz = some (f a)) : ∀ {ds zs : List D}, Outs S ds zs → ∃ as : List α, zs = as.map f ∧ (∀ a ∈ as, P a) ∧ as.length = ds.length
  | _, _, .nil => ⟨[], rfl, (fun y h => nomatch h), rfl⟩
  | _, _, .yes s o => by
    obtain ⟨ts, rfl, ok, hl⟩ := outs_ex h o
    obtain ⟨t, ht, e⟩ := h _ _ s
    cases e
    refine ⟨t :: ts, rfl, fun y hy => ?_, by simp [hl]⟩
    rcases List.mem_cons.mp hy with e | e
    · rw [e]; exact ht
    · exact ok y e
  | _, _, .no s o => by
    obtain ⟨t, ht, e⟩ := h _ _ s
    cases e
theorem bnd_in {t : Tree} (h : ∀ s ∈ t.spans, 0 ≤ s.2.1 ∧ s.2.2 ≤ 1000) {x : Int} (hx : x ≤ 900) : 0 ≤ (bnd t x).1 ∧ (bnd t x).2 ≤ 1000 := by
  by_cases ge : 0 ≤ x
  · rw [bnd_ge ge]
    exact ⟨ge, by show x + 1 ≤ 1000; omega⟩
  · rw [bnd_lt ge]
    cases e : t.spans.find? (fun s => s.1 == x) with
    | none => exact ⟨Int.le_refl _, Int.le_refl _⟩
    | some s => exact h s (List.mem_of_find?_eq_some e)
def prD (p : Int × Int) : D := .tup [.int p.1, .int p.2]
theorem menu2_pr (low high : Int) : menu2D low high = ([(0, low), (low, high), (high, 1000), (0, high), (low, 1000), (0, 1000)] : List (Int × Int)).map prD := rfl
theorem prD_inj {p q : Int × Int} : prD p = prD q ↔ p = q := by
  unfold prD
  constructor
  · intro h
    injection h with h
    injection h with h1 h
    injection h with h2 h
    injection h1 with h1
    injection h2 with h2
    exact Prod.ext h1 h2
  · intro h; rw [h]
set_option maxHeartbeats 0 in
theorem scene_end {A : AEnds} (hA : SceneEnd A) {d : D} {tabs : List (Str × Int)} {low high : Int} {mk : List Int} {rs : List Row} {is wide : List Int} {t : Tree} {x6 x9 x11 x12 x14 x15 x16 x20 x21 x22 x23 x24 x25 x26 x27 : AV} (hd : Dr d) (htl : tabs.length ≤ 1000) (htn : tabs ≠ []) (htab : ∀ t ∈ tabs, PyData.strOk t.1 = true ∧ 0 ≤ t.2 ∧ t.2 ≤ 100) (lh : LowHigh low high)
    (mne : mk ≠ []) (mkl : mk.length ≤ 10) (ok : RowsOk rs) (rl : rs.length ≤ 10) (hl : is.length = (vars rs).length) (vl : (vars rs).length ≤ 400) (his : ∀ i ∈ is, i ≤ 900) (hw : Has (vars rs) wide) (wl : wide.length ≤ 100) (to : TreeOk t) (tne : t.rows ≠ []) (tb : ∀ s ∈ t.spans, 0 ≤ s.2.1 ∧ s.2.2 ≤ 1000) (big : ∀ r ∈ t.rows, ∀ x ∈ r.2, -1000000007 < x) (twl : t.wide.length ≤ 900) :
    law_scene_0_20 A [.own d, .dat (.lst (tabs.map tabD)), .dat (.int low), .dat (.int high), .dat (.lst (mk.map D.int)), .own (.lst (cellsD low high)), x6, .dat (.lst (rs.map rowD)), .dat (.lst ((vars rs).map D.int)), x9, .dat (nmD (vars rs) is), x11, x12, .dat (tmD wide), x14, x15, x16, .dat (treeD t), .un, .un, x20, x21, x22, x23, x24, x25, x26, x27, .un] := by
  have nd := vars_nodup rs
  have nok : NmOk (vars rs) is := ⟨hl.symm, nd, by omega, vars_neg _⟩
  conv => whnf
  repeat (refine ⟨trivial, ?_⟩; conv => whnf)
  refine ⟨Nat.zero_le _, ?_⟩
  conv => whnf
  repeat (refine ⟨trivial, ?_⟩; conv => whnf)
  refine use_downward (vars rs) rfl (by omega) fun ts pm pw => ?_
  have tl : ts.length = (vars rs).length := pm.length_eq
  have tnd : ts.Nodup := pm.nodup_iff.mpr nd
  have tin : ∀ u ∈ ts, u ∈ vars rs := fun u hu => pm.mem_iff.mp hu
  conv => whnf
  repeat (refine ⟨trivial, ?_⟩; conv => whnf)
  intro _
  refine for_ind (Iv := fun items env => ∃ (d' : D) (us : List Int) (sp : List Span) (y11 y21 y22 y25 y26 : AV), items = us.map D.int ∧ Dr d' ∧ us.Pairwise (· > ·) ∧ (∀ u ∈ us, u ∈ vars rs) ∧ sp.Pairwise (fun a b => b.1 < a.1) ∧ (∀ s ∈ sp, ∀ u ∈ us, u < s.1) ∧ sp.length + us.length ≤ 400 ∧
    env = [.own d', .dat (.lst (tabs.map tabD)), .dat (.int low), .dat (.int high), .dat (.lst (mk.map D.int)), .own (.lst (cellsD low high)), x6, .dat (.lst (rs.map rowD)), .dat (.lst ((vars rs).map D.int)), x9, .dat (nmD (vars rs) is), y11, x12, .dat (tmD wide), x14, x15, x16, .dat (treeD t), .own (.lst (sp.map spD)), .un, x20, y21, y22, x23, x24, y25, y26, x27, .un]) ?_ ?_ _ _ ⟨d, ts, [], _, _, _, _, _, rfl, hd, ?_, tin, List.Pairwise.nil, (fun s h => nomatch h), by simp; omega, rfl⟩
  · rintro env ⟨d', us, sp, y11, y21, y22, y25, y26, e, hd', _, _, spd, _, spl, rfl⟩
    conv => whnf
    repeat (refine ⟨trivial, ?_⟩; conv => whnf)
    refine use_draw 0 rfl hd' (by omega) (by omega) fun r d2 h1 h2 hd2 => ?_
    conv => whnf
    repeat (refine ⟨trivial, ?_⟩; conv => whnf)
    refine ⟨sz_le (by rw [List.length_map]; omega), ?_⟩
    conv => whnf
    repeat (refine ⟨trivial, ?_⟩; conv => whnf)
    refine ⟨sz_le (by rw [List.length_append, List.length_map, List.length_map]; omega), ?_⟩
    have est : ((vars rs).map D.int ++ (vars rs).map D.int) ++ mk.map D.int = (vars rs ++ vars rs ++ mk).map D.int := by rw [List.map_append, List.map_append]
    conv => whnf
    repeat (refine ⟨trivial, ?_⟩; conv => whnf)
    rw [est]
    refine use_asked 0 tabs (vars rs ++ vars rs ++ mk) rfl hd2 rfl rfl h1 (by omega) (fun _ => ⟨htn, by simp [mne]⟩) htl (by rw [List.length_append, List.length_append]; omega) htab fun ns d3 nl nok2 _ _ hd3 => ?_
    conv => whnf
    repeat (refine ⟨trivial, ?_⟩; conv => whnf)
    refine ⟨sz4, ?_⟩
    conv => whnf
    repeat (refine ⟨trivial, ?_⟩; conv => whnf)
    refine ⟨sz3, ?_⟩
    conv => whnf
    repeat (refine ⟨trivial, ?_⟩; conv => whnf)
    refine hA ⟨rs, ns, sp, wide⟩ t is d3 _ ⟨⟨ok, nok2, by show sp.length ≤ 1000; omega, by show wide.length ≤ 1000; omega, spd⟩, to, hl, by omega, hw, big⟩ tne (by show sp.length ≤ 900; omega) twl hd3
  · rintro y ds env M hM ⟨d', us, sp, y11, y21, y22, y25, y26, e, hd', usd, uin, spd, spu, spl, rfl⟩
    obtain ⟨u, q, rfl, rfl, rfl⟩ := map_cons_inv e.symm
    have hu := uin u List.mem_cons_self
    rw [List.pairwise_cons] at usd
    rw [List.length_cons] at spl
    obtain ⟨im, him⟩ := lk_some nok.len hu
    have imin : (lk (vars rs) is u).getD 0 ≤ 900 := by
      rw [him]
      obtain ⟨j, hj, ej⟩ := List.mem_iff_getElem.mp hu
      have := lk_at j hj (by rw [hl]; exact hj) nd
      rw [ej, him] at this
      injection this with this
      show im ≤ 900
      rw [this]
      exact his _ (List.getElem_mem _)
    obtain ⟨b1, b2⟩ := bnd_in tb imin
    conv => whnf
    repeat (refine ⟨trivial, ?_⟩; conv => whnf)
    refine use_draw 0 rfl hd' (by omega) (by omega) fun way d2 h1 h2 hd2 => ?_
    conv => whnf
    repeat (refine ⟨trivial, ?_⟩; conv => whnf)
    refine ix_names nok hu ?_
    conv => whnf
    repeat (refine ⟨trivial, ?_⟩; conv => whnf)
    refine use_bounds t _ to ?_
    conv => whnf
    repeat (refine ⟨trivial, ?_⟩; conv => whnf)
    refine ⟨rfl, ?_⟩
    conv => whnf
    repeat (refine ⟨trivial, ?_⟩; conv => whnf)
    refine ⟨rfl, ?_⟩
    conv => whnf
    repeat (refine ⟨trivial, ?_⟩; conv => whnf)
    refine ⟨sz2, ?_⟩
    conv => whnf
    repeat (refine ⟨trivial, ?_⟩; conv => whnf)
    refine ⟨sz2, ?_⟩
    conv => whnf
    repeat (refine ⟨trivial, ?_⟩; conv => whnf)
    refine ⟨sz2, ?_⟩
    conv => whnf
    repeat (refine ⟨trivial, ?_⟩; conv => whnf)
    refine ⟨sz3, ?_⟩
    conv => whnf
    repeat (refine ⟨trivial, ?_⟩; conv => whnf)
    refine ⟨sz_le (by show 3 + 3 ≤ _; omega), ?_⟩
    -- behind the menu
    have tail : ∀ (ms : List (Int × Int)), ms ≠ [] → ms.length ≤ 6 → law_scene_4_4 { nx := M, ct := M, bk := A.bk, rt := A.rt } [.own d2, .dat (.lst (tabs.map tabD)), .dat (.int low), .dat (.int high), .dat (.lst (mk.map D.int)), .own (.lst (cellsD low high)), x6, .dat (.lst (rs.map rowD)), .dat (.lst ((vars rs).map D.int)), x9, .dat (nmD (vars rs) is), .dat (.int u), x12, .dat (tmD wide), x14, x15, x16, .dat (treeD t), .own (.lst (sp.map spD)), .un, x20, .dat (.int way), .own (.lst (ms.map prD)), x23, x24, .dat (.int (bnd t ((lk (vars rs) is u).getD 0)).1), .dat (.int (bnd t ((lk (vars rs) is u).getD 0)).2), x27, .un] := by
      intro ms mne2 ml
      conv => whnf
      repeat (refine ⟨trivial, ?_⟩; conv => whnf)
      refine brI (fun h => ?_) (fun h => ?_)
      · conv => whnf
        repeat (refine ⟨trivial, ?_⟩; conv => whnf)
        refine ⟨⟨_, rfl⟩, ?_⟩
        conv => whnf
        repeat (refine ⟨trivial, ?_⟩; conv => whnf)
        refine ⟨sz1, ?_⟩
        conv => whnf
        repeat (refine ⟨trivial, ?_⟩; conv => whnf)
        refine use_pick 0 (ms.map prD) rfl hd2 rfl (by simpa using mne2) (by rw [List.length_map]; omega) fun z d3 mz hd3 => ?_
        obtain ⟨p, _, rfl⟩ := List.mem_map.mp mz
        conv => whnf
        repeat (refine ⟨trivial, ?_⟩; conv => whnf)
        refine ⟨sz3 (a := .non) (b := .non) (c := .non), ?_⟩
        conv => whnf
        repeat (refine ⟨trivial, ?_⟩; conv => whnf)
        refine ⟨by rw [List.length_map]; exact sz_lt (by omega), ?_⟩
        conv => whnf
        repeat (refine ⟨trivial, ?_⟩; conv => whnf)
        refine hM _ ⟨d3, q, sp ++ [(u, p.1, p.2)], _, _, _, _, _, rfl, hd3, usd.2, fun v hv => uin v (List.mem_cons_of_mem _ hv), ?_, fun s hs v hv => ?_, by rw [List.length_append, List.length_singleton]; omega, by rw [List.map_append]; rfl⟩
        · rw [List.pairwise_append]
          refine ⟨spd, List.pairwise_singleton _ _, fun a ha b hb => ?_⟩
          rw [List.mem_singleton] at hb
          rw [hb]
          exact spu a ha u List.mem_cons_self
        · rcases List.mem_append.mp hs with h | h
          · exact spu s h v (List.mem_cons_of_mem _ hv)
          · rw [List.mem_singleton] at h
            rw [h]
            exact usd.1 v hv
      · conv => whnf
        repeat (refine ⟨trivial, ?_⟩; conv => whnf)
        exact hM _ ⟨d2, q, sp, _, _, _, _, _, rfl, hd2, usd.2, fun v hv => uin v (List.mem_cons_of_mem _ hv), spd, fun s hs v hv => spu s hs v (List.mem_cons_of_mem _ hv), by omega, rfl⟩
    let ml : List (Int × Int) := [(0, low), (low, high), (high, 1000), (0, high), (low, 1000), (0, 1000)]
    conv => whnf
    repeat (refine ⟨trivial, ?_⟩; conv => whnf)
    refine brI (fun h => ?_) (fun h => ?_)
    · conv => whnf
      repeat (refine ⟨trivial, ?_⟩; conv => whnf)
      intro _
      refine ⟨noOwn_one (x := .un) rfl (fun e z => by cases z), sz_le (by show 6 ≤ _; omega), ?_⟩
      show lcL (agName 28) _ _ _ (ml.map prD) _ _
      refine lc_ind (Ev := fun env => env = [.own d2, .dat (.lst (tabs.map tabD)), .dat (.int low), .dat (.int high), .dat (.lst (mk.map D.int)), .own (.lst (cellsD low high)), x6, .dat (.lst (rs.map rowD)), .dat (.lst ((vars rs).map D.int)), x9, .dat (nmD (vars rs) is), .dat (.int u), x12, .dat (tmD wide), x14, x15, x16, .dat (treeD t), .own (.lst (sp.map spD)), .un, x20, .dat (.int way), .dat (.lst (ml.map prD)), x23, x24, .dat (.int (bnd t ((lk (vars rs) is u).getD 0)).1), .dat (.int (bnd t ((lk (vars rs) is u).getD 0)).2), x27, .un])
        (Stp := fun y oz => ∃ p : Int × Int, y = prD p ∧ oz = if decide (p.1 ≤ (bnd t ((lk (vars rs) is u).getD 0)).1) && decide ((bnd t ((lk (vars rs) is u).getD 0)).2 ≤ p.2) then some (prD p) else none) _ ?_ _ _ rfl ?_
      · rintro y hy _ K rfl hK
        obtain ⟨p, hp, rfl⟩ := List.mem_map.mp hy
        conv => whnf
        repeat (refine ⟨trivial, ?_⟩; conv => whnf)
        refine ix_tup (by omega) rfl ?_
        conv => whnf
        repeat (refine ⟨trivial, ?_⟩; conv => whnf)
        refine brI (fun h => ?_) (fun h => ?_)
        · conv => whnf
          repeat (refine ⟨trivial, ?_⟩; conv => whnf)
          refine ix_tup (by omega) rfl ?_
          conv => whnf
          repeat (refine ⟨trivial, ?_⟩; conv => whnf)
          refine brI (fun h2 => ?_) (fun h2 => ?_)
          · conv => whnf
            repeat (refine ⟨trivial, ?_⟩; conv => whnf)
            exact hK _ _ rfl ⟨p, rfl, by rw [h, h2]; rfl⟩
          · exact hK _ _ rfl ⟨p, rfl, by rw [h, h2]; rfl⟩
        · conv => whnf
          repeat (refine ⟨trivial, ?_⟩; conv => whnf)
          rw [brP_false]
          exact hK _ _ rfl ⟨p, rfl, by rw [h]; rfl⟩
      · rintro zs _ o rfl
        have ez := o.filter (p := fun p : Int × Int => decide (p.1 ≤ (bnd t ((lk (vars rs) is u).getD 0)).1) && decide ((bnd t ((lk (vars rs) is u).getD 0)).2 ≤ p.2)) fun p oz ⟨r, e1, e2⟩ => by
          rw [prD_inj.mp e1]
          exact e2
        rw [ez]
        refine tail _ (fun e => ?_) (Nat.le_trans (List.length_filter_le _ _) (by show 6 ≤ 6; omega))
        have : ((0, 1000) : Int × Int) ∈ ml.filter (fun p : Int × Int => decide (p.1 ≤ (bnd t ((lk (vars rs) is u).getD 0)).1) && decide ((bnd t ((lk (vars rs) is u).getD 0)).2 ≤ p.2)) := by
          refine List.mem_filter.mpr ⟨by simp [ml], ?_⟩
          rw [decide_eq_true b1, decide_eq_true b2]
          rfl
        rw [e] at this
        cases this
    · exact tail ml (by simp [ml]) (by show 6 ≤ 6; omega)
  · exact (pw.and tnd).imp fun h => by
      have h1 := h.1
      have h2 := h.2
      omega
end AL
namespace AL
open PySem L2
/-! P18: the middle of scene. -/
theorem vars_len2 {rs : List Row} (ok : RowsOk rs) : (vars rs).length ≤ 100 * rs.length := by
  have := varsFrom_len rs (told := []) ok.2
  unfold vars
  simpa using this
theorem rows_filter_sub {α : Type} {p : α → Bool} {l : List α} : ∀ x ∈ l.filter p, x ∈ l := fun x h => (List.mem_filter.mp h).1
set_option maxHeartbeats 0 in
theorem scene_mid {A : AEnds} (hA : SceneEnd A) {d : D} {tabs : List (Str × Int)} {low high : Int} {mk : List Int} {rs trs : List Row} {is wide : List Int} {x6 x9 x10 x11 x23 x25 x26 x27 : AV} (hx : x10 = .own (nmD (vars rs) is) ∨ x10 = .dat (nmD (vars rs) is)) (hd : Dr d) (htl : tabs.length ≤ 1000) (htn : tabs ≠ []) (htab : ∀ t ∈ tabs, PyData.strOk t.1 = true ∧ 0 ≤ t.2 ∧ t.2 ≤ 100) (lh : LowHigh low high)
    (mne : mk ≠ []) (mkl : mk.length ≤ 10) (ok : RowsOk rs) (rl : rs.length ≤ 10) (hl : is.length = (vars rs).length) (vl : (vars rs).length ≤ 400) (his : ∀ i ∈ is, i ≤ 900) (hw : Has (vars rs) wide) (wl : wide.length ≤ 100) (tok : RowsOk trs) (tne : trs ≠ []) (tl : trs.length ≤ 9) (big : ∀ r ∈ trs, ∀ x ∈ r.2, -1000000007 < x) :
    law_scene_0_14 A [.own d, .dat (.lst (tabs.map tabD)), .dat (.int low), .dat (.int high), .own (.lst (mk.map D.int)), .own (.lst (cellsD low high)), x6, .dat (.lst (rs.map rowD)), .dat (.lst ((vars rs).map D.int)), x9, x10, x11, .own (.lst (trs.map rowD)), .dat (tmD wide), .un, .un, .un, .un, .un, .un, .un, .un, .un, x23, .un, x25, x26, x27, .un] := by
  have nd := vars_nodup rs
  have nok : NmOk (vars rs) is := ⟨hl.symm, nd, by omega, vars_neg _⟩
  have lhl := lh.l1
  have lhl2 := lh.l2
  have lhh := lh.h1
  have lhh2 := lh.h2
  have main : callR S_law_bent [.at 0, .dat (.lst (trs.map rowD)), .dat (tmD (laidT wide (vars rs) is)), .dat (.lst (mk.map D.int))] [.own d, .dat (.lst (tabs.map tabD)), .dat (.int low), .dat (.int high), .dat (.lst (mk.map D.int)), .own (.lst (cellsD low high)), x6, .dat (.lst (rs.map rowD)), .dat (.lst ((vars rs).map D.int)), x9, .dat (nmD (vars rs) is), x11, .dat (.lst (trs.map rowD)), .dat (tmD wide), .un, .un, .un, .un, .un, .un, .un, .un, .un, x23, .un, x25, x26, x27, .un]
      fun r env1 => frz env1 (fun r env1 => match r with
        | .dat dd => agTup 2 (agCons (agName 12) (agCons (agName 20) agNil)) dd env1 (law_scene_0_15 A)
        | _ => False) r := by
    refine use_bent 0 trs (laidT wide (vars rs) is) mk rfl hd tok tne mne (by omega) (by rw [laidT_len]; omega) fun rs' w' d2 ne' in' ln' lw' hd2 => ?_
    rw [laidT_len] at lw'
    have ok' : RowsOk rs' := sub_ok tok in' ln'
    have vl' := vars_len2 ok'
    have nd' := vars_nodup rs'
    conv => whnf
    repeat (refine ⟨trivial, ?_⟩; conv => whnf)
    refine ⟨rfl, ?_⟩
    conv => whnf
    repeat (refine ⟨trivial, ?_⟩; conv => whnf)
    refine ⟨rfl, ?_⟩
    conv => whnf
    repeat (refine ⟨trivial, ?_⟩; conv => whnf)
    refine ⟨Nat.zero_le _, ?_⟩
    conv => whnf
    repeat (refine ⟨trivial, ?_⟩; conv => whnf)
    refine use_variables rs' rfl ok' ?_
    conv => whnf
    repeat (refine ⟨trivial, ?_⟩; conv => whnf)
    refine use_downward (vars rs') rfl (by omega) fun ts pm pw => ?_
    have tl' : ts.length = (vars rs').length := pm.length_eq
    have tnd : ts.Nodup := pm.nodup_iff.mpr nd'
    conv => whnf
    repeat (refine ⟨trivial, ?_⟩; conv => whnf)
    intro _
    refine for_ind (Iv := fun items env => ∃ (d' : D) (us : List Int) (sp : List Span) (y11 y21 : AV), items = us.map D.int ∧ Dr d' ∧ us.Pairwise (· > ·) ∧ sp.Pairwise (fun a b => b.1 < a.1) ∧ (∀ s ∈ sp, ∀ u ∈ us, u < s.1) ∧ (∀ s ∈ sp, 0 ≤ s.2.1 ∧ s.2.2 ≤ 1000) ∧ sp.length + us.length ≤ 900 ∧
      env = [.own d', .dat (.lst (tabs.map tabD)), .dat (.int low), .dat (.int high), .dat (.lst (mk.map D.int)), .own (.lst (cellsD low high)), x6, .dat (.lst (rs.map rowD)), .dat (.lst ((vars rs).map D.int)), x9, .dat (nmD (vars rs) is), y11, .dat (.lst (rs'.map rowD)), .dat (tmD wide), .own (.lst (sp.map spD)), .un, .un, .un, .un, .un, .dat (tmD w'), y21, .un, x23, .un, x25, x26, x27, .un]) ?_ ?_ _ _ ⟨d2, ts, [], _, _, rfl, hd2, ?_, List.Pairwise.nil, (fun s h => nomatch h), (fun s h => nomatch h), by simp; omega, rfl⟩
    · rintro env ⟨d', us, sp, y11, y21, e, hd', _, spd, _, spb, spl, rfl⟩
      conv => whnf
      repeat (refine ⟨trivial, ?_⟩; conv => whnf)
      refine use_variables rs' rfl ok' ?_
      conv => whnf
      repeat (refine ⟨trivial, ?_⟩; conv => whnf)
      refine ⟨sz_le (by rw [List.length_map, List.length_map]; omega), ?_⟩
      have est : (vars rs').map D.int ++ mk.map D.int = (vars rs' ++ mk).map D.int := by rw [List.map_append]
      conv => whnf
      repeat (refine ⟨trivial, ?_⟩; conv => whnf)
      rw [est]
      refine use_draw 0 rfl hd' (by omega) (by omega) fun r d3 h1 h2 hd3 => ?_
      conv => whnf
      repeat (refine ⟨trivial, ?_⟩; conv => whnf)
      refine use_asked 0 tabs (vars rs' ++ mk) rfl hd3 rfl rfl h1 (by omega) (fun _ => ⟨htn, by simp [mne]⟩) htl (by rw [List.length_append]; omega) htab fun ns d4 nl nok2 _ _ hd4 => ?_
      have nl2 : ns.length ≤ 1 := by omega
      conv => whnf
      repeat (refine ⟨trivial, ?_⟩; conv => whnf)
      intro _
      refine ⟨noOwn_one (x := .un) rfl (fun e z => by cases z), sz_le (by rw [List.length_map]; omega), ?_⟩
      refine lc_ind (Ev := fun env => env = [.own d4, .dat (.lst (tabs.map tabD)), .dat (.int low), .dat (.int high), .dat (.lst (mk.map D.int)), .own (.lst (cellsD low high)), x6, .dat (.lst (rs.map rowD)), .dat (.lst ((vars rs).map D.int)), x9, .dat (nmD (vars rs) is), y11, .dat (.lst (rs'.map rowD)), .dat (tmD wide), .own (.lst (sp.map spD)), .dat (.lst ((vars rs' ++ mk).map D.int)), .un, .un, .un, .un, .dat (tmD w'), y21, .un, x23, .un, x25, x26, x27, .un])
        (Stp := fun y oz => ∃ r : Row, y = rowD r ∧ oz = if decide (r ∈ rs') then none else some (rowD r)) _ ?_ _ _ rfl ?_
      · rintro y hy _ K rfl hK
        obtain ⟨r, hr, rfl⟩ := List.mem_map.mp hy
        conv => whnf
        repeat (refine ⟨trivial, ?_⟩; conv => whnf)
        refine notin_lst (rowD_pl (nok2.2 r hr)) (rows_pl ok') ?_
        conv => whnf
        repeat (refine ⟨trivial, ?_⟩; conv => whnf)
        refine brI (fun h => ?_) (fun h => ?_)
        · have nin : ¬ r ∈ rs' := fun z => by
            have := row_mem.mpr z
            simp [this] at h
          conv => whnf
          repeat (refine ⟨trivial, ?_⟩; conv => whnf)
          exact hK _ _ rfl ⟨r, rfl, by rw [decide_eq_false nin]; rfl⟩
        · have hin : r ∈ rs' := row_mem.mp (by simpa using h)
          exact hK _ _ rfl ⟨r, rfl, by rw [decide_eq_true hin]; rfl⟩
      · rintro zs _ o rfl
        have ez := o.filter (p := fun r : Row => !decide (r ∈ rs')) fun r oz ⟨q, e1, e2⟩ => by
          rw [rowD_inj.mp e1, e2]
          cases decide (q ∈ rs') <;> rfl
        rw [ez]
        conv => whnf
        repeat (refine ⟨trivial, ?_⟩; conv => whnf)
        refine ⟨sz4, ?_⟩
        conv => whnf
        repeat (refine ⟨trivial, ?_⟩; conv => whnf)
        exact scene_end hA hd4 htl htn htab lh mne mkl ok rl hl vl his hw wl ⟨ok', sub_ok nok2 rows_filter_sub (List.length_filter_le _ _), by show sp.length ≤ 1000; omega, by show w'.length ≤ 1000; omega, spd⟩ (t := ⟨rs', ns.filter (fun r : Row => !decide (r ∈ rs')), sp, w'⟩) ne' spb (fun r hr => big r (in' r hr)) (by show w'.length ≤ 900; omega)
    · rintro y ds env M hM ⟨d', us, sp, y11, y21, e, hd', usd, spd, spu, spb, spl, rfl⟩
      obtain ⟨u, q, rfl, rfl, rfl⟩ := map_cons_inv e.symm
      rw [List.pairwise_cons] at usd
      rw [List.length_cons] at spl
      have add : ∀ (a c : Int) (d3 : D) (z : AV), 0 ≤ a → c ≤ 1000 → Dr d3 → M [.own d3, .dat (.lst (tabs.map tabD)), .dat (.int low), .dat (.int high), .dat (.lst (mk.map D.int)), .own (.lst (cellsD low high)), x6, .dat (.lst (rs.map rowD)), .dat (.lst ((vars rs).map D.int)), x9, .dat (nmD (vars rs) is), .dat (.int u), .dat (.lst (rs'.map rowD)), .dat (tmD wide), .own (.lst (sp.map spD ++ [spD (u, a, c)])), .un, .un, .un, .un, .un, .dat (tmD w'), z, .un, x23, .un, x25, x26, x27, .un] := fun a c d3 z ha hc hd3 => by
        refine hM _ ⟨d3, q, sp ++ [(u, a, c)], _, _, rfl, hd3, usd.2, ?_, fun s hs v hv => ?_, fun s hs => ?_, by rw [List.length_append, List.length_singleton]; omega, by rw [List.map_append]; rfl⟩
        · rw [List.pairwise_append]
          refine ⟨spd, List.pairwise_singleton _ _, fun a ha b hb => ?_⟩
          rw [List.mem_singleton] at hb
          rw [hb]
          exact spu a ha u List.mem_cons_self
        · rcases List.mem_append.mp hs with h | h
          · exact spu s h v (List.mem_cons_of_mem _ hv)
          · rw [List.mem_singleton] at h
            rw [h]
            exact usd.1 v hv
        · rcases List.mem_append.mp hs with h | h
          · exact spb s h
          · rw [List.mem_singleton] at h
            rw [h]
            exact ⟨ha, hc⟩
      conv => whnf
      repeat (refine ⟨trivial, ?_⟩; conv => whnf)
      refine use_draw 0 rfl hd' (by omega) (by omega) fun way d3 h1 h2 hd3 => ?_
      conv => whnf
      repeat (refine ⟨trivial, ?_⟩; conv => whnf)
      refine brI (fun h => ?_) (fun h => ?_)
      · have w3 : way < 3 := by simpa using h
        have cs : way = 0 ∨ way = 1 ∨ way = 2 := by omega
        conv => whnf
        repeat (refine ⟨trivial, ?_⟩; conv => whnf)
        refine ⟨⟨_, rfl⟩, ?_⟩
        conv => whnf
        repeat (refine ⟨trivial, ?_⟩; conv => whnf)
        refine ⟨sz1, ?_⟩
        conv => whnf
        repeat (refine ⟨trivial, ?_⟩; conv => whnf)
        rcases cs with rfl | rfl | rfl
        · refine ix_lst (z := .tup [.int 0, .int low]) (by omega) rfl ?_
          conv => whnf
          repeat (refine ⟨trivial, ?_⟩; conv => whnf)
          refine ⟨sz3 (a := .non) (b := .non) (c := .non), ?_⟩
          conv => whnf
          repeat (refine ⟨trivial, ?_⟩; conv => whnf)
          refine ⟨by rw [List.length_map]; exact sz_lt (by omega), ?_⟩
          conv => whnf
          repeat (refine ⟨trivial, ?_⟩; conv => whnf)
          exact add 0 low d3 _ (by omega) (by omega) hd3
        · refine ix_lst (z := .tup [.int low, .int high]) (by omega) rfl ?_
          conv => whnf
          repeat (refine ⟨trivial, ?_⟩; conv => whnf)
          refine ⟨sz3 (a := .non) (b := .non) (c := .non), ?_⟩
          conv => whnf
          repeat (refine ⟨trivial, ?_⟩; conv => whnf)
          refine ⟨by rw [List.length_map]; exact sz_lt (by omega), ?_⟩
          conv => whnf
          repeat (refine ⟨trivial, ?_⟩; conv => whnf)
          exact add low high d3 _ (by omega) (by omega) hd3
        · refine ix_lst (z := .tup [.int high, .int 1000]) (by omega) rfl ?_
          conv => whnf
          repeat (refine ⟨trivial, ?_⟩; conv => whnf)
          refine ⟨sz3 (a := .non) (b := .non) (c := .non), ?_⟩
          conv => whnf
          repeat (refine ⟨trivial, ?_⟩; conv => whnf)
          refine ⟨by rw [List.length_map]; exact sz_lt (by omega), ?_⟩
          conv => whnf
          repeat (refine ⟨trivial, ?_⟩; conv => whnf)
          exact add high 1000 d3 _ (by omega) (by omega) hd3
      · conv => whnf
        repeat (refine ⟨trivial, ?_⟩; conv => whnf)
        exact hM _ ⟨d3, q, sp, _, _, rfl, hd3, usd.2, spd, fun s hs v hv => spu s hs v (List.mem_cons_of_mem _ hv), spb, by omega, rfl⟩
    · exact (pw.and tnd).imp fun h => by
        have h1 := h.1
        have h2 := h.2
        omega
  rcases hx with rfl | rfl <;>
  · conv => whnf
    repeat (refine ⟨trivial, ?_⟩; conv => whnf)
    refine use_laid wide (vars rs) is nok hw (by omega) ?_
    conv => whnf
    repeat (refine ⟨trivial, ?_⟩; conv => whnf)
    exact main
end AL
namespace AL
open PySem L2
/-! P19: the beginning of scene. -/
structure ImOk (imgs : List Int) : Prop where
  ne : imgs ≠ []
  len : imgs.length ≤ 900
  low : ∀ i ∈ imgs, -1000000007 < i
  high : ∀ i ∈ imgs, i ≤ 900
set_option maxHeartbeats 0 in
theorem scene_12 {A : AEnds} (hA : SceneEnd A) {d : D} {tabs : List (Str × Int)} {low high : Int} {mk imgs : List Int} {rs trs : List Row} {is : List Int} {x6 x9 x10 x11 : AV} (hx9 : x9 = .own (.lst (imgs.map D.int)) ∨ x9 = .dat (.lst (imgs.map D.int))) (hx : x10 = .own (nmD (vars rs) is) ∨ x10 = .dat (nmD (vars rs) is)) (hd : Dr d) (htl : tabs.length ≤ 1000) (htn : tabs ≠ []) (htab : ∀ t ∈ tabs, PyData.strOk t.1 = true ∧ 0 ≤ t.2 ∧ t.2 ≤ 100) (lh : LowHigh low high)
    (mne : mk ≠ []) (mkl : mk.length ≤ 10) (mpos : ∀ m ∈ mk, 0 ≤ m) (io : ImOk imgs) (ok : RowsOk rs) (rl : rs.length ≤ 4) (hl : is.length = (vars rs).length) (his : ∀ i ∈ is, i ≤ 900) (tok : RowsOk trs) (tne : trs ≠ []) (tl : trs.length ≤ 4) (big : ∀ r ∈ trs, ∀ x ∈ r.2, -1000000007 < x) :
    law_scene_0_12 A [.own d, .dat (.lst (tabs.map tabD)), .dat (.int low), .dat (.int high), .own (.lst (mk.map D.int)), .own (.lst (cellsD low high)), x6, .dat (.lst (rs.map rowD)), .dat (.lst ((vars rs).map D.int)), x9, x10, x11, .own (.lst (trs.map rowD)), .un, .un, .un, .un, .un, .un, .un, .un, .un, .un, .un, .un, .un, .un, .un, .un] := by
  have vl := vars_len2 ok
  rcases hx9 with rfl | rfl <;>
  · conv => whnf
    repeat (refine ⟨trivial, ?_⟩; conv => whnf)
    refine use_draw 0 rfl hd (by omega) (by omega) fun r1 d1 a1 b1 hd1 => ?_
    conv => whnf
    repeat (refine ⟨trivial, ?_⟩; conv => whnf)
    refine use_asked 0 tabs imgs rfl hd1 rfl rfl a1 (by omega) (fun _ => ⟨htn, io.ne⟩) htl (by have := io.len; omega) htab fun ns d2 nl nok nin _ hd2 => ?_
    have nl2 : ns.length ≤ 4 := by omega
    conv => whnf
    repeat (refine ⟨trivial, ?_⟩; conv => whnf)
    refine ⟨sz_le (by rw [List.length_map, List.length_map]; omega), ?_⟩
    have est : trs.map rowD ++ ns.map rowD = (trs ++ ns).map rowD := by rw [List.map_append]
    conv => whnf
    repeat (refine ⟨trivial, ?_⟩; conv => whnf)
    rw [est]
    have allok : ∀ r ∈ trs ++ ns, RowOk r := fun r hr => (List.mem_append.mp hr).elim (tok.2 r) (nok.2 r)
    have allbig : ∀ r ∈ trs ++ ns, ∀ x ∈ r.2, -1000000007 < x := fun r hr x hxx => (List.mem_append.mp hr).elim (fun h => big r h x hxx) fun h => io.low x (nin r h x hxx)
    refine use_unlike ((trs ++ ns).map rowD) 2 rfl (by rw [List.length_map, List.length_append]; omega) (by omega) (fun x hxx => ?_) fun l' sl all => ?_
    · obtain ⟨r, hr, rfl⟩ := List.mem_map.mp hxx
      exact rowD_pl (allok r hr)
    · obtain ⟨us, rfl, sl2⟩ := sub_map sl
      have ul := sl2.length_le
      rw [List.length_append] at ul
      have une : us ≠ [] := by
        intro e
        subst e
        cases trs with
        | nil => exact tne rfl
        | cons r q =>
          have := all (rowD r) (by simp)
          cases this
      conv => whnf
      repeat (refine ⟨trivial, ?_⟩; conv => whnf)
      refine use_mixed 0 (us.map rowD) rfl hd2 rfl (by rw [List.length_map]; omega) fun l2 d3 pm hd3 => ?_
      obtain ⟨ws, rfl, pm2⟩ := perm_rows pm
      have wl2 := pm2.length_eq
      have win : ∀ r ∈ ws, r ∈ trs ++ ns := fun r hr => sl2.subset (pm2.mem_iff.mp hr)
      have wne : ws ≠ [] := fun e => une (List.length_eq_zero_iff.mp (by rw [← wl2, e]; rfl))
      conv => whnf
      repeat (refine ⟨trivial, ?_⟩; conv => whnf)
      refine use_draw 0 rfl hd3 (by omega) (by omega) fun r4 d4 a4 b4 hd4 => ?_
      conv => whnf
      repeat (refine ⟨trivial, ?_⟩; conv => whnf)
      refine ⟨⟨by omega, by omega⟩, ?_⟩
      refine ⟨noOwn_one (x := .un) rfl (fun e z => by cases z), sz_le (by rw [range_len]; omega), ?_⟩
      refine lc_ind (Ev := fun env => ∃ d5, Dr d5 ∧ env = [.own d5, .dat (.lst (tabs.map tabD)), .dat (.int low), .dat (.int high), .own (.lst (mk.map D.int)), .own (.lst (cellsD low high)), x6, .dat (.lst (rs.map rowD)), .dat (.lst ((vars rs).map D.int)), .dat (.lst (imgs.map D.int)), x10, x11, .own (.lst (ws.map rowD)), .un, .un, .un, .un, .un, .un, .un, .un, .un, .un, .un, .un, .un, .un, .un, .un])
        (Stp := fun y oz => ∀ z, oz = some z → ∃ t, t ∈ vars rs ++ mk ∧ z = .int t) _ ?_ _ _ ⟨d4, hd4, rfl⟩ ?_
      · rintro y hy _ K ⟨d5, hd5, rfl⟩ hK
        conv => whnf
        repeat (refine ⟨trivial, ?_⟩; conv => whnf)
        rw [brP_true]
        conv => whnf
        repeat (refine ⟨trivial, ?_⟩; conv => whnf)
        refine ⟨sz_le (by rw [List.length_map, List.length_map]; omega), ?_⟩
        have em : (vars rs).map D.int ++ mk.map D.int = (vars rs ++ mk).map D.int := by rw [List.map_append]
        conv => whnf
        repeat (refine ⟨trivial, ?_⟩; conv => whnf)
        rw [em]
        refine use_pick 0 ((vars rs ++ mk).map D.int) rfl hd5 rfl (by simp [mne]) (by rw [List.length_map, List.length_append]; omega) fun z d6 mz hd6 => ?_
        obtain ⟨t, ht, rfl⟩ := List.mem_map.mp mz
        conv => whnf
        repeat (refine ⟨trivial, ?_⟩; conv => whnf)
        exact hK _ _ ⟨d6, hd6, rfl⟩ fun z e => ⟨t, ht, (Option.some.inj e).symm⟩
      · rintro zs _ o ⟨d5, hd5, rfl⟩
        obtain ⟨ts, rfl, tin, tl2⟩ := outs_ints (P := (· ∈ vars rs ++ mk)) (fun y z h => h z rfl) o
        rw [range_len] at tl2
        refine scene_mid (x6 := x6) (x9 := .dat (.lst (imgs.map D.int))) (x10 := x10) (x11 := x11) (x23 := .un) (x25 := .un) (x26 := .un) (x27 := .un) hA hx hd5 htl htn htab lh mne mkl ok (by omega) hl (by omega) his (wide := ts) (fun x hxx lt => ?_) (by omega) ⟨by omega, fun r hr => allok r (win r hr)⟩ wne (by omega) fun r hr => allbig r (win r hr)
        rcases List.mem_append.mp (tin x hxx) with h | h
        · exact h
        · have := mpos x h
          omega
set_option maxHeartbeats 0 in
theorem scene_10 {A : AEnds} (hA : SceneEnd A) {d : D} {tabs : List (Str × Int)} {low high : Int} {mk imgs : List Int} {rs : List Row} {x6 : AV} (hd : Dr d) (htl : tabs.length ≤ 1000) (htn : tabs ≠ []) (htab : ∀ t ∈ tabs, PyData.strOk t.1 = true ∧ 0 ≤ t.2 ∧ t.2 ≤ 100) (lh : LowHigh low high)
    (mne : mk ≠ []) (mkl : mk.length ≤ 10) (mpos : ∀ m ∈ mk, 0 ≤ m) (io : ImOk imgs) (ok : RowsOk rs) (rne : rs ≠ []) (rl : rs.length ≤ 4) (rbig : ∀ r ∈ rs, ∀ x ∈ r.2, -1000000007 < x) :
    law_scene_0_10 A [.own d, .dat (.lst (tabs.map tabD)), .dat (.int low), .dat (.int high), .own (.lst (mk.map D.int)), .own (.lst (cellsD low high)), x6, .dat (.lst (rs.map rowD)), .own (.lst ((vars rs).map D.int)), .own (.lst (imgs.map D.int)), .own (nmD [] []), .un, .un, .un, .un, .un, .un, .un, .un, .un, .un, .un, .un, .un, .un, .un, .un, .un, .un] := by
  have vl := vars_len2 ok
  have nd := vars_nodup rs
  conv => whnf
  repeat (refine ⟨trivial, ?_⟩; conv => whnf)
  intro _
  refine for_ind (Iv := fun items env => ∃ (d' : D) (pre us is : List Int) (y9 y11 : AV), items = us.map D.int ∧ (y9 = .own (.lst (imgs.map D.int)) ∨ y9 = .dat (.lst (imgs.map D.int))) ∧ Dr d' ∧ pre ++ us = vars rs ∧ is.length = pre.length ∧ (∀ i ∈ is, i ∈ imgs) ∧
    env = [.own d', .dat (.lst (tabs.map tabD)), .dat (.int low), .dat (.int high), .own (.lst (mk.map D.int)), .own (.lst (cellsD low high)), x6, .dat (.lst (rs.map rowD)), .dat (.lst ((vars rs).map D.int)), y9, .own (nmD pre is), y11, .un, .un, .un, .un, .un, .un, .un, .un, .un, .un, .un, .un, .un, .un, .un, .un, .un]) ?_ ?_ _ _ ⟨d, [], vars rs, [], _, _, rfl, .inl rfl, hd, rfl, rfl, (fun s h => nomatch h), rfl⟩
  · rintro env ⟨d', pre, us, is, y9, y11, e, hy9, hd', ep, el, iin, rfl⟩
    cases us with
    | cons u r => cases e
    | nil =>
      rw [List.append_nil] at ep
      subst ep
      have nok := names_ok (b := ⟨rs, [], [], []⟩) ⟨ok, ⟨by simp, fun r h => by cases h⟩, by simp, by simp, List.Pairwise.nil⟩ (is := is) el
      have ilow : ∀ x, 0 ≤ x ∨ x ∈ vars rs → -1000000007 < img (vars rs) is x := fun x hxx => by
        unfold img
        by_cases ge : 0 ≤ x
        · rw [if_pos ge]; omega
        · rw [if_neg ge]
          rcases hxx with h | h
          · exact absurd h ge
          · obtain ⟨j, hj, ej⟩ := List.mem_iff_getElem.mp h
            have := lk_at j hj (by rw [el]; exact hj) nd
            rw [ej] at this
            rw [this]
            exact io.low _ (iin _ (List.getElem_mem _))
      conv => whnf
      repeat (refine ⟨trivial, ?_⟩; conv => whnf)
      intro _
      refine ⟨noOwn_one (x := .un) rfl (fun e z => by cases z), sz_le (by rw [List.length_map]; omega), ?_⟩
      refine lc_ind (Ev := fun env => ∃ x10, (x10 = .own (nmD (vars rs) is) ∨ x10 = .dat (nmD (vars rs) is)) ∧ env = [.own d', .dat (.lst (tabs.map tabD)), .dat (.int low), .dat (.int high), .own (.lst (mk.map D.int)), .own (.lst (cellsD low high)), x6, .dat (.lst (rs.map rowD)), .dat (.lst ((vars rs).map D.int)), y9, x10, y11, .un, .un, .un, .un, .un, .un, .un, .un, .un, .un, .un, .un, .un, .un, .un, .un, .un])
        (Stp := fun y oz => ∃ r : Row, y = rowD r ∧ oz = some (rowD (r.1, laidT r.2 (vars rs) is))) _ ?_ _ _ ⟨_, .inl rfl, rfl⟩ ?_
      · rintro y hy _ K ⟨x10, hx10, rfl⟩ hK
        obtain ⟨r, hr, rfl⟩ := List.mem_map.mp hy
        have rok := ok.2 r hr
        rcases hx10 with rfl | rfl <;>
        · conv => whnf
          repeat (refine ⟨trivial, ?_⟩; conv => whnf)
          rw [brP_true]
          conv => whnf
          repeat (refine ⟨trivial, ?_⟩; conv => whnf)
          refine ix_tup (by omega) rfl ?_
          conv => whnf
          repeat (refine ⟨trivial, ?_⟩; conv => whnf)
          refine ix_tup (by omega) rfl ?_
          conv => whnf
          repeat (refine ⟨trivial, ?_⟩; conv => whnf)
          refine use_laid r.2 (vars rs) is nok (vars_has rs r hr) (by have := rok.2; omega) ?_
          conv => whnf
          repeat (refine ⟨trivial, ?_⟩; conv => whnf)
          refine ⟨sz2, ?_⟩
          conv => whnf
          repeat (refine ⟨trivial, ?_⟩; conv => whnf)
          exact hK _ _ ⟨_, .inr rfl, rfl⟩ ⟨r, rfl, rfl⟩
      · rintro zs _ o ⟨x10, hx10, rfl⟩
        have ez := o.map (f := fun r : Row => rowD (r.1, laidT r.2 (vars rs) is)) fun r oz ⟨q, e1, e2⟩ => by
          rw [rowD_inj.mp e1]
          exact e2
        have ez2 : zs = (rs.map fun r => (r.1, laidT r.2 (vars rs) is)).map rowD := by rw [ez, List.map_map]; rfl
        rw [ez2]
        refine scene_12 (x6 := x6) (x9 := y9) (x10 := x10) (x11 := y11) hA hy9 hx10 hd' htl htn htab lh mne mkl mpos io ok rl el (fun i hi => io.high i (iin i hi)) ⟨by rw [List.length_map]; omega, fun r hr => ?_⟩ (by simpa using rne) (by rw [List.length_map]; exact rl) fun r hr x hxx => ?_
        · obtain ⟨q, hq, rfl⟩ := List.mem_map.mp hr
          exact ⟨(ok.2 q hq).1, by show (laidT q.2 _ _).length ≤ 100; rw [laidT_len]; exact (ok.2 q hq).2⟩
        · obtain ⟨q, hq, rfl⟩ := List.mem_map.mp hr
          obtain ⟨t, ht, rfl⟩ := List.mem_map.mp hxx
          refine ilow t ?_
          by_cases ge : 0 ≤ t
          · exact .inl ge
          · exact .inr (vars_has rs q hq t ht (by omega))
  · rintro y ds env M hM ⟨d', pre, us, is, y9, y11, e, hy9, hd', ep, el, iin, rfl⟩
    obtain ⟨u, q, rfl, rfl, rfl⟩ := map_cons_inv e.symm
    have nu : u ∉ pre := fun z => by
      rw [← ep, List.nodup_append] at nd
      exact nd.2.2 u z u List.mem_cons_self rfl
    have pl : pre.length ≤ (vars rs).length := by rw [← ep, List.length_append]; omega
    rcases hy9 with rfl | rfl <;>
    · conv => whnf
      repeat (refine ⟨trivial, ?_⟩; conv => whnf)
      refine use_pick 0 (imgs.map D.int) rfl hd' rfl (by simpa using io.ne) (by rw [List.length_map]; have := io.len; omega) fun z d2 mz hd2 => ?_
      obtain ⟨v, hv, rfl⟩ := List.mem_map.mp mz
      conv => whnf
      repeat (refine ⟨trivial, ?_⟩; conv => whnf)
      refine set_new rfl nu (by omega) ?_
      refine hM _ ⟨d2, pre ++ [u], q, is ++ [v], _, _, rfl, .inr rfl, hd2, by rw [List.append_assoc]; exact ep, by rw [List.length_append, List.length_append, el]; rfl, fun i hi => ?_, rfl⟩
      rcases List.mem_append.mp hi with h | h
      · exact iin i h
      · rw [List.mem_singleton] at h
        rw [h]; exact hv
end AL
namespace AL
open PySem L2
/-! P20: scene. -/
theorem str_inj {ns : List Str} {y : D} (h : y ∈ ns.map D.str) : ∃ n ∈ ns, y = .str n := by
  obtain ⟨n, hn, e⟩ := List.mem_map.mp h
  exact ⟨n, hn, e.symm⟩
set_option maxHeartbeats 0 in
theorem scene_7 {A : AEnds} (hA : SceneEnd A) {d : D} {tabs : List (Str × Int)} {low high : Int} {mk : List Int} {ps : List Int} {rs : List Row} (hd : Dr d) (htl : tabs.length ≤ 1000) (htn : tabs ≠ []) (htab : ∀ t ∈ tabs, PyData.strOk t.1 = true ∧ 0 ≤ t.2 ∧ t.2 ≤ 100) (lh : LowHigh low high) (mkl : mk.length = 2) (mlow : ∀ m ∈ mk, 0 ≤ m ∧ m ≤ 900) (rok : RowsOk rs) (rne : rs ≠ []) (rl : rs.length ≤ 4) (rbig : ∀ r ∈ rs, ∀ x ∈ r.2, -1000000007 < x) :
    law_scene_0_7 A [.own d, .dat (.lst (tabs.map tabD)), .dat (.int low), .dat (.int high), .own (.lst (mk.map D.int)), .own (.lst (cellsD low high)), .own (.lst (ps.map D.int)), .own (.lst (rs.map rowD)), .un, .un, .un, .un, .un, .un, .un, .un, .un, .un, .un, .un, .un, .un, .un, .un, .un, .un, .un, .un, .un] := by
  have mne : mk ≠ [] := fun e => by rw [e] at mkl; cases mkl
  conv => whnf
  repeat (refine ⟨trivial, ?_⟩; conv => whnf)
  refine use_variables rs rfl rok ?_
  conv => whnf
  repeat (refine ⟨trivial, ?_⟩; conv => whnf)
  refine use_pool 0 rfl hd (by omega) (by omega) fun ps3 d13 _ plen3 pin3 hd13 => ?_
  conv => whnf
  repeat (refine ⟨trivial, ?_⟩; conv => whnf)
  refine ⟨sz_le (by rw [List.length_map, List.length_map]; omega), ?_⟩
  have io : ImOk (ps3 ++ mk) := ⟨by simp [mne], by rw [List.length_append]; omega, fun i hi => (List.mem_append.mp hi).elim (fun h => (pin3 i h).1) fun h => by have := (mlow i h).1; omega, fun i hi => (List.mem_append.mp hi).elim (fun h => by have := (pin3 i h).2; omega) fun h => (mlow i h).2⟩
  have eim : ps3.map D.int ++ mk.map D.int = (ps3 ++ mk).map D.int := by rw [List.map_append]
  rw [eim]
  exact scene_10 (x6 := .own (.lst (ps.map D.int))) hA hd13 htl htn htab lh mne (by omega) (fun m hm => (mlow m hm).1) io rok rne rl rbig
set_option maxHeartbeats 0 in
theorem scene_6 {A : AEnds} (hA : SceneEnd A) {d : D} {tabs : List (Str × Int)} {low high : Int} {mk : List Int} {ps : List Int} (hd : Dr d) (htl : tabs.length ≤ 1000) (htn : tabs ≠ []) (htab : ∀ t ∈ tabs, PyData.strOk t.1 = true ∧ 0 ≤ t.2 ∧ t.2 ≤ 100) (lh : LowHigh low high) (mkl : mk.length = 2) (mlow : ∀ m ∈ mk, 0 ≤ m ∧ m ≤ 900) (pl : ps.length ≤ 4) (pne : ps ≠ []) (pin : ∀ p ∈ ps, -1000000007 < p ∧ p < 0) :
    law_scene_0_6 A [.own d, .own (.lst (tabs.map tabD)), .dat (.int low), .dat (.int high), .own (.lst (mk.map D.int)), .own (.lst (cellsD low high)), .own (.lst (ps.map D.int)), .un, .un, .un, .un, .un, .un, .un, .un, .un, .un, .un, .un, .un, .un, .un, .un, .un, .un, .un, .un, .un, .un] := by
  have ppos : 0 < ps.length := List.length_pos_iff.mpr pne
  conv => whnf
  repeat (refine ⟨trivial, ?_⟩; conv => whnf)
  refine use_draw 0 rfl hd (by omega) (by omega) fun r7 d10 a7 b7 hd10 => ?_
  conv => whnf
  repeat (refine ⟨trivial, ?_⟩; conv => whnf)
  refine ⟨sz_le (by rw [List.length_map]; omega), ?_⟩
  conv => whnf
  repeat (refine ⟨trivial, ?_⟩; conv => whnf)
  refine use_draw 0 rfl hd10 (by omega) (by omega) fun r8 d11 a8 b8 hd11 => ?_
  have cl : (cutD (mk.map D.int) none (some r8)).length ≤ 2 := by have := cutD_len (mk.map D.int) none (some r8); rw [List.length_map] at this; omega
  conv => whnf
  repeat (refine ⟨trivial, ?_⟩; conv => whnf)
  refine ⟨sz_le (by rw [List.length_append, List.length_map]; omega), ?_⟩
  have est : (ps.map D.int ++ ps.map D.int) ++ cutD (mk.map D.int) none (some r8) = (ps ++ ps ++ cutL mk none (some r8)).map D.int := by rw [cutD_map, List.map_append, List.map_append]
  have cin : ∀ x ∈ cutL mk none (some r8), x ∈ mk := fun x h => List.mem_of_mem_drop (List.mem_of_mem_take h)
  have cl2 : (cutL mk none (some r8)).length ≤ 2 := by rw [cutD_map, List.length_map] at cl; exact cl
  conv => whnf
  repeat (refine ⟨trivial, ?_⟩; conv => whnf)
  rw [est]
  refine use_asked 0 tabs (ps ++ ps ++ cutL mk none (some r8)) rfl hd11 rfl rfl (by omega) (by omega) (fun _ => ⟨htn, fun e => ?_⟩) htl (by rw [List.length_append, List.length_append]; omega) htab fun rs d12 rl rok rin rne hd12 => ?_
  · exact pne (List.append_eq_nil_iff.mp (List.append_eq_nil_iff.mp e).1).1
  have rbig : ∀ r ∈ rs, ∀ x ∈ r.2, -1000000007 < x := fun r hr x hx => by
    rcases List.mem_append.mp (rin r hr x hx) with h | h
    · rcases List.mem_append.mp h with h | h
      · exact (pin x h).1
      · exact (pin x h).1
    · have := (mlow x (cin x h)).1
      omega
  exact scene_7 (ps := ps) hA hd12 htl htn htab lh mkl mlow rok (rne (by omega)) (by omega) rbig
set_option maxHeartbeats 0 in
theorem scene_5 {A : AEnds} (hA : SceneEnd A) {d : D} {tabs : List (Str × Int)} {low high : Int} {mk : List Int} (hd : Dr d) (htl : tabs.length ≤ 1000) (htn : tabs ≠ []) (htab : ∀ t ∈ tabs, PyData.strOk t.1 = true ∧ 0 ≤ t.2 ∧ t.2 ≤ 100) (lh : LowHigh low high) (mkl : mk.length = 2) (mlow : ∀ m ∈ mk, 0 ≤ m ∧ m ≤ 900) :
    law_scene_0_5 A [.own d, .own (.lst (tabs.map tabD)), .dat (.int low), .dat (.int high), .own (.lst (mk.map D.int)), .own (.lst (cellsD low high)), .un, .un, .un, .un, .un, .un, .un, .un, .un, .un, .un, .un, .un, .un, .un, .un, .un, .un, .un, .un, .un, .un, .un] := by
  conv => whnf
  repeat (refine ⟨trivial, ?_⟩; conv => whnf)
  refine use_draw 0 rfl hd (by omega) (by omega) fun r6 d8 a6 b6 hd8 => ?_
  conv => whnf
  repeat (refine ⟨trivial, ?_⟩; conv => whnf)
  refine use_pool 0 rfl hd8 (by omega) (by omega) fun ps d9 pnd plen pin hd9 => ?_
  have ppos : ps ≠ [] := fun e => by
    rw [e] at plen
    simp at plen
    omega
  exact scene_6 (ps := ps) hA hd9 htl htn htab lh mkl mlow (by omega) ppos pin
set_option maxHeartbeats 0 in
theorem scene_3 {A : AEnds} (hA : SceneEnd A) {d : D} {tabs : List (Str × Int)} {r2 r3 : Int} (hd5 : Dr d) (htl : tabs.length ≤ 1000) (htn : tabs ≠ []) (htab : ∀ t ∈ tabs, PyData.strOk t.1 = true ∧ 0 ≤ t.2 ∧ t.2 ≤ 100) (a2 : 0 ≤ r2) (b2 : r2 < 4) (a3 : 0 ≤ r3) (b3 : r3 < 4) :
    law_scene_0_3 A [.own d, .own (.lst (tabs.map tabD)), .dat (.int (100 * (1 + r2))), .dat (.int (100 * (1 + r2) + 100 * (1 + r3))), .un, .un, .un, .un, .un, .un, .un, .un, .un, .un, .un, .un, .un, .un, .un, .un, .un, .un, .un, .un, .un, .un, .un, .un, .un] := by
    conv => whnf
    repeat (refine ⟨trivial, ?_⟩; conv => whnf)
    refine use_draw 0 rfl hd5 (by omega) (by omega) fun r4 d6 a4 b4 hd6 => ?_
    conv => whnf
    refine ⟨.inl (by omega), ?_⟩
    conv => whnf
    repeat (refine ⟨trivial, ?_⟩; conv => whnf)
    refine use_draw 0 rfl hd6 (by omega) (by omega) fun r5 d7 a5 b5 hd7 => ?_
    conv => whnf
    refine ⟨.inl (by omega), ?_⟩
    conv => whnf
    repeat (refine ⟨trivial, ?_⟩; conv => whnf)
    refine ⟨sz2, ?_⟩
    conv => whnf
    repeat (refine ⟨trivial, ?_⟩; conv => whnf)
    refine ⟨sz2, ?_⟩
    conv => whnf
    repeat (refine ⟨trivial, ?_⟩; conv => whnf)
    refine ⟨sz2, ?_⟩
    conv => whnf
    repeat (refine ⟨trivial, ?_⟩; conv => whnf)
    refine ⟨sz2, ?_⟩
    conv => whnf
    repeat (refine ⟨trivial, ?_⟩; conv => whnf)
    refine ⟨sz3, ?_⟩
    exact scene_5 (tabs := tabs) (low := 100 * (1 + r2)) (high := 100 * (1 + r2) + 100 * (1 + r3)) (mk := [10 * (1 + r4), 100 * (1 + r2) + 10 * (1 + r5)]) hA hd7 (by omega) htn htab ⟨by omega, by omega, by omega, by omega⟩ rfl fun m hm => by
      simp only [List.mem_cons, List.not_mem_nil, or_false] at hm
      rcases hm with rfl | rfl <;> omega
set_option maxHeartbeats 0 in
theorem scene_1 {A : AEnds} (hA : SceneEnd A) {d : D} {tabs : List (Str × Int)} (hd3 : Dr d) (htl : tabs.length ≤ 1000) (htn : tabs ≠ []) (htab : ∀ t ∈ tabs, PyData.strOk t.1 = true ∧ 0 ≤ t.2 ∧ t.2 ≤ 100) :
    law_scene_0_1 A [.own d, .own (.lst (tabs.map tabD)), .un, .un, .un, .un, .un, .un, .un, .un, .un, .un, .un, .un, .un, .un, .un, .un, .un, .un, .un, .un, .un, .un, .un, .un, .un, .un, .un] := by
    conv => whnf
    repeat (refine ⟨trivial, ?_⟩; conv => whnf)
    refine use_draw 0 rfl hd3 (by omega) (by omega) fun r2 d4 a2 b2 hd4 => ?_
    conv => whnf
    refine ⟨.inl (by omega), ?_⟩
    conv => whnf
    repeat (refine ⟨trivial, ?_⟩; conv => whnf)
    refine use_draw 0 rfl hd4 (by omega) (by omega) fun r3 d5 a3 b3 hd5 => ?_
    conv => whnf
    refine ⟨.inl (by omega), ?_⟩
    exact scene_3 hA hd5 htl htn htab a2 b2 a3 b3
set_option maxHeartbeats 0 in
theorem p_law_scene : BodyOk 1 29 B_law_scene a_law_scene S_law_scene := by
  rintro _ R ⟨d, rfl, hd, k⟩
  refine ⟨rfl, own0 (ds := []) rfl, ?_⟩
  have hA : SceneEnd { nx := fun env => R (.dat .non) (outs [.own d] env), rt := fun r env => (∀ i, r ≠ .at i) ∧ R r (outs [.own d] env) } := fun b t is d' es p tne sl wl hd' => ⟨nat_ _, k b t is d' p tne sl wl hd'⟩
  conv => whnf
  repeat (refine ⟨trivial, ?_⟩; conv => whnf)
  refine use_draw 0 rfl hd (by omega) (by omega) fun r1 d1 a1 b1 hd1 => ?_
  conv => whnf
  repeat (refine ⟨trivial, ?_⟩; conv => whnf)
  refine use_names 0 rfl hd1 (by omega) (by omega) fun ns d2 nl nok hd2 => ?_
  conv => whnf
  repeat (refine ⟨trivial, ?_⟩; conv => whnf)
  intro _
  refine ⟨noOwn_one (x := .un) rfl (fun e z => by cases z), sz_le (by rw [List.length_map]; omega), ?_⟩
  refine lc_ind (Ev := fun env => ∃ d3, Dr d3 ∧ env = [.own d3, .un, .un, .un, .un, .un, .un, .un, .un, .un, .un, .un, .un, .un, .un, .un, .un, .un, .un, .un, .un, .un, .un, .un, .un, .un, .un, .un, .un])
    (Stp := fun y oz => ∃ tb : Str × Int, (PyData.strOk tb.1 = true ∧ 0 ≤ tb.2 ∧ tb.2 ≤ 100) ∧ oz = some (tabD tb)) _ ?_ _ _ ⟨d2, hd2, rfl⟩ ?_
  · rintro y hy _ K ⟨d3, hd3, rfl⟩ hK
    obtain ⟨n, hn, rfl⟩ := str_inj hy
    conv => whnf
    repeat (refine ⟨trivial, ?_⟩; conv => whnf)
    rw [brP_true]
    conv => whnf
    repeat (refine ⟨trivial, ?_⟩; conv => whnf)
    refine use_draw 0 rfl hd3 (by omega) (by omega) fun r d4 a b hd4 => ?_
    conv => whnf
    repeat (refine ⟨trivial, ?_⟩; conv => whnf)
    refine ⟨sz2, ?_⟩
    conv => whnf
    repeat (refine ⟨trivial, ?_⟩; conv => whnf)
    exact hK _ _ ⟨d4, hd4, rfl⟩ ⟨(n, 1 + r), ⟨nok n hn, by show 0 ≤ 1 + r; omega, by show 1 + r ≤ 100; omega⟩, rfl⟩
  · rintro zs _ o ⟨d3, hd3, rfl⟩
    obtain ⟨tabs, rfl, htab, tl⟩ := outs_ex (f := tabD) (P := fun tb : Str × Int => PyData.strOk tb.1 = true ∧ 0 ≤ tb.2 ∧ tb.2 ≤ 100) (fun y oz h => h) o
    rw [List.length_map] at tl
    have htn : tabs ≠ [] := fun e => by
      rw [e] at tl
      simp at tl
      omega
    exact scene_1 hA hd3 (by omega) htn htab
end AL
namespace AL
open PySem L2
/-! P21: the chain in plain Lean. -/
def nod (nd : List Int) (a : Nat) : Int := nd.getD a 0
def nxt (ld : List Int) (a : Nat) : Nat := (ld.getD a 0).toNat
def itn (ld : List Int) : Nat → Nat → Nat
  | 0, s => s
  | k + 1, s => nxt ld (itn ld k s)
def pathL (nd ld : List Int) (s k : Nat) : List Int := (List.range k).map fun i => nod nd (itn ld i s)
def crow (first : Str) (line : List Int) (i : Nat) : Row := (first, [nod line i, nod line (i + 1)])
def trow1 (first : Str) (nd ld : List Int) (a : Nat) : Row := (first, [nod nd a, nod nd (nxt ld a)])
def trow2 (second : Str) (nd : List Int) (a : Nat) : Row := (second, [nod nd a])
theorem nod_lt {nd : List Int} {a : Nat} (h : a < nd.length) : nod nd a = nd[a] := by
  unfold nod
  rw [List.getD_eq_getElem?_getD, List.getElem?_eq_getElem h]
  rfl
theorem nod_mem {nd : List Int} {a : Nat} (h : a < nd.length) : nod nd a ∈ nd := by
  rw [nod_lt h]
  exact List.getElem_mem h
theorem get_nod {nd : List Int} {a : Nat} (h : a < nd.length) : (nd.map D.int)[a]? = some (.int (nod nd a)) := by
  rw [List.getElem?_map, List.getElem?_eq_getElem h, nod_lt h]
  rfl
theorem perm_ex {α : Type} {f : α → D} {l m : List D} (p : l.Perm m) : ∀ xs : List α, m = xs.map f → ∃ ys : List α, l = ys.map f ∧ ys.Perm xs := by
  induction p with
  | nil =>
    intro xs e
    cases xs with
    | nil => exact ⟨[], rfl, .nil⟩
    | cons a r => cases e
  | cons x p ih =>
    intro xs e
    obtain ⟨a, r, rfl, rfl, rfl⟩ := map_cons_inv e.symm
    obtain ⟨ys, rfl, q⟩ := ih r rfl
    exact ⟨a :: ys, rfl, q.cons a⟩
  | swap x y l =>
    intro xs e
    obtain ⟨a, r, rfl, rfl, e2⟩ := map_cons_inv e.symm
    obtain ⟨b, r, rfl, rfl, rfl⟩ := map_cons_inv e2
    exact ⟨b :: a :: r, rfl, .swap a b r⟩
  | trans p q ih1 ih2 =>
    intro xs e
    obtain ⟨ys, rfl, p2⟩ := ih2 xs e
    obtain ⟨zs, rfl, p1⟩ := ih1 ys rfl
    exact ⟨zs, rfl, p1.trans p2⟩
structure Chn (n : Nat) (first second : Str) (nd ld : List Int) (od sm : List Nat) (len : Nat) (line : List Int) : Prop where
  n17 : 17 ≤ n
  n57 : n ≤ 57
  fo : PyData.strOk first = true
  so : PyData.strOk second = true
  ndl : nd.length = n
  ndn : nd.Nodup
  ndr : ∀ x ∈ nd, -1000000007 < x ∧ x < 0
  ldl : ld.length = n
  ldr : ∀ x ∈ ld, 0 ≤ x ∧ x < n
  od : od.Perm (List.range n)
  sml : sm.length ≤ n
  sm : ∀ a ∈ sm, a < n
  l1 : 1 ≤ len
  l16 : len ≤ 16
  lnl : line.length = len + 1
  lnn : line.Nodup
  lnr : ∀ x ∈ line, -1000000007 < x ∧ x < 0
def bRows (first : Str) (line : List Int) (len : Nat) : List Row := (List.range len).map (crow first line)
def tRows (first second : Str) (nd ld : List Int) (od sm : List Nat) : List Row := od.map (trow1 first nd ld) ++ sm.map (trow2 second nd)
theorem nxt_lt {n : Nat} {ld : List Int} (hl : ld.length = n) (hr : ∀ x ∈ ld, 0 ≤ x ∧ x < n) {a : Nat} (h : a < n) : nxt ld a < n ∧ ((nxt ld a : Nat) : Int) = nod ld a := by
  have m := hr _ (nod_mem (nd := ld) (a := a) (by omega))
  have e : nxt ld a = (nod ld a).toNat := rfl
  rw [e]
  exact ⟨by omega, by omega⟩
theorem itn_lt {n : Nat} {ld : List Int} (hl : ld.length = n) (hr : ∀ x ∈ ld, 0 ≤ x ∧ x < n) {s : Nat} (h : s < n) : ∀ k, itn ld k s < n
  | 0 => h
  | k + 1 => (nxt_lt hl hr (itn_lt hl hr h k)).1
theorem varsFrom_append : ∀ (rs qs : List Row) (told : List Int), varsFrom told (rs ++ qs) = varsFrom (varsFrom told rs) qs
  | [], _, _ => rfl
  | r :: rs, qs, told => varsFrom_append rs qs (addVars told r.2)
theorem addVars_two (told : List Int) (x y : Int) (hx : x < 0) (hy : y < 0) (mx : x ∈ told) (my : y ∉ told) : addVars told [x, y] = told ++ [y] := by
  rw [addVars_cons, if_neg (fun z => z.2 mx), addVars_cons, if_pos ⟨hy, my⟩]
  rfl
theorem take_not {line : List Int} (nd : line.Nodup) {k : Nat} (h : k < line.length) : line[k] ∉ line.take k := fun m => by
  obtain ⟨i, hi, e⟩ := List.mem_iff_getElem.mp m
  rw [List.getElem_take] at e
  rw [List.length_take] at hi
  have := (List.getElem_inj nd).mp e
  omega
theorem vars_chain {first : Str} {line : List Int} (nd : line.Nodup) (neg : ∀ x ∈ line, x < 0) : ∀ k, k + 2 ≤ line.length → vars (bRows first line (k + 1)) = line.take (k + 2)
  | 0, h => by
    have h0 : 0 < line.length := by omega
    have h1 : 1 < line.length := by omega
    have e : bRows first line 1 = [(first, [line[0], line[1]])] := by
      show [crow first line 0] = _
      unfold crow
      rw [nod_lt h0, nod_lt h1]
    rw [e]
    show addVars [] [line[0], line[1]] = _
    have n0 := neg _ (List.getElem_mem h0)
    have n1 := neg _ (List.getElem_mem h1)
    have n10 : ¬ line[1] ∈ [] ++ [line[0]] := fun m => by
      have m' : line[1] = line[0] := by simpa using m
      have := (List.getElem_inj nd).mp m'
      omega
    rw [addVars_cons, if_pos ⟨n0, by simp⟩, addVars_cons, if_pos ⟨n1, n10⟩]
    show [] ++ [line[0]] ++ [line[1]] = _
    rw [List.take_succ_eq_append_getElem h1, List.take_succ_eq_append_getElem h0, List.take_zero]
  | k + 1, h => by
    have hk : k + 2 < line.length := by omega
    have hk1 : k + 1 < line.length := by omega
    have ih := vars_chain (first := first) nd neg k (by omega)
    have e : bRows first line (k + 1 + 1) = bRows first line (k + 1) ++ [crow first line (k + 1)] := by
      unfold bRows
      rw [List.range_succ, List.map_append]
      rfl
    rw [e]
    unfold vars
    rw [varsFrom_append]
    have ih' : varsFrom [] (bRows first line (k + 1)) = line.take (k + 2) := ih
    rw [ih']
    show addVars (line.take (k + 2)) [nod line (k + 1), nod line (k + 1 + 1)] = _
    rw [nod_lt hk1, nod_lt hk, addVars_two _ _ _ (neg _ (List.getElem_mem hk1)) (neg _ (List.getElem_mem hk)) ?_ (take_not nd hk)]
    · exact (List.take_succ_eq_append_getElem hk).symm
    · have : line[k + 1] ∈ line.take (k + 1) ++ [line[k + 1]] := List.mem_append_right _ (List.mem_singleton.mpr rfl)
      rw [← List.take_succ_eq_append_getElem hk1] at this
      exact this
section
variable {n : Nat} {first second : Str} {nd ld : List Int} {od sm : List Nat} {len : Nat} {line : List Int}
theorem Chn.vars (C : Chn n first second nd ld od sm len line) : vars (bRows first line len) = line := by
  obtain ⟨k, rfl⟩ : ∃ k, len = k + 1 := ⟨len - 1, by have := C.l1; omega⟩
  rw [vars_chain C.lnn (fun x h => (C.lnr x h).2) k (by have := C.lnl; omega), List.take_of_length_le (by have := C.lnl; omega)]
theorem Chn.bok (C : Chn n first second nd ld od sm len line) : RowsOk (bRows first line len) := by
  refine ⟨by unfold bRows; rw [List.length_map, List.length_range]; have := C.l16; omega, fun r hr => ?_⟩
  obtain ⟨i, _, rfl⟩ := List.mem_map.mp hr
  exact ⟨C.fo, by show 2 ≤ 100; omega⟩
theorem Chn.odlt (C : Chn n first second nd ld od sm len line) {a : Nat} (h : a ∈ od) : a < n := List.mem_range.mp (C.od.mem_iff.mp h)
theorem Chn.odl (C : Chn n first second nd ld od sm len line) : od.length = n := by rw [C.od.length_eq, List.length_range]
theorem Chn.tok (C : Chn n first second nd ld od sm len line) : RowsOk (tRows first second nd ld od sm) := by
  refine ⟨by unfold tRows; rw [List.length_append, List.length_map, List.length_map, C.odl]; have := C.sml; have := C.n57; omega, fun r hr => ?_⟩
  rcases List.mem_append.mp hr with h | h
  · obtain ⟨i, _, rfl⟩ := List.mem_map.mp h
    exact ⟨C.fo, by show 2 ≤ 100; omega⟩
  · obtain ⟨i, _, rfl⟩ := List.mem_map.mp h
    exact ⟨C.so, by show 1 ≤ 100; omega⟩
theorem Chn.big (C : Chn n first second nd ld od sm len line) : ∀ r ∈ tRows first second nd ld od sm, ∀ x ∈ r.2, -1000000007 < x := by
  intro r hr x hx
  have lo : ∀ a, a < n → -1000000007 < nod nd a := fun a h => (C.ndr _ (nod_mem (by rw [C.ndl]; exact h))).1
  rcases List.mem_append.mp hr with h | h
  · obtain ⟨i, hi, rfl⟩ := List.mem_map.mp h
    have hi := C.odlt hi
    simp only [trow1, List.mem_cons, List.not_mem_nil, or_false] at hx
    rcases hx with rfl | rfl
    · exact lo i hi
    · exact lo _ (nxt_lt C.ldl C.ldr hi).1
  · obtain ⟨i, hi, rfl⟩ := List.mem_map.mp h
    simp only [trow2, List.mem_cons, List.not_mem_nil, or_false] at hx
    rw [hx]
    exact lo i (C.sm i hi)
theorem Chn.tne (C : Chn n first second nd ld od sm len line) : tRows first second nd ld od sm ≠ [] := fun e => by
  have h := congrArg List.length e
  unfold tRows at h
  rw [List.length_append, List.length_map, C.odl] at h
  have := C.n17
  simp at h
  omega
theorem Chn.fold (C : Chn n first second nd ld od sm len line) {nots tnots : List Row} {tsp : List Span} (tb : ∀ s ∈ tsp, 0 ≤ s.2.1 ∧ s.2.2 ≤ 1000) {s : Nat} (hs : s < n) :
    foldV ⟨bRows first line len, nots, [], []⟩ ⟨tRows first second nd ld od sm, tnots, tsp, []⟩ (pathL nd ld s (len + 1)) = true := by
  have pl : (pathL nd ld s (len + 1)).length = len + 1 := by unfold pathL; rw [List.length_map, List.length_range]
  have pg : ∀ i (h : i < (pathL nd ld s (len + 1)).length), (pathL nd ld s (len + 1))[i] = nod nd (itn ld i s) := fun i h => by
    have h' : i < ((List.range (len + 1)).map fun i => nod nd (itn ld i s)).length := h
    show ((List.range (len + 1)).map fun i => nod nd (itn ld i s))[i]'h' = _
    rw [List.getElem_map, List.getElem_range]
  have il : ∀ i, i < len + 1 → img line (pathL nd ld s (len + 1)) (nod line i) = nod nd (itn ld i s) := fun i h => by
    have h1 : i < line.length := by rw [C.lnl]; exact h
    have h2 : i < (pathL nd ld s (len + 1)).length := by rw [pl]; exact h
    have neg := (C.lnr _ (nod_mem h1)).2
    unfold img
    rw [if_neg (by omega), nod_lt h1, lk_at i h1 h2 C.lnn, pg i h2]
    rfl
  unfold foldV lays
  show (decide ((pathL nd ld s (len + 1)).length = (AL.vars (bRows first line len)).length) && ((AL.vars (bRows first line len)).all (fun k => within ⟨bRows first line len, nots, [], []⟩ ⟨tRows first second nd ld od sm, tnots, tsp, []⟩ k ((lk (AL.vars (bRows first line len)) (pathL nd ld s (len + 1)) k).getD 0)) && (decide (laidT [] (AL.vars (bRows first line len)) (pathL nd ld s (len + 1)) = []) && (bRows first line len).all fun r => decide ((r.1, laidT r.2 (AL.vars (bRows first line len)) (pathL nd ld s (len + 1))) ∈ tRows first second nd ld od sm)))) = true
  rw [C.vars, pl, C.lnl, decide_eq_true rfl, Bool.true_and, Bool.and_eq_true, Bool.and_eq_true, List.all_eq_true, List.all_eq_true]
  refine ⟨fun k hk => ?_, decide_eq_true rfl, fun r hr => ?_⟩
  · obtain ⟨i, hi, rfl⟩ := List.mem_iff_getElem.mp hk
    have h2 : i < (pathL nd ld s (len + 1)).length := by rw [pl, ← C.lnl]; exact hi
    have neg := (C.lnr _ (List.getElem_mem hi)).2
    rw [lk_at i hi h2 C.lnn, pg i h2]
    show within _ _ _ (nod nd (itn ld i s)) = true
    have up : nod nd (itn ld i s) ≤ 900 := by
      have := (C.ndr _ (nod_mem (nd := nd) (a := itn ld i s) (by rw [C.ndl]; exact itn_lt C.ldl C.ldr hs i))).2
      omega
    have b2 := bnd_in (t := ⟨tRows first second nd ld od sm, tnots, tsp, []⟩) tb up
    unfold within
    rw [bnd_lt (t := ⟨bRows first line len, nots, [], []⟩) (x := line[i]) (by omega)]
    show (decide ((0 : Int) ≤ _) && decide (_ ≤ (1000 : Int))) = true
    rw [decide_eq_true b2.1, decide_eq_true b2.2]
    rfl
  · obtain ⟨i, hi, rfl⟩ := List.mem_map.mp hr
    have hi := List.mem_range.mp hi
    refine decide_eq_true ?_
    show (first, [img line _ (nod line i), img line _ (nod line (i + 1))]) ∈ _
    rw [il i (by omega), il (i + 1) (by omega)]
    refine List.mem_append_left _ ?_
    exact List.mem_map.mpr ⟨itn ld i s, C.od.mem_iff.mpr (List.mem_range.mpr (itn_lt C.ldl C.ldr hs i)), rfl⟩
end
end AL
namespace AL
open PySem L2
/-! P22: chain. -/
def ChainEnd (A : AEnds) : Prop := ∀ b t (line : List Int) (paths : List (List Int)) d' es, TreeOk b → TreeOk t → vars b.rows = line → paths ≠ [] → paths.length ≤ 1000 → (∀ p ∈ paths, PairOk b t p ∧ foldV ⟨b.rows, b.nots, [], []⟩ ⟨t.rows, t.nots, t.spans, []⟩ p = true) → t.rows ≠ [] → b.spans.length ≤ 900 → t.wide.length ≤ 900 → Dr d' →
  A.rt (.dat (.tup [treeD b, treeD t, .lst (line.map D.int), .lst (paths.map fun p => D.lst (p.map D.int))])) (.own d' :: es)
def pths (nd ld : List Int) (od : List Nat) (len : Nat) : List (List Int) := od.map fun s => pathL nd ld s (len + 1)
def pthsD (ps : List (List Int)) : List D := ps.map fun p => D.lst (p.map D.int)
section
variable {n : Nat} {first second : Str} {nd ld : List Int} {od sm : List Nat} {len : Nat} {line : List Int} {tsp spans : List Span} {nots : List Row} {wide twide : List Int} {A : AEnds} {d : D}
structure TspOk (tsp : List Span) : Prop where
  len : tsp.length ≤ 100
  desc : tsp.Pairwise fun a b => b.1 < a.1
  bd : ∀ s ∈ tsp, 0 ≤ s.2.1 ∧ s.2.2 ≤ 1000
theorem chain_fin (hA : ChainEnd A) (C : Chn n first second nd ld od sm len line) (T : TspOk tsp) (hd : Dr d) (sl : spans.length ≤ 1) (nok : RowsOk nots) (wh : Has line wide) (wl : wide.length ≤ 1) (twl : twide.length ≤ 1) (es : AEnv) :
    A.rt (.dat (.tup [treeD ⟨bRows first line len, nots, spans, wide⟩, treeD ⟨tRows first second nd ld od sm, [], tsp, twide⟩, .lst (line.map D.int), .lst (pthsD (pths nd ld od len))])) (.own d :: es) := by
  have bo : TreeOk ⟨bRows first line len, nots, spans, wide⟩ := ⟨C.bok, nok, by show spans.length ≤ 1000; omega, by show wide.length ≤ 1000; omega, by
    match spans, sl with
    | [], _ => exact List.Pairwise.nil
    | [s], _ => exact List.pairwise_singleton _ _⟩
  have to : TreeOk ⟨tRows first second nd ld od sm, [], tsp, twide⟩ := ⟨C.tok, ⟨by simp, fun r h => by cases h⟩, by have := T.len; show tsp.length ≤ 1000; omega, by show twide.length ≤ 1000; omega, T.desc⟩
  refine hA ⟨bRows first line len, nots, spans, wide⟩ ⟨tRows first second nd ld od sm, [], tsp, twide⟩ line (pths nd ld od len) d es bo to C.vars (fun e => ?_) (by unfold pths; rw [List.length_map, C.odl]; have := C.n57; omega) (fun p hp => ?_) C.tne (by show spans.length ≤ 900; omega) (by show twide.length ≤ 900; omega) hd
  · have h := congrArg List.length e
    unfold pths at h
    rw [List.length_map, C.odl] at h
    have := C.n17
    simp at h
    omega
  · obtain ⟨s, hs, rfl⟩ := List.mem_map.mp hp
    have hs := C.odlt hs
    have pl : (pathL nd ld s (len + 1)).length = len + 1 := by unfold pathL; rw [List.length_map, List.length_range]
    exact ⟨⟨bo, to, by show _ = (AL.vars (bRows first line len)).length; rw [C.vars, pl, C.lnl], by rw [pl]; have := C.l16; omega, by show Has (AL.vars (bRows first line len)) wide; rw [C.vars]; exact wh, C.big⟩, C.fold T.bd hs⟩
set_option maxHeartbeats 0 in
theorem chain_18 {x1 x2 x3 x4 x6 x8 x9 x11 x12 x13 x14 x15 x16 x17 x22 x23 : AV} (h9 : x9 = .own (.lst (line.map D.int)) ∨ x9 = .dat (.lst (line.map D.int))) (h11 : x11 = .own (.lst (pthsD (pths nd ld od len))) ∨ x11 = .dat (.lst (pthsD (pths nd ld od len))))
    (hA : ChainEnd A) (C : Chn n first second nd ld od sm len line) (T : TspOk tsp) (hd : Dr d) (sl : spans.length ≤ 1) (nok : RowsOk nots) (wh : Has line wide) (wl : wide.length ≤ 1) (twl : twide.length ≤ 1) :
    law_chain_0_18 A [.own d, x1, x2, x3, x4, .own (.lst ((tRows first second nd ld od sm).map rowD)), x6, .own (.lst (tsp.map spD)), x8, x9, .own (.lst ((bRows first line len).map rowD)), x11, x12, x13, x14, x15, x16, x17, .dat (tmD wide), .dat (tmD twide), .own (.lst (spans.map spD)), .own (.lst (nots.map rowD)), x22, x23] := by
  rcases h9 with rfl | rfl <;> rcases h11 with rfl | rfl <;>
  · conv => whnf
    repeat (refine ⟨trivial, ?_⟩; conv => whnf)
    refine ⟨sz4, ?_⟩
    conv => whnf
    repeat (refine ⟨trivial, ?_⟩; conv => whnf)
    refine ⟨Nat.zero_le _, ?_⟩
    conv => whnf
    repeat (refine ⟨trivial, ?_⟩; conv => whnf)
    refine ⟨sz4, ?_⟩
    conv => whnf
    repeat (refine ⟨trivial, ?_⟩; conv => whnf)
    refine ⟨sz4, ?_⟩
    conv => whnf
    repeat (refine ⟨trivial, ?_⟩; conv => whnf)
    exact chain_fin hA C T hd sl nok wh wl twl _
set_option maxHeartbeats 0 in
theorem chain_17 {x1 x2 x3 x4 x6 x8 x9 x11 x12 x13 x15 x16 x17 x22 x23 : AV} (h9 : x9 = .own (.lst (line.map D.int)) ∨ x9 = .dat (.lst (line.map D.int))) (h11 : x11 = .own (.lst (pthsD (pths nd ld od len))) ∨ x11 = .dat (.lst (pthsD (pths nd ld od len))))
    (hA : ChainEnd A) (C : Chn n first second nd ld od sm len line) (T : TspOk tsp) (hd : Dr d) (sl : spans.length ≤ 1) (wh : Has line wide) (wl : wide.length ≤ 1) (twl : twide.length ≤ 1) :
    law_chain_0_17 A [.own d, x1, x2, x3, x4, .own (.lst ((tRows first second nd ld od sm).map rowD)), x6, .own (.lst (tsp.map spD)), x8, x9, .own (.lst ((bRows first line len).map rowD)), x11, x12, x13, .dat (.str second), x15, x16, x17, .dat (tmD wide), .dat (tmD twide), .own (.lst (spans.map spD)), .own (.lst []), x22, x23] := by
  have lne : line ≠ [] := fun e => by have := C.lnl; rw [e] at this; cases this
  rcases h9 with rfl | rfl <;>
  · conv => whnf
    repeat (refine ⟨trivial, ?_⟩; conv => whnf)
    refine use_draw 0 rfl hd (by omega) (by omega) fun r d2 a b hd2 => ?_
    conv => whnf
    repeat (refine ⟨trivial, ?_⟩; conv => whnf)
    refine eq_int ?_
    conv => whnf
    repeat (refine ⟨trivial, ?_⟩; conv => whnf)
    refine brI (fun h => ?_) (fun h => ?_)
    · conv => whnf
      repeat (refine ⟨trivial, ?_⟩; conv => whnf)
      refine ⟨⟨_, rfl⟩, ?_⟩
      conv => whnf
      repeat (refine ⟨trivial, ?_⟩; conv => whnf)
      refine use_pick 0 (line.map D.int) rfl hd2 rfl (by simpa using lne) (by rw [List.length_map, C.lnl]; have := C.l16; omega) fun z d3 mz hd3 => ?_
      obtain ⟨v, hv, rfl⟩ := List.mem_map.mp mz
      conv => whnf
      repeat (refine ⟨trivial, ?_⟩; conv => whnf)
      refine ⟨sz1, ?_⟩
      conv => whnf
      repeat (refine ⟨trivial, ?_⟩; conv => whnf)
      refine ⟨sz2, ?_⟩
      conv => whnf
      repeat (refine ⟨trivial, ?_⟩; conv => whnf)
      refine ⟨sz_lt (by simp), ?_⟩
      exact chain_18 (nots := [(second, [v])]) (.inr rfl) h11 hA C T hd3 sl ⟨by simp, fun r hr => by
        rw [List.mem_singleton] at hr
        rw [hr]
        exact ⟨C.so, by show 1 ≤ 100; omega⟩⟩ wh wl twl
    · first
      | exact chain_18 (nots := []) (.inl rfl) h11 hA C T hd2 sl ⟨by simp, fun r hr => by cases hr⟩ wh wl twl
      | exact chain_18 (nots := []) (.inr rfl) h11 hA C T hd2 sl ⟨by simp, fun r hr => by cases hr⟩ wh wl twl
def cell3 : List D := [.tup [.int 0, .int 100], .tup [.int 100, .int 200], .tup [.int 200, .int 1000]]
def cell5 : List (Int × Int) := [(0, 100), (100, 200), (200, 1000), (0, 200), (100, 1000)]
theorem cell5_eq : cell3 ++ [.tup [.int 0, .int 200], .tup [.int 100, .int 1000]] = cell5.map prD := rfl
set_option maxHeartbeats 0 in
theorem chain_16 {x1 x2 x3 x4 x8 x9 x11 x12 x13 x15 x16 x17 x22 x23 : AV} (h9 : x9 = .own (.lst (line.map D.int)) ∨ x9 = .dat (.lst (line.map D.int))) (h11 : x11 = .own (.lst (pthsD (pths nd ld od len))) ∨ x11 = .dat (.lst (pthsD (pths nd ld od len))))
    (hA : ChainEnd A) (C : Chn n first second nd ld od sm len line) (T : TspOk tsp) (hd : Dr d) (wh : Has line wide) (wl : wide.length ≤ 1) (twl : twide.length ≤ 1) :
    law_chain_0_16 A [.own d, x1, x2, x3, x4, .own (.lst ((tRows first second nd ld od sm).map rowD)), .own (.lst cell3), .own (.lst (tsp.map spD)), x8, x9, .own (.lst ((bRows first line len).map rowD)), x11, x12, x13, .dat (.str second), x15, x16, x17, .dat (tmD wide), .dat (tmD twide), .own (.lst []), .own (.lst []), x22, x23] := by
  have lne : line ≠ [] := fun e => by have := C.lnl; rw [e] at this; cases this
  rcases h9 with rfl | rfl <;>
  · conv => whnf
    repeat (refine ⟨trivial, ?_⟩; conv => whnf)
    refine use_draw 0 rfl hd (by omega) (by omega) fun r d2 a b hd2 => ?_
    conv => whnf
    repeat (refine ⟨trivial, ?_⟩; conv => whnf)
    refine eq_int ?_
    conv => whnf
    repeat (refine ⟨trivial, ?_⟩; conv => whnf)
    refine brI (fun h => ?_) (fun h => ?_)
    · conv => whnf
      repeat (refine ⟨trivial, ?_⟩; conv => whnf)
      refine ⟨⟨_, rfl⟩, ?_⟩
      conv => whnf
      repeat (refine ⟨trivial, ?_⟩; conv => whnf)
      refine use_pick 0 (line.map D.int) rfl hd2 rfl (by simpa using lne) (by rw [List.length_map, C.lnl]; have := C.l16; omega) fun z d3 mz hd3 => ?_
      obtain ⟨v, hv, rfl⟩ := List.mem_map.mp mz
      conv => whnf
      repeat (refine ⟨trivial, ?_⟩; conv => whnf)
      refine ⟨sz1, ?_⟩
      conv => whnf
      repeat (refine ⟨trivial, ?_⟩; conv => whnf)
      refine ⟨sz2, ?_⟩
      conv => whnf
      repeat (refine ⟨trivial, ?_⟩; conv => whnf)
      refine ⟨sz2, ?_⟩
      conv => whnf
      repeat (refine ⟨trivial, ?_⟩; conv => whnf)
      refine ⟨sz2, ?_⟩
      conv => whnf
      repeat (refine ⟨trivial, ?_⟩; conv => whnf)
      refine ⟨sz_le (by simp [cell3]), ?_⟩
      conv => whnf
      repeat (refine ⟨trivial, ?_⟩; conv => whnf)
      rw [cell5_eq]
      refine use_pick 0 (cell5.map prD) rfl hd3 rfl (by simp [cell5]) (by simp [cell5]) fun z d4 mz hd4 => ?_
      obtain ⟨⟨p, q⟩, hp, rfl⟩ := List.mem_map.mp mz
      conv => whnf
      repeat (refine ⟨trivial, ?_⟩; conv => whnf)
      refine ⟨sz3 (a := .non) (b := .non) (c := .non), ?_⟩
      conv => whnf
      repeat (refine ⟨trivial, ?_⟩; conv => whnf)
      refine ⟨sz_lt (by simp), ?_⟩
      exact chain_17 (spans := [(v, p, q)]) (.inr rfl) h11 hA C T hd4 (by simp) wh wl twl
    · first
      | exact chain_17 (spans := []) (.inl rfl) h11 hA C T hd2 (by simp) wh wl twl
      | exact chain_17 (spans := []) (.inr rfl) h11 hA C T hd2 (by simp) wh wl twl
set_option maxHeartbeats 0 in
theorem chain_14 {x1 x2 x3 x4 x12 x15 x16 x17 x22 x23 : AV}
    (hA : ChainEnd A) (C : Chn n first second nd ld od sm len line) (T : TspOk tsp) (hd : Dr d) :
    law_chain_0_14 A [.own d, x1, x2, x3, x4, .own (.lst ((tRows first second nd ld od sm).map rowD)), .own (.lst cell3), .own (.lst (tsp.map spD)), .dat (.int (len : Int)), .own (.lst (line.map D.int)), .own (.lst ((bRows first line len).map rowD)), .own (.lst (pthsD (pths nd ld od len))), x12, .dat (.str first), .dat (.str second), x15, x16, x17, .un, .un, .un, .un, x22, x23] := by
  have h16 := C.l16
  have pne : pthsD (pths nd ld od len) ≠ [] := fun e => by
    have h := congrArg List.length e
    unfold pthsD pths at h
    rw [List.length_map, List.length_map, C.odl] at h
    have := C.n17
    simp at h
    omega
  have pll : (pthsD (pths nd ld od len)).length = n := by unfold pthsD pths; rw [List.length_map, List.length_map, C.odl]
  have n57 := C.n57
  conv => whnf
  repeat (refine ⟨trivial, ?_⟩; conv => whnf)
  refine ⟨Nat.zero_le _, ?_⟩
  conv => whnf
  repeat (refine ⟨trivial, ?_⟩; conv => whnf)
  refine ⟨Nat.zero_le _, ?_⟩
  conv => whnf
  repeat (refine ⟨trivial, ?_⟩; conv => whnf)
  refine ⟨Nat.zero_le _, ?_⟩
  conv => whnf
  repeat (refine ⟨trivial, ?_⟩; conv => whnf)
  refine ⟨Nat.zero_le _, ?_⟩
  conv => whnf
  repeat (refine ⟨trivial, ?_⟩; conv => whnf)
  refine ⟨rfl, ?_⟩
  conv => whnf
  repeat (refine ⟨trivial, ?_⟩; conv => whnf)
  refine use_draw 0 rfl hd (by omega) (by omega) fun r d2 a b hd2 => ?_
  conv => whnf
  repeat (refine ⟨trivial, ?_⟩; conv => whnf)
  refine eq_int ?_
  conv => whnf
  repeat (refine ⟨trivial, ?_⟩; conv => whnf)
  refine brI (fun h => ?_) (fun h => ?_)
  · conv => whnf
    repeat (refine ⟨trivial, ?_⟩; conv => whnf)
    refine use_draw 0 rfl hd2 (by omega) (by omega) fun r3 d3 a3 b3 hd3 => ?_
    have hr : r3.toNat < line.length := by rw [C.lnl]; omega
    conv => whnf
    repeat (refine ⟨trivial, ?_⟩; conv => whnf)
    refine ix_lst a3 (get_nod hr) ?_
    conv => whnf
    repeat (refine ⟨trivial, ?_⟩; conv => whnf)
    refine ⟨sz1, ?_⟩
    conv => whnf
    repeat (refine ⟨trivial, ?_⟩; conv => whnf)
    refine use_pick 0 (pthsD (pths nd ld od len)) rfl hd3 rfl pne (by rw [pll]; omega) fun z d4 mz hd4 => ?_
    obtain ⟨p, hp, rfl⟩ := List.mem_map.mp mz
    obtain ⟨s, hs, rfl⟩ := List.mem_map.mp hp
    have pl : (pathL nd ld s (len + 1)).length = len + 1 := by unfold pathL; rw [List.length_map, List.length_range]
    conv => whnf
    repeat (refine ⟨trivial, ?_⟩; conv => whnf)
    refine ix_lst a3 (get_nod (nd := pathL nd ld s (len + 1)) (a := r3.toNat) (by rw [pl]; omega)) ?_
    conv => whnf
    repeat (refine ⟨trivial, ?_⟩; conv => whnf)
    refine ⟨sz1, ?_⟩
    conv => whnf
    repeat (refine ⟨trivial, ?_⟩; conv => whnf)
    refine ⟨rfl, ?_⟩
    exact chain_16 (wide := [nod line r3.toNat]) (twide := [nod (pathL nd ld s (len + 1)) r3.toNat]) (.inl rfl) (.inr rfl) hA C T hd4 (fun x hx _ => by
      rw [List.mem_singleton] at hx
      rw [hx]
      exact nod_mem hr) (by simp) (by simp)
  · exact chain_16 (wide := []) (twide := []) (.inl rfl) (.inl rfl) hA C T hd2 (fun x hx => by cases hx) (by simp) (by simp)
end
end AL
namespace AL
open PySem L2
/-! P23: chain, its paths and rows. -/
def oD (od : List Nat) : List D := od.map fun (i : Nat) => D.int (i : Int)
theorem range_oD (n : Nat) : rangeD 0 n = oD (List.range n) := by
  unfold rangeD oD
  refine List.map_congr_left fun i _ => ?_
  rw [Int.zero_add]
theorem oD_inj {i j : Nat} (h : D.int (i : Int) = D.int (j : Int)) : i = j := by
  injection h with h
  omega
section
variable {n : Nat} {first second : Str} {nd ld : List Int} {od sm : List Nat} {len : Nat} {line : List Int} {tsp spans : List Span} {A : AEnds} {d : D}
theorem pathL_succ (nd ld : List Int) (s k : Nat) : (pathL nd ld s (k + 1)).map D.int = (pathL nd ld s k).map D.int ++ [.int (nod nd (itn ld k s))] := by
  unfold pathL
  rw [List.range_succ, List.map_append, List.map_append]
  rfl
set_option maxHeartbeats 0 in
theorem chain_13 {x1 x4 x22 x23 : AV} (h4 : x4 = .dat (.lst (oD od)))
    (hA : ChainEnd A) (C : Chn n first second nd ld od sm len line) (T : TspOk tsp) (hd : Dr d) :
    law_chain_0_13 A [.own d, x1, .dat (.lst (nd.map D.int)), .own (.lst (ld.map D.int)), x4, .own (.lst ((tRows first second nd ld od sm).map rowD)), .own (.lst cell3), .own (.lst (tsp.map spD)), .dat (.int (len : Int)), .own (.lst (line.map D.int)), .own (.lst ((bRows first line len).map rowD)), .own (.lst []), .un, .dat (.str first), .dat (.str second), .un, .un, .un, .un, .un, .un, .un, x22, x23] := by
  subst h4
  have h16 := C.l16
  have n57 := C.n57
  conv => whnf
  repeat (refine ⟨trivial, ?_⟩; conv => whnf)
  intro _
  refine for_ind (Iv := fun items env => ∃ (pre us : List Nat) (y12 y15 y16 y17 : AV), items = oD us ∧ pre ++ us = od ∧ env = [.own d, x1, .dat (.lst (nd.map D.int)), .own (.lst (ld.map D.int)), .dat (.lst (oD od)), .own (.lst ((tRows first second nd ld od sm).map rowD)), .own (.lst cell3), .own (.lst (tsp.map spD)), .dat (.int (len : Int)), .own (.lst (line.map D.int)), .own (.lst ((bRows first line len).map rowD)), .own (.lst (pthsD (pths nd ld pre len))), y12, .dat (.str first), .dat (.str second), y15, y16, y17, .un, .un, .un, .un, x22, x23]) ?_ ?_ _ _ ⟨[], od, _, _, _, _, rfl, rfl, rfl⟩
  · rintro env ⟨pre, us, y12, y15, y16, y17, e, ep, rfl⟩
    cases us with
    | cons u r => cases e
    | nil =>
      rw [List.append_nil] at ep
      subst ep
      exact chain_14 hA C T hd
  · rintro y ds env M hM ⟨pre, us, y12, y15, y16, y17, e, ep, rfl⟩
    obtain ⟨s, q, rfl, rfl, rfl⟩ := map_cons_inv e.symm
    have hs : s < n := C.odlt (by rw [← ep]; simp)
    have il := itn_lt C.ldl C.ldr hs
    conv => whnf
    repeat (refine ⟨trivial, ?_⟩; conv => whnf)
    refine ix_lst (by omega) (get_nod (nd := nd) (a := s) (by rw [C.ndl]; exact hs)) ?_
    conv => whnf
    repeat (refine ⟨trivial, ?_⟩; conv => whnf)
    refine ⟨sz1, ?_⟩
    conv => whnf
    repeat (refine ⟨trivial, ?_⟩; conv => whnf)
    refine ⟨⟨by omega, by omega⟩, ?_⟩
    have e0 : ([D.int (nod nd s)] : List D) = (pathL nd ld s (0 + 1)).map D.int := rfl
    refine for_ind (Iv := fun items env => ∃ (k : Nat) (y17 : AV), k + items.length = len ∧ env = [.own d, x1, .dat (.lst (nd.map D.int)), .own (.lst (ld.map D.int)), .dat (.lst (oD od)), .own (.lst ((tRows first second nd ld od sm).map rowD)), .own (.lst cell3), .own (.lst (tsp.map spD)), .dat (.int (len : Int)), .own (.lst (line.map D.int)), .own (.lst ((bRows first line len).map rowD)), .own (.lst (pthsD (pths nd ld pre len))), .dat (.int (s : Int)), .dat (.str first), .dat (.str second), .dat (.int (itn ld k s : Nat)), .own (.lst ((pathL nd ld s (k + 1)).map D.int)), y17, .un, .un, .un, .un, x22, x23]) ?_ ?_ _ _ ⟨0, _, by rw [range_len]; omega, rfl⟩
    · rintro env ⟨k, y17, hk, rfl⟩
      have hk : k = len := hk
      subst hk
      have pll : pre.length ≤ n := by rw [← C.odl, ← ep, List.length_append]; omega
      conv => whnf
      repeat (refine ⟨trivial, ?_⟩; conv => whnf)
      refine ⟨⟨_, rfl⟩, ?_⟩
      conv => whnf
      repeat (refine ⟨trivial, ?_⟩; conv => whnf)
      refine ⟨sz_lt (by unfold pthsD pths; rw [List.length_map, List.length_map]; omega), ?_⟩
      conv => whnf
      repeat (refine ⟨trivial, ?_⟩; conv => whnf)
      refine hM _ ⟨pre ++ [s], q, .dat (.int (s : Int)), .dat (.int (itn ld k s : Nat)), .dat (.lst ((pathL nd ld s (k + 1)).map D.int)), y17, rfl, by rw [List.append_assoc]; exact ep, ?_⟩
      have e2 : pthsD (pths nd ld (pre ++ [s]) k) = pthsD (pths nd ld pre k) ++ [.lst ((pathL nd ld s (k + 1)).map D.int)] := by
        unfold pthsD pths
        rw [List.map_append, List.map_append]
        rfl
      rw [e2]
      rfl
    · rintro y2 ds2 env N hN ⟨k, y17, hk, rfl⟩
      rw [List.length_cons] at hk
      conv => whnf
      repeat (refine ⟨trivial, ?_⟩; conv => whnf)
      refine ix_lst (by omega) (z := .int (itn ld (k + 1) s : Nat)) ((get_nod (nd := ld) (a := itn ld k s) (by rw [C.ldl]; exact il k)).trans (by rw [← (nxt_lt C.ldl C.ldr (il k)).2]; rfl)) ?_
      conv => whnf
      repeat (refine ⟨trivial, ?_⟩; conv => whnf)
      refine ⟨⟨_, rfl⟩, ?_⟩
      conv => whnf
      repeat (refine ⟨trivial, ?_⟩; conv => whnf)
      refine ix_lst (by omega) (get_nod (nd := nd) (a := itn ld (k + 1) s) (by rw [C.ndl]; exact il (k + 1))) ?_
      conv => whnf
      repeat (refine ⟨trivial, ?_⟩; conv => whnf)
      refine ⟨sz_lt (by unfold pathL; rw [List.length_map, List.length_map, List.length_range]; omega), ?_⟩
      conv => whnf
      repeat (refine ⟨trivial, ?_⟩; conv => whnf)
      refine hN _ ⟨k + 1, .dat y2, by omega, ?_⟩
      rw [pathL_succ nd ld s (k + 1)]
      rfl
set_option maxHeartbeats 0 in
theorem chain_9 {x1 x4 x22 x23 : AV} (h4 : x4 = .dat (.lst (oD od)))
    (hA : ChainEnd A) (C : ∀ len line, 1 ≤ len → len ≤ 16 → line.length = len + 1 → line.Nodup → (∀ x ∈ line, -1000000007 < x ∧ x < 0) → Chn n first second nd ld od sm len line) (T : TspOk tsp) (hd : Dr d) :
    law_chain_0_9 A [.own d, x1, .dat (.lst (nd.map D.int)), .own (.lst (ld.map D.int)), x4, .own (.lst ((tRows first second nd ld od sm).map rowD)), .own (.lst cell3), .own (.lst (tsp.map spD)), .un, .un, .un, .un, .un, .dat (.str first), .dat (.str second), .un, .un, .un, .un, .un, .un, .un, x22, x23] := by
  conv => whnf
  repeat (refine ⟨trivial, ?_⟩; conv => whnf)
  refine use_draw 0 rfl hd (by omega) (by omega) fun r d2 a b hd2 => ?_
  obtain ⟨len, hlen⟩ : ∃ len : Nat, 1 + r = (len : Int) := ⟨(1 + r).toNat, by omega⟩
  conv => whnf
  repeat (refine ⟨trivial, ?_⟩; conv => whnf)
  rw [hlen]
  refine use_pool 0 rfl hd2 (by omega) (by omega) fun line d3 lnd ll lr hd3 => ?_
  have ll2 : line.length = len + 1 := by omega
  have C2 := C len line (by omega) (by omega) ll2 lnd lr
  conv => whnf
  repeat (refine ⟨trivial, ?_⟩; conv => whnf)
  refine ⟨⟨by omega, by omega⟩, ?_⟩
  refine ⟨noOwn_one (x := .un) rfl (fun e z => by cases z), sz_le (by rw [range_len]; omega), ?_⟩
  have er : rangeD 0 (Int.toNat (len : Int)) = oD (List.range len) := by rw [Int.toNat_natCast, range_oD]
  rw [er]
  refine lc_ind (Ev := fun env => env = [.own d3, x1, .dat (.lst (nd.map D.int)), .own (.lst (ld.map D.int)), x4, .own (.lst ((tRows first second nd ld od sm).map rowD)), .own (.lst cell3), .own (.lst (tsp.map spD)), .dat (.int (len : Int)), .own (.lst (line.map D.int)), .un, .un, .un, .dat (.str first), .dat (.str second), .un, .un, .un, .un, .un, .un, .un, x22, x23])
    (Stp := fun y oz => ∃ i : Nat, y = D.int (i : Int) ∧ oz = some (rowD (crow first line i))) _ ?_ _ _ rfl ?_
  · rintro y hy _ K rfl hK
    obtain ⟨i, hi, rfl⟩ := List.mem_map.mp hy
    have hi := List.mem_range.mp hi
    conv => whnf
    repeat (refine ⟨trivial, ?_⟩; conv => whnf)
    rw [brP_true]
    conv => whnf
    repeat (refine ⟨trivial, ?_⟩; conv => whnf)
    refine ix_lst (by omega) (get_nod (nd := line) (a := i) (by omega)) ?_
    conv => whnf
    repeat (refine ⟨trivial, ?_⟩; conv => whnf)
    refine ix_lst (by omega) (get_nod (nd := line) (a := i + 1) (by omega)) ?_
    conv => whnf
    repeat (refine ⟨trivial, ?_⟩; conv => whnf)
    refine ⟨sz2, ?_⟩
    conv => whnf
    repeat (refine ⟨trivial, ?_⟩; conv => whnf)
    refine ⟨sz2, ?_⟩
    conv => whnf
    repeat (refine ⟨trivial, ?_⟩; conv => whnf)
    exact hK _ _ rfl ⟨i, rfl, rfl⟩
  · rintro zs _ o rfl
    have ez := o.map (f := fun i : Nat => rowD (crow first line i)) fun i oz ⟨j, e1, e2⟩ => by
      rw [oD_inj e1]
      exact e2
    have ez2 : zs = (bRows first line len).map rowD := by
      unfold bRows
      rw [ez, List.map_map]
      rfl
    rw [ez2]
    conv => whnf
    repeat (refine ⟨trivial, ?_⟩; conv => whnf)
    refine ⟨Nat.zero_le _, ?_⟩
    exact chain_13 h4 hA C2 T hd3
end
end AL
namespace AL
open PySem L2
/-! P24: the beginning of chain. -/
theorem outs_spans {S : D → Option D → Prop} (h : ∀ y oz, S y oz → ∃ u a c : Int, y = .int u ∧ 0 ≤ a ∧ c ≤ 1000 ∧ oz = some (spD (u, a, c))) : ∀ {ts : List Int} {zs : List D}, Outs S (ts.map D.int) zs → ∃ sp : List Span, zs = sp.map spD ∧ sp.map (·.1) = ts ∧ ∀ s ∈ sp, 0 ≤ s.2.1 ∧ s.2.2 ≤ 1000
  | [], _, .nil => ⟨[], rfl, rfl, fun s h => by cases h⟩
  | t :: ts, _, .yes s o => by
    obtain ⟨sp, rfl, e, b⟩ := outs_spans h o
    obtain ⟨u, a, c, e1, ha, hc, e2⟩ := h _ _ s
    cases e2
    injection e1 with e1
    subst e1
    refine ⟨(t, a, c) :: sp, rfl, by rw [List.map_cons, e], fun q hq => ?_⟩
    rcases List.mem_cons.mp hq with w | w
    · rw [w]; exact ⟨ha, hc⟩
    · exact b q w
  | t :: ts, _, .no s o => by
    obtain ⟨u, a, c, e1, ha, hc, e2⟩ := h _ _ s
    cases e2
/-- index of a node -/
theorem index_node {nd : List Int} (h : nd.Nodup) {j : Nat} (hj : j < nd.length) : (nd.map D.int)[j]? = some (.int nd[j]) ∧ PyData.eqv (D.int nd[j]).pd (D.int nd[j]).pd = true ∧ ∀ (m : Nat) (z' : D), m < j → (nd.map D.int)[m]? = some z' → PyData.eqv z'.pd (D.int nd[j]).pd = false := by
  refine ⟨by rw [List.getElem?_map, List.getElem?_eq_getElem hj]; rfl, by rw [(Pl.int 0 _).eqvB (Pl.int 0 _)]; exact decide_eq_true rfl, fun m z' hm hz => ?_⟩
  have hml : m < nd.length := by omega
  rw [List.getElem?_map, List.getElem?_eq_getElem hml] at hz
  cases hz
  rw [(Pl.int 0 _).eqvB (Pl.int 0 _)]
  refine decide_eq_false fun e => ?_
  injection e with e
  have := (List.getElem_inj h).mp e
  omega
section
variable {n : Nat} {first second : Str} {nd ld : List Int} {od sm : List Nat} {A : AEnds} {d : D}
structure Ch0 (n : Nat) (first second : Str) (nd ld : List Int) (od sm : List Nat) : Prop where
  n17 : 17 ≤ n
  n57 : n ≤ 57
  fo : PyData.strOk first = true
  so : PyData.strOk second = true
  ndl : nd.length = n
  ndn : nd.Nodup
  ndr : ∀ x ∈ nd, -1000000007 < x ∧ x < 0
  ldl : ld.length = n
  ldr : ∀ x ∈ ld, 0 ≤ x ∧ x < n
  od : od.Perm (List.range n)
  sml : sm.length ≤ n
  sm : ∀ a ∈ sm, a < n
set_option maxHeartbeats 0 in
theorem chain_8 {x1 x22 : AV} (hA : ChainEnd A) (C : Ch0 n first second nd ld od sm) (hd : Dr d) :
    law_chain_0_8 A [.own d, x1, .dat (.lst (nd.map D.int)), .own (.lst (ld.map D.int)), .dat (.lst (oD od)), .own (.lst ((tRows first second nd ld od sm).map rowD)), .own (.lst cell3), .un, .un, .un, .un, .un, .un, .dat (.str first), .dat (.str second), .un, .un, .un, .un, .un, .un, .un, x22, .un] := by
  have n57 := C.n57
  have ndl := C.ndl
  conv => whnf
  repeat (refine ⟨trivial, ?_⟩; conv => whnf)
  refine use_downward nd rfl (by omega) fun ts pm pw => ?_
  have tl := pm.length_eq
  conv => whnf
  repeat (refine ⟨trivial, ?_⟩; conv => whnf)
  intro _
  refine ⟨noOwn_one (x := .un) rfl (fun e z => by cases z), sz_le (by rw [List.length_map]; omega), ?_⟩
  refine lc_ind (Ev := fun env => env = [.own d, x1, .dat (.lst (nd.map D.int)), .own (.lst (ld.map D.int)), .dat (.lst (oD od)), .own (.lst ((tRows first second nd ld od sm).map rowD)), .own (.lst cell3), .un, .un, .un, .un, .un, .un, .dat (.str first), .dat (.str second), .un, .un, .un, .un, .un, .un, .un, x22, .un])
    (Stp := fun y oz => ∃ u a c : Int, y = .int u ∧ 0 ≤ a ∧ c ≤ 1000 ∧ oz = some (spD (u, a, c))) _ ?_ _ _ rfl ?_
  · rintro y hy _ K rfl hK
    obtain ⟨u, hu, rfl⟩ := List.mem_map.mp hy
    obtain ⟨j, hj, rfl⟩ := List.mem_iff_getElem.mp (pm.mem_iff.mp hu)
    obtain ⟨i1, i2, i3⟩ := index_node C.ndn hj
    conv => whnf
    repeat (refine ⟨trivial, ?_⟩; conv => whnf)
    rw [brP_true]
    conv => whnf
    repeat (refine ⟨trivial, ?_⟩; conv => whnf)
    refine ⟨sz1, ?_⟩
    conv => whnf
    repeat (refine ⟨trivial, ?_⟩; conv => whnf)
    refine ⟨(Pl.int 0 _).sh, (Pl.lst (n := 0) (ints_pl nd)).sh, j, _, i1, i2, i3, ?_⟩
    conv => whnf
    repeat (refine ⟨trivial, ?_⟩; conv => whnf)
    refine ⟨by omega, ?_⟩
    have cs : ((j : Int) % 3).toNat = 0 ∨ ((j : Int) % 3).toNat = 1 ∨ ((j : Int) % 3).toNat = 2 := by omega
    conv => whnf
    repeat (refine ⟨trivial, ?_⟩; conv => whnf)
    rcases cs with hc | hc | hc
    · refine ix_lst (z := .tup [.int 0, .int 100]) (by omega) (by show cell3[((j : Int) % 3).toNat]? = _; rw [hc]; rfl) ?_
      conv => whnf
      repeat (refine ⟨trivial, ?_⟩; conv => whnf)
      refine ⟨sz3 (a := .non) (b := .non) (c := .non), ?_⟩
      conv => whnf
      repeat (refine ⟨trivial, ?_⟩; conv => whnf)
      exact hK _ _ rfl ⟨_, 0, 100, rfl, by omega, by omega, rfl⟩
    · refine ix_lst (z := .tup [.int 100, .int 200]) (by omega) (by show cell3[((j : Int) % 3).toNat]? = _; rw [hc]; rfl) ?_
      conv => whnf
      repeat (refine ⟨trivial, ?_⟩; conv => whnf)
      refine ⟨sz3 (a := .non) (b := .non) (c := .non), ?_⟩
      conv => whnf
      repeat (refine ⟨trivial, ?_⟩; conv => whnf)
      exact hK _ _ rfl ⟨_, 100, 200, rfl, by omega, by omega, rfl⟩
    · refine ix_lst (z := .tup [.int 200, .int 1000]) (by omega) (by show cell3[((j : Int) % 3).toNat]? = _; rw [hc]; rfl) ?_
      conv => whnf
      repeat (refine ⟨trivial, ?_⟩; conv => whnf)
      refine ⟨sz3 (a := .non) (b := .non) (c := .non), ?_⟩
      conv => whnf
      repeat (refine ⟨trivial, ?_⟩; conv => whnf)
      exact hK _ _ rfl ⟨_, 200, 1000, rfl, by omega, by omega, rfl⟩
  · rintro zs _ o rfl
    obtain ⟨sp, rfl, es, sb⟩ := outs_spans (fun y oz h => h) o
    have spl : sp.length = ts.length := by rw [← es, List.length_map]
    have tnd : ts.Nodup := pm.nodup_iff.mpr C.ndn
    have td : ts.Pairwise (fun a b => b < a) := (pw.and tnd).imp fun h => by
      have h1 := h.1
      have h2 := h.2
      omega
    have T : TspOk sp := ⟨by omega, by rw [← es, List.pairwise_map] at td; exact td, sb⟩
    exact chain_9 rfl hA (fun len line l1 l16 ll ln lr => ⟨C.n17, C.n57, C.fo, C.so, C.ndl, C.ndn, C.ndr, C.ldl, C.ldr, C.od, C.sml, C.sm, l1, l16, ll, ln, lr⟩) T hd
set_option maxHeartbeats 0 in
theorem chain_6 {x22 : AV} (hA : ChainEnd A) (C : Ch0 n first second nd ld od []) (hd : Dr d) :
    law_chain_0_6 A [.own d, .dat (.int (n : Int)), .dat (.lst (nd.map D.int)), .own (.lst (ld.map D.int)), .dat (.lst (oD od)), .own (.lst ((od.map (trow1 first nd ld)).map rowD)), .un, .un, .un, .un, .un, .un, .un, .dat (.str first), .dat (.str second), .un, .un, .un, .un, .un, .un, .un, x22, .un] := by
  have n57 := C.n57
  have ndl := C.ndl
  have odl : od.length = n := by rw [C.od.length_eq, List.length_range]
  conv => whnf
  repeat (refine ⟨trivial, ?_⟩; conv => whnf)
  refine ⟨by omega, by omega, ?_⟩
  have er : rangeD 0 (Int.toNat (n : Int)) = oD (List.range n) := by rw [Int.toNat_natCast, range_oD]
  conv => whnf
  repeat (refine ⟨trivial, ?_⟩; conv => whnf)
  rw [er]
  refine use_some 0 (oD (List.range n)) 0 rfl hd rfl (by unfold oD; rw [List.length_map, List.length_range]; omega) (by omega) (fun x hx => ?_) fun l' d2 sl hd2 => ?_
  · obtain ⟨i, _, rfl⟩ := List.mem_map.mp hx
    exact .int 0 _
  · obtain ⟨us, rfl, usl⟩ := sub_map sl
    have usm : ∀ a ∈ cutL us none (some 8), a < n := fun a h => List.mem_range.mp (usl.subset (List.mem_of_mem_drop (List.mem_of_mem_take h)))
    have usn : us.length ≤ n := by have := usl.length_le; rw [List.length_range] at this; exact this
    have cl : (cutL us none (some 8)).length ≤ n := by

      unfold cutL
      rw [List.length_take, List.length_drop]
      omega
    conv => whnf
    repeat (refine ⟨trivial, ?_⟩; conv => whnf)
    rw [cutD_map]
    intro _
    refine ⟨noOwn_one (x := .un) rfl (fun e z => by cases z), sz_le (by rw [List.length_map]; omega), ?_⟩
    refine lc_ind (Ev := fun env => env = [.own d2, .dat (.int (n : Int)), .dat (.lst (nd.map D.int)), .own (.lst (ld.map D.int)), .dat (.lst (oD od)), .own (.lst ((od.map (trow1 first nd ld)).map rowD)), .un, .un, .un, .un, .un, .un, .un, .dat (.str first), .dat (.str second), .un, .un, .un, .un, .un, .un, .un, x22, .un])
      (Stp := fun y oz => ∃ i : Nat, y = D.int (i : Int) ∧ oz = some (rowD (trow2 second nd i))) _ ?_ _ _ rfl ?_
    · rintro y hy _ K rfl hK
      obtain ⟨i, hi, rfl⟩ := List.mem_map.mp hy
      have hi := usm i hi
      conv => whnf
      repeat (refine ⟨trivial, ?_⟩; conv => whnf)
      rw [brP_true]
      conv => whnf
      repeat (refine ⟨trivial, ?_⟩; conv => whnf)
      refine ix_lst (by omega) (get_nod (nd := nd) (a := i) (by omega)) ?_
      conv => whnf
      repeat (refine ⟨trivial, ?_⟩; conv => whnf)
      refine ⟨sz1, ?_⟩
      conv => whnf
      repeat (refine ⟨trivial, ?_⟩; conv => whnf)
      refine ⟨sz2, ?_⟩
      conv => whnf
      repeat (refine ⟨trivial, ?_⟩; conv => whnf)
      exact hK _ _ rfl ⟨i, rfl, rfl⟩
    · rintro zs _ o rfl
      have ez := o.map (f := fun i : Nat => rowD (trow2 second nd i)) fun i oz ⟨j, e1, e2⟩ => by
        rw [oD_inj e1]
        exact e2
      have ez2 : (od.map (trow1 first nd ld)).map rowD ++ zs = (tRows first second nd ld od (cutL us none (some 8))).map rowD := by
        unfold tRows
        rw [ez, List.map_append, List.map_map (g := rowD) (f := trow2 second nd)]
        rfl
      have zl : zs.length = (cutL us none (some 8)).length := by rw [ez, List.length_map]
      conv => whnf
      repeat (refine ⟨trivial, ?_⟩; conv => whnf)
      refine ⟨sz_le (by rw [List.length_map, List.length_map]; omega), ?_⟩
      rw [ez2]
      conv => whnf
      repeat (refine ⟨trivial, ?_⟩; conv => whnf)
      refine ⟨sz2, ?_⟩
      conv => whnf
      repeat (refine ⟨trivial, ?_⟩; conv => whnf)
      refine ⟨sz2, ?_⟩
      conv => whnf
      repeat (refine ⟨trivial, ?_⟩; conv => whnf)
      refine ⟨sz2, ?_⟩
      conv => whnf
      repeat (refine ⟨trivial, ?_⟩; conv => whnf)
      refine ⟨sz3, ?_⟩
      exact chain_8 hA ⟨C.n17, C.n57, C.fo, C.so, C.ndl, C.ndn, C.ndr, C.ldl, C.ldr, C.od, cl, usm⟩ hd2
set_option maxHeartbeats 0 in
theorem chain_5 {x22 : AV} (hA : ChainEnd A) (C : Ch0 n first second nd ld od []) (hd : Dr d) :
    law_chain_0_5 A [.own d, .dat (.int (n : Int)), .dat (.lst (nd.map D.int)), .own (.lst (ld.map D.int)), .own (.lst (oD od)), .un, .un, .un, .un, .un, .un, .un, .un, .dat (.str first), .dat (.str second), .un, .un, .un, .un, .un, .un, .un, x22, .un] := by
  have n57 := C.n57
  have ndl := C.ndl
  have odl : od.length = n := by rw [C.od.length_eq, List.length_range]
  conv => whnf
  repeat (refine ⟨trivial, ?_⟩; conv => whnf)
  intro _
  refine ⟨noOwn_one (x := .un) rfl (fun e z => by cases z), sz_le (by unfold oD; rw [List.length_map]; omega), ?_⟩
  refine lc_ind (Ev := fun env => env = [.own d, .dat (.int (n : Int)), .dat (.lst (nd.map D.int)), .own (.lst (ld.map D.int)), .dat (.lst (oD od)), .un, .un, .un, .un, .un, .un, .un, .un, .dat (.str first), .dat (.str second), .un, .un, .un, .un, .un, .un, .un, x22, .un])
    (Stp := fun y oz => ∃ i : Nat, y = D.int (i : Int) ∧ oz = some (rowD (trow1 first nd ld i))) _ ?_ _ _ rfl ?_
  · rintro y hy _ K rfl hK
    obtain ⟨i, hi, rfl⟩ := List.mem_map.mp hy
    have hi : i < n := List.mem_range.mp (C.od.mem_iff.mp hi)
    have nx := nxt_lt C.ldl C.ldr hi
    conv => whnf
    repeat (refine ⟨trivial, ?_⟩; conv => whnf)
    rw [brP_true]
    conv => whnf
    repeat (refine ⟨trivial, ?_⟩; conv => whnf)
    refine ix_lst (by omega) (get_nod (nd := nd) (a := i) (by omega)) ?_
    conv => whnf
    repeat (refine ⟨trivial, ?_⟩; conv => whnf)
    refine ix_lst (by omega) (z := .int (nxt ld i : Nat)) ((get_nod (nd := ld) (a := i) (by rw [C.ldl]; exact hi)).trans (by rw [← nx.2])) ?_
    conv => whnf
    repeat (refine ⟨trivial, ?_⟩; conv => whnf)
    refine ix_lst (by omega) (get_nod (nd := nd) (a := nxt ld i) (by rw [ndl]; exact nx.1)) ?_
    conv => whnf
    repeat (refine ⟨trivial, ?_⟩; conv => whnf)
    refine ⟨sz2, ?_⟩
    conv => whnf
    repeat (refine ⟨trivial, ?_⟩; conv => whnf)
    refine ⟨sz2, ?_⟩
    conv => whnf
    repeat (refine ⟨trivial, ?_⟩; conv => whnf)
    exact hK _ _ rfl ⟨i, rfl, rfl⟩
  · rintro zs _ o rfl
    have ez := o.map (f := fun i : Nat => rowD (trow1 first nd ld i)) fun i oz ⟨j, e1, e2⟩ => by
      rw [oD_inj e1]
      exact e2
    have ez2 : zs = (od.map (trow1 first nd ld)).map rowD := by
      rw [ez, List.map_map]
      rfl
    rw [ez2]
    exact chain_6 hA C hd
end
set_option maxHeartbeats 0 in
theorem p_law_chain : BodyOk 1 24 B_law_chain a_law_chain S_law_chain := by
  rintro _ R ⟨d, rfl, hd, k⟩
  refine ⟨rfl, own0 (ds := []) rfl, ?_⟩
  have hA : ChainEnd { nx := fun env => R (.dat .non) (outs [.own d] env), rt := fun r env => (∀ i, r ≠ .at i) ∧ R r (outs [.own d] env) } := fun b t line paths d' es bo to v pn pl p tne sl wl hd' => ⟨nat_ _, k b t line paths d' bo to v pn pl p tne sl wl hd'⟩
  generalize ({ nx := fun env => R (.dat .non) (outs [.own d] env), rt := fun r env => (∀ i, r ≠ .at i) ∧ R r (outs [.own d] env) } : AEnds) = A at hA ⊢
  conv => whnf
  repeat (refine ⟨trivial, ?_⟩; conv => whnf)
  refine use_draw 0 rfl hd (by omega) (by omega) fun r d1 a b hd1 => ?_
  obtain ⟨n, hn⟩ : ∃ n : Nat, 17 + r = (n : Int) := ⟨(17 + r).toNat, by omega⟩
  conv => whnf
  repeat (refine ⟨trivial, ?_⟩; conv => whnf)
  rw [hn]
  refine use_names 0 rfl hd1 (by omega) (by omega) fun ns d2 nl nok hd2 => ?_
  obtain ⟨first, second, rfl⟩ : ∃ x y, ns = [x, y] := by
    match ns, nl with
    | [x, y], _ => exact ⟨x, y, rfl⟩
  conv => whnf
  repeat (refine ⟨trivial, ?_⟩; conv => whnf)
  refine ⟨rfl, ?_⟩
  conv => whnf
  repeat (refine ⟨trivial, ?_⟩; conv => whnf)
  refine ⟨rfl, ?_⟩
  conv => whnf
  repeat (refine ⟨trivial, ?_⟩; conv => whnf)
  refine use_pool 0 rfl hd2 (by omega) (by omega) fun nd d3 ndn ndl ndr hd3 => ?_
  have ndl : nd.length = n := by omega
  conv => whnf
  repeat (refine ⟨trivial, ?_⟩; conv => whnf)
  intro _
  refine ⟨noOwn_one (x := .un) rfl (fun e z => by cases z), sz_le (by rw [List.length_map]; omega), ?_⟩
  refine lc_ind (Ev := fun env => ∃ d3, Dr d3 ∧ env = [.own d3, .dat (.int (n : Int)), .dat (.lst (nd.map D.int)), .un, .un, .un, .un, .un, .un, .un, .un, .un, .un, .dat (.str first), .dat (.str second), .un, .un, .un, .un, .un, .un, .un, .un, .un])
    (Stp := fun y oz => ∃ a : Int, (0 ≤ a ∧ a < n) ∧ oz = some (.int a)) _ ?_ _ _ ⟨d3, hd3, rfl⟩ ?_
  · rintro y hy _ K ⟨d4, hd4, rfl⟩ hK
    obtain ⟨u, hu, rfl⟩ := List.mem_map.mp hy
    conv => whnf
    repeat (refine ⟨trivial, ?_⟩; conv => whnf)
    rw [brP_true]
    conv => whnf
    repeat (refine ⟨trivial, ?_⟩; conv => whnf)
    refine use_draw 0 rfl hd4 (by omega) (by omega) fun r4 d5 a4 b4 hd5 => ?_
    conv => whnf
    repeat (refine ⟨trivial, ?_⟩; conv => whnf)
    exact hK _ _ ⟨d5, hd5, rfl⟩ ⟨r4, ⟨a4, b4⟩, rfl⟩
  · rintro zs _ o ⟨d4, hd4, rfl⟩
    obtain ⟨ld, rfl, ldr, ldl⟩ := outs_ex (f := D.int) (P := fun a : Int => 0 ≤ a ∧ a < n) (fun y oz h => h) o
    rw [List.length_map] at ldl
    conv => whnf
    repeat (refine ⟨trivial, ?_⟩; conv => whnf)
    refine ⟨by omega, by omega, ?_⟩
    have er : rangeD 0 (Int.toNat (n : Int)) = oD (List.range n) := by rw [Int.toNat_natCast, range_oD]
    conv => whnf
    repeat (refine ⟨trivial, ?_⟩; conv => whnf)
    rw [er]
    refine use_mixed 0 (oD (List.range n)) rfl hd4 rfl (by unfold oD; rw [List.length_map, List.length_range]; omega) fun l2 d5 pm hd5 => ?_
    obtain ⟨od, rfl, odp⟩ := perm_ex pm (List.range n) rfl
    exact chain_5 hA ⟨by omega, by omega, nok _ (by simp), nok _ (by simp), ndl, ndn, ndr, by omega, ldr, odp, by simp, fun a h => by cases h⟩ hd5
end AL
namespace AL
open PySem L2
def top (i : Nat) : Stmt := PySem.Challenge.pw_planassize_k37_is_fold_of_images.main.body.getD i (.Pass ⟨0, 0, 0, 0⟩)
abbrev st_law_begin : Stmt := (top 11)
abbrev st_law_draw : Stmt := (top 12)
abbrev st_law_downward : Stmt := (top 25)
abbrev st_law_mixed : Stmt := (top 15)
abbrev st_law_pick : Stmt := (top 13)
abbrev st_law_names : Stmt := (top 16)
abbrev st_law_pool : Stmt := (top 19)
abbrev st_law_some : Stmt := (top 14)
abbrev st_law_chain : Stmt := (top 28)
abbrev st_law_bounds : Stmt := (top 21)
abbrev st_law_laid : Stmt := (top 22)
abbrev st_law_lays : Stmt := (top 23)
abbrev st_law_variables : Stmt := (top 18)
abbrev st_law_names_of : Stmt := (top 29)
abbrev st_Body_tree : Stmt := (inClass (top 9) 1)
abbrev st_Body_init : Stmt := (inClass (top 9) 0)
abbrev st_law_object : Stmt := (top 24)
abbrev st_Body_span : Stmt := (inClass (top 9) 2)
abbrev st_is_within : Stmt := (top 4)
abbrev st_laid : Stmt := (top 5)
abbrev st_Body_variables : Stmt := (inClass (top 9) 4)
abbrev st_is_whole : Stmt := (top 2)
abbrev st_names_from : Stmt := (top 6)
abbrev st_is_fold : Stmt := (top 7)
abbrev st_law_told : Stmt := (top 30)
abbrev st_law_asks : Stmt := (top 31)
abbrev st_law_other : Stmt := (top 32)
abbrev st_law_images : Stmt := (top 33)
abbrev st_law_trees : Stmt := (top 34)
abbrev st_law_far : Stmt := (top 36)
abbrev st_law_unlike : Stmt := (top 17)
abbrev st_law_asked : Stmt := (top 20)
abbrev st_law_bent : Stmt := (top 26)
abbrev st_law_scene : Stmt := (top 27)
abbrev st_law_near : Stmt := (top 35)
abbrev st_law : Stmt := (top 37)
structure Adr where
  C_Body : Addr
  f_law_begin : Addr
  fd_law_begin : FuncData
  f_law_draw : Addr
  fd_law_draw : FuncData
  f_law_downward : Addr
  fd_law_downward : FuncData
  f_law_mixed : Addr
  fd_law_mixed : FuncData
  f_law_pick : Addr
  fd_law_pick : FuncData
  f_law_names : Addr
  fd_law_names : FuncData
  f_law_pool : Addr
  fd_law_pool : FuncData
  f_law_some : Addr
  fd_law_some : FuncData
  f_law_chain : Addr
  fd_law_chain : FuncData
  f_law_bounds : Addr
  fd_law_bounds : FuncData
  f_law_laid : Addr
  fd_law_laid : FuncData
  f_law_lays : Addr
  fd_law_lays : FuncData
  f_law_variables : Addr
  fd_law_variables : FuncData
  f_law_names_of : Addr
  fd_law_names_of : FuncData
  f_Body_tree : Addr
  fd_Body_tree : FuncData
  f_Body_init : Addr
  fd_Body_init : FuncData
  f_law_object : Addr
  fd_law_object : FuncData
  f_Body_span : Addr
  fd_Body_span : FuncData
  f_is_within : Addr
  fd_is_within : FuncData
  f_laid : Addr
  fd_laid : FuncData
  f_Body_variables : Addr
  fd_Body_variables : FuncData
  f_is_whole : Addr
  fd_is_whole : FuncData
  f_names_from : Addr
  fd_names_from : FuncData
  f_is_fold : Addr
  fd_is_fold : FuncData
  f_law_told : Addr
  fd_law_told : FuncData
  f_law_asks : Addr
  fd_law_asks : FuncData
  f_law_other : Addr
  fd_law_other : FuncData
  f_law_images : Addr
  fd_law_images : FuncData
  f_law_trees : Addr
  fd_law_trees : FuncData
  f_law_far : Addr
  fd_law_far : FuncData
  f_law_unlike : Addr
  fd_law_unlike : FuncData
  f_law_asked : Addr
  fd_law_asked : FuncData
  f_law_bent : Addr
  fd_law_bent : FuncData
  f_law_scene : Addr
  fd_law_scene : FuncData
  f_law_near : Addr
  fd_law_near : FuncData
  f_law : Addr
  fd_law : FuncData
structure Txt (K : Fg) (mg : Str → Option Value) (Z : Adr) : Prop where
  c_Body : ClsAt K mg "Body" "Body.__init__" st_Body_init ["self", "rows", "nots", "spans", "wide"] Z.C_Body Z.f_Body_init Z.fd_Body_init
  law_begin : DefAt K mg "_law_begin" st_law_begin ["script"] Z.f_law_begin Z.fd_law_begin
  law_draw : DefAt K mg "_law_draw" st_law_draw ["d", "many"] Z.f_law_draw Z.fd_law_draw
  law_downward : DefAt K mg "_law_downward" st_law_downward ["terms"] Z.f_law_downward Z.fd_law_downward
  law_mixed : DefAt K mg "_law_mixed" st_law_mixed ["d", "row"] Z.f_law_mixed Z.fd_law_mixed
  law_pick : DefAt K mg "_law_pick" st_law_pick ["d", "row"] Z.f_law_pick Z.fd_law_pick
  law_names : DefAt K mg "_law_names" st_law_names ["d", "many"] Z.f_law_names Z.fd_law_names
  law_pool : DefAt K mg "_law_pool" st_law_pool ["d", "many"] Z.f_law_pool Z.fd_law_pool
  law_some : DefAt K mg "_law_some" st_law_some ["d", "row", "least"] Z.f_law_some Z.fd_law_some
  law_chain : DefAt K mg "_law_chain" st_law_chain ["d"] Z.f_law_chain Z.fd_law_chain
  law_bounds : DefAt K mg "_law_bounds" st_law_bounds ["btree", "term"] Z.f_law_bounds Z.fd_law_bounds
  law_laid : DefAt K mg "_law_laid" st_law_laid ["terms", "names"] Z.f_law_laid Z.fd_law_laid
  law_lays : DefAt K mg "_law_lays" st_law_lays ["btree", "ttree", "names"] Z.f_law_lays Z.fd_law_lays
  law_variables : DefAt K mg "_law_variables" st_law_variables ["rows"] Z.f_law_variables Z.fd_law_variables
  law_names_of : DefAt K mg "_law_names_of" st_law_names_of ["btree", "images"] Z.f_law_names_of Z.fd_law_names_of
  Body_tree : MethAt K Z.C_Body "tree" "Body.tree" st_Body_tree ["self"] Z.f_Body_tree Z.fd_Body_tree
  law_object : DefAt K mg "_law_object" st_law_object ["btree"] Z.f_law_object Z.fd_law_object
  Body_span : MethAt K Z.C_Body "span" "Body.span" st_Body_span ["self", "term"] Z.f_Body_span Z.fd_Body_span
  is_within : DefAt K mg "is_within" st_is_within ["body", "term", "target", "image"] Z.f_is_within Z.fd_is_within
  laid : DefAt K mg "laid" st_laid ["terms", "names"] Z.f_laid Z.fd_laid
  Body_variables : MethAt K Z.C_Body "variables" "Body.variables" st_Body_variables ["self"] Z.f_Body_variables Z.fd_Body_variables
  is_whole : DefAt K mg "is_whole" st_is_whole ["value"] Z.f_is_whole Z.fd_is_whole
  names_from : DefAt K mg "names_from" st_names_from ["body", "images"] Z.f_names_from Z.fd_names_from
  is_fold : DefAt K mg "is_fold" st_is_fold ["body", "target", "images"] Z.f_is_fold Z.fd_is_fold
  law_told : DefAt K mg "_law_told" st_law_told ["btree", "ttree", "images", "due"] Z.f_law_told Z.fd_law_told
  law_asks : DefAt K mg "_law_asks" st_law_asks ["btree", "ttree", "images"] Z.f_law_asks Z.fd_law_asks
  law_other : DefAt K mg "_law_other" st_law_other ["d", "images", "standing"] Z.f_law_other Z.fd_law_other
  law_images : DefAt K mg "_law_images" st_law_images ["d", "btree", "ttree", "images"] Z.f_law_images Z.fd_law_images
  law_trees : DefAt K mg "_law_trees" st_law_trees ["d", "btree", "ttree", "images"] Z.f_law_trees Z.fd_law_trees
  law_far : DefAt K mg "_law_far" st_law_far ["d"] Z.f_law_far Z.fd_law_far
  law_unlike : DefAt K mg "_law_unlike" st_law_unlike ["row"] Z.f_law_unlike Z.fd_law_unlike
  law_asked : DefAt K mg "_law_asked" st_law_asked ["d", "tables", "many", "terms"] Z.f_law_asked Z.fd_law_asked
  law_bent : DefAt K mg "_law_bent" st_law_bent ["d", "trows", "twide", "marks"] Z.f_law_bent Z.fd_law_bent
  law_scene : DefAt K mg "_law_scene" st_law_scene ["d"] Z.f_law_scene Z.fd_law_scene
  law_near : DefAt K mg "_law_near" st_law_near ["d"] Z.f_law_near Z.fd_law_near
  law : DefAt K mg "law" st_law ["script"] Z.f_law Z.fd_law
  n_Body_nots : NoAttr K Z.C_Body "nots"
  n_Body_rows : NoAttr K Z.C_Body "rows"
  n_Body_spans : NoAttr K Z.C_Body "spans"
  n_Body_wide : NoAttr K Z.C_Body "wide"
  no_all : mg "all" = none
  no_bool : mg "bool" = none
  no_int : mg "int" = none
  no_isinstance : mg "isinstance" = none
  no_len : mg "len" = none
  no_list : mg "list" = none
  no_range : mg "range" = none
  no_sorted : mg "sorted" = none
  no_tuple : mg "tuple" = none
  no_zip : mg "zip" = none
section
variable {P : Program} {w : World} {K : Fg} {mg : Str → Option Value} {base : Heap} {Z : Adr}
abbrev N_law_begin : List Str := ["script", "cells", "cell"]
theorem sc_law_begin : FnScope N_law_begin ["script"] (defScope st_law_begin) := ⟨rfl, rfl, rfl, by decide +kernel, rfl, by decide +kernel, by decide +kernel⟩
theorem ok_law_begin (T : Txt K mg Z) : FnOk P w K mg base CX0 1 Z.f_law_begin Z.fd_law_begin ["script"] (toSp K S_law_begin) :=
  fn_of (N := N_law_begin) (B := B_law_begin) (a := a_law_begin) (k := 0) T.law_begin.fn sc_law_begin (by decide) (fun cdv A outer s H E hr => have sc := sc_law_begin; by
    unfold a_law_begin law_begin_0_0 law_begin_0_1 law_begin_0_2 law_begin_1_0
    exact (ass_cons (as_set (i := 1) sc.nd rfl (Or.inl rfl) (ae_lst aa_nil))
      (ass_cons (as_for .never rfl (ai_seq (ae_sl (av 0) ao_none (ao_some ae_int))) (ag_name 2 sc.nd rfl (Or.inl rfl)) (ass_one (as_expr (ae_mut 1 PySem.F.slot_list_append PySem.F.type_list_append mt_append (ms_append _) (aa_consD (ae_if (at_ge (av 2) ae_int) (ae_mul ae_int (av 2)) (ae_add (ae_mul (ae_neg ae_int) (av 2)) ae_int)) aa_nil)))))
      (ass_one (as_ret (ae_disp (aps_cons ae_str (av 1) (aps_cons ae_str ae_int (aps_cons ae_str ae_int (aps_cons ae_str ae_int (aps_cons ae_str ae_int aps_nil))))))))))) p_law_begin
abbrev N_law_draw : List Str := ["d", "many", "told", "cell"]
theorem sc_law_draw : FnScope N_law_draw ["d", "many"] (defScope st_law_draw) := ⟨rfl, rfl, rfl, by decide +kernel, rfl, by decide +kernel, by decide +kernel⟩
theorem ok_law_draw (T : Txt K mg Z) : FnOk P w K mg base CX0 1 Z.f_law_draw Z.fd_law_draw ["d", "many"] (toSp K S_law_draw) :=
  fn_of (N := N_law_draw) (B := B_law_draw) (a := a_law_draw) (k := 0) T.law_draw.fn sc_law_draw (by decide) (fun cdv A outer s H E hr => have sc := sc_law_draw; by
    unfold a_law_draw law_draw_0_0 law_draw_0_1 law_draw_0_2 law_draw_0_3 law_draw_0_4 law_draw_0_5 law_draw_2_0 law_draw_2_1 law_draw_2_2 law_draw_2_3 law_draw_3_0 law_draw_3_1 law_draw_1_0 law_draw_1_1 law_draw_1_2
    exact (ass_cons (as_asg (ae_add (ae_ix hr (av 0) ae_str) ae_int) (ag_sub hr (av 0) ae_str))
      (ass_cons (as_if (at_gt (ae_ix hr (av 0) ae_str) ae_int) (ass_cons (as_set (i := 2) sc.nd rfl (Or.inl rfl) (ae_mod (ae_rdT call_int1 (rs_int _) rfl T.no_int (by decide +kernel) (ae_ix hr (av 0) ae_str)) (av 1)))
      (ass_cons (as_asg (ae_div (ae_ix hr (av 0) ae_str) (av 1)) (ag_sub hr (av 0) ae_str))
      (ass_one (as_ret (av 2))))) ass_nil)
      (ass_cons (as_if (at_lt (ae_ix hr (av 0) ae_str) (ae_rdB call_len (rs_len _) rfl T.no_len (by decide +kernel) (ae_ix hr (av 0) ae_str))) (ass_cons (as_set (i := 3) sc.nd rfl (Or.inl rfl) (ae_ix hr (ae_ix hr (av 0) ae_str) (ae_ix hr (av 0) ae_str)))
      (ass_cons (as_asg (ae_add (ae_ix hr (av 0) ae_str) ae_int) (ag_sub hr (av 0) ae_str))
      (ass_cons (as_if (at_ge (av 3) (ae_pow ae_int ae_int)) (ass_cons (as_asg (ae_div (ae_div (av 3) ae_int) (av 1)) (ag_sub hr (av 0) ae_str))
      (ass_one (as_ret (ae_mod (ae_rdT call_int1 (rs_int _) rfl T.no_int (by decide +kernel) (ae_div (av 3) ae_int)) (av 1))))) ass_nil)
      (ass_one (as_asg (ae_mod (ae_rdT call_int1 (rs_int _) rfl T.no_int (by decide +kernel) (ae_add (ae_add (ae_mul (ae_ix hr (av 0) ae_str) ae_int) (av 3)) ae_int)) ae_int) (ag_sub hr (av 0) ae_str)))))) ass_nil)
      (ass_cons (as_set (i := 2) sc.nd rfl (Or.inl rfl) (ae_mod (ae_rdT call_int1 (rs_int _) rfl T.no_int (by decide +kernel) (ae_add (ae_mul (ae_add (ae_ix hr (av 0) ae_str) (ae_mul (ae_ix hr (av 0) ae_str) ae_int)) ae_int) ae_int)) ae_int))
      (ass_cons (as_set (i := 2) sc.nd rfl (Or.inl rfl) (ae_mod (ae_rdT call_int1 (rs_int _) rfl T.no_int (by decide +kernel) (ae_add (ae_div (av 2) ae_int) (ae_mul (av 2) ae_int))) ae_int))
      (ass_one (as_ret (ae_mod (av 2) (av 1)))))))))) p_law_draw
abbrev N_law_downward : List Str := ["terms", "number", "term"]
theorem sc_law_downward : FnScope N_law_downward ["terms"] (defScope st_law_downward) := ⟨rfl, rfl, rfl, by decide +kernel, rfl, by decide +kernel, by decide +kernel⟩
theorem ok_law_downward (T : Txt K mg Z) : FnOk P w K mg base CX0 1 Z.f_law_downward Z.fd_law_downward ["terms"] (toSp K S_law_downward) :=
  fn_of (N := N_law_downward) (B := B_law_downward) (a := a_law_downward) (k := 0) T.law_downward.fn sc_law_downward (by decide) (fun cdv A outer s H E hr => have sc := sc_law_downward; by
    unfold a_law_downward law_downward_0_0
    exact (ass_one (as_ret (ae_lc (own := [("number", 1)]) rfl sc.nd (ai_seq (ae_rdB cr_sortedI (rs_sorted _) rfl T.no_sorted (by decide +kernel) (ae_lc (own := [("term", 2)]) rfl sc.nd (ai_seq (av 0)) (blkOk_by (own := [("term", 2)]) (N := N_law_downward) (sc := (defScope st_law_downward)) (by decide +kernel)) gloc_name (fun _ _ _ _ _ => (ag_name 2 sc.nd rfl (Or.inl rfl))) (fun _ _ _ _ _ => ats_nil) (fun _ _ _ _ _ => (ae_neg (av 2)))))) (blkOk_by (own := [("number", 1)]) (N := N_law_downward) (sc := (defScope st_law_downward)) (by decide +kernel)) gloc_name (fun _ _ _ _ _ => (ag_name 1 sc.nd rfl (Or.inl rfl))) (fun _ _ _ _ _ => ats_nil) (fun _ _ _ _ _ => (ae_neg (av 1))))))) p_law_downward
abbrev N_law_mixed : List Str := ["d", "row", "left", "told", "turn"]
theorem sc_law_mixed : FnScope N_law_mixed ["d", "row"] (defScope st_law_mixed) := ⟨rfl, rfl, rfl, by decide +kernel, rfl, by decide +kernel, by decide +kernel⟩
theorem ok_law_mixed (T : Txt K mg Z) : FnOk P w K mg base CX0 2 Z.f_law_mixed Z.fd_law_mixed ["d", "row"] (toSp K S_law_mixed) :=
  fn_of (N := N_law_mixed) (B := B_law_mixed) (a := a_law_mixed) (k := 1) T.law_mixed.fn sc_law_mixed (by decide) (fun cdv A outer s H E hr => have sc := sc_law_mixed; by
    unfold a_law_mixed law_mixed_0_0 law_mixed_0_1 law_mixed_0_2 law_mixed_0_3 law_mixed_1_0
    exact (ass_cons (as_set (i := 2) sc.nd rfl (Or.inl rfl) (ae_rdT call_list_of (rs_list _) rfl T.no_list (by decide +kernel) (av 1)))
      (ass_cons (as_set (i := 3) sc.nd rfl (Or.inl rfl) (ae_lst aa_nil))
      (ass_cons (as_for .never rfl (ai_range1 rfl T.no_range (aa_consD (ae_rdB call_len (rs_len _) rfl T.no_len (by decide +kernel) (av 1)) aa_nil)) (ag_name 4 sc.nd rfl (Or.inl rfl)) (ass_one (as_expr (ae_mut 3 PySem.F.slot_list_append PySem.F.type_list_append mt_append (ms_append _) (aa_consD (ae_mut 2 PySem.F.slot_list_pop PySem.F.type_list_pop mt_popAt (ms_popAt _) (aa_consD (ae_fn (ok_law_draw T) (hr.mono (by decide)) rfl T.law_draw.mg T.law_draw.kp T.law_draw.bi (aa_cons (av 0) (aa_consD (ae_rdB call_len (rs_len _) rfl T.no_len (by decide +kernel) (av 2)) aa_nil))) aa_nil)) aa_nil)))))
      (ass_one (as_ret (av 3))))))) p_law_mixed
abbrev N_law_pick : List Str := ["d", "row"]
theorem sc_law_pick : FnScope N_law_pick ["d", "row"] (defScope st_law_pick) := ⟨rfl, rfl, rfl, by decide +kernel, rfl, by decide +kernel, by decide +kernel⟩
theorem ok_law_pick (T : Txt K mg Z) : FnOk P w K mg base CX0 2 Z.f_law_pick Z.fd_law_pick ["d", "row"] (toSp K S_law_pick) :=
  fn_of (N := N_law_pick) (B := B_law_pick) (a := a_law_pick) (k := 1) T.law_pick.fn sc_law_pick (by decide) (fun cdv A outer s H E hr => have sc := sc_law_pick; by
    unfold a_law_pick law_pick_0_0
    exact (ass_one (as_ret (ae_ix hr (av 1) (ae_fn (ok_law_draw T) (hr.mono (by decide)) rfl T.law_draw.mg T.law_draw.kp T.law_draw.bi (aa_cons (av 0) (aa_consD (ae_rdB call_len (rs_len _) rfl T.no_len (by decide +kernel) (av 1)) aa_nil))))))) p_law_pick
abbrev N_law_names : List Str := ["d", "many", "letters", "told", "place", "name", "turn"]
theorem sc_law_names : FnScope N_law_names ["d", "many"] (defScope st_law_names) := ⟨rfl, rfl, rfl, by decide +kernel, rfl, by decide +kernel, by decide +kernel⟩
theorem ok_law_names (T : Txt K mg Z) : FnOk P w K mg base CX0 3 Z.f_law_names Z.fd_law_names ["d", "many"] (toSp K S_law_names) :=
  fn_of (N := N_law_names) (B := B_law_names) (a := a_law_names) (k := 2) T.law_names.fn sc_law_names (by decide) (fun cdv A outer s H E hr => have sc := sc_law_names; by
    unfold a_law_names law_names_0_0 law_names_0_1 law_names_0_2 law_names_0_3 law_names_1_0 law_names_1_1
    exact (ass_cons (as_set (i := 2) sc.nd rfl (Or.inr rfl) ae_str)
      (ass_cons (as_set (i := 3) sc.nd rfl (Or.inl rfl) (ae_lst aa_nil))
      (ass_cons (as_for .never rfl (ai_range1 rfl T.no_range (aa_consD (av 1) aa_nil)) (ag_name 4 sc.nd rfl (Or.inl rfl)) (ass_cons (as_set (i := 5) sc.nd rfl (Or.inl rfl) (ae_join (ae_lc (own := [("turn", 6)]) rfl sc.nd (ai_range1 rfl T.no_range (aa_consD (ae_fn (ok_law_draw T) (hr.mono (by decide)) rfl T.law_draw.mg T.law_draw.kp T.law_draw.bi (aa_cons (av 0) (aa_consD ae_int aa_nil))) aa_nil)) (blkOk_by (own := [("turn", 6)]) (N := N_law_names) (sc := (defScope st_law_names)) (by decide +kernel)) gloc_name (fun _ _ _ _ _ => (ag_name 6 sc.nd rfl (Or.inl rfl))) (fun _ _ _ _ _ => ats_nil) (fun _ _ _ _ _ => (ae_fn (ok_law_pick T) (hr.mono (by decide)) rfl T.law_pick.mg T.law_pick.kp T.law_pick.bi (aa_cons (av 0) (aa_consD (av 2) aa_nil)))))))
      (ass_one (as_expr (ae_mut 3 PySem.F.slot_list_append PySem.F.type_list_append mt_append (ms_append _) (aa_consD (ae_add (ae_add (av 5) ae_str) (ae_ix hr (av 2) (ae_mod (av 4) ae_int))) aa_nil))))))
      (ass_one (as_ret (av 3))))))) p_law_names
abbrev N_law_pool : List Str := ["d", "many", "low", "step", "place"]
theorem sc_law_pool : FnScope N_law_pool ["d", "many"] (defScope st_law_pool) := ⟨rfl, rfl, rfl, by decide +kernel, rfl, by decide +kernel, by decide +kernel⟩
theorem ok_law_pool (T : Txt K mg Z) : FnOk P w K mg base CX0 3 Z.f_law_pool Z.fd_law_pool ["d", "many"] (toSp K S_law_pool) :=
  fn_of (N := N_law_pool) (B := B_law_pool) (a := a_law_pool) (k := 2) T.law_pool.fn sc_law_pool (by decide) (fun cdv A outer s H E hr => have sc := sc_law_pool; by
    unfold a_law_pool law_pool_0_0 law_pool_0_1 law_pool_0_2 law_pool_1_0
    exact (ass_cons (as_parN rfl (agn_cons 2 sc.nd rfl (Or.inr rfl) (agn_cons 3 sc.nd rfl (Or.inr rfl) agn_nil)) (an_cons (ae_add ae_int (ae_fn (ok_law_draw T) (hr.mono (by decide)) rfl T.law_draw.mg T.law_draw.kp T.law_draw.bi (aa_cons (av 0) (aa_consD ae_int aa_nil)))) (an_cons (ae_add ae_int (ae_fn (ok_law_draw T) (hr.mono (by decide)) rfl T.law_draw.mg T.law_draw.kp T.law_draw.bi (aa_cons (av 0) (aa_consD ae_int aa_nil)))) an_nil)))
      (ass_cons (as_if (at_eq hr (ae_fn (ok_law_draw T) (hr.mono (by decide)) rfl T.law_draw.mg T.law_draw.kp T.law_draw.bi (aa_cons (av 0) (aa_consD ae_int aa_nil))) ae_int) (ass_one (as_set (i := 3) sc.nd rfl (Or.inr rfl) ae_int)) ass_nil)
      (ass_one (as_ret (ae_fn (ok_law_mixed T) (hr.mono (by decide)) rfl T.law_mixed.mg T.law_mixed.kp T.law_mixed.bi (aa_cons (av 0) (aa_consD (ae_lc (own := [("place", 4)]) rfl sc.nd (ai_range1 rfl T.no_range (aa_consD (av 1) aa_nil)) (blkOk_by (own := [("place", 4)]) (N := N_law_pool) (sc := (defScope st_law_pool)) (by decide +kernel)) gloc_name (fun _ _ _ _ _ => (ag_name 4 sc.nd rfl (Or.inl rfl))) (fun _ _ _ _ _ => ats_nil) (fun _ _ _ _ _ => (ae_sub (ae_neg (av 2)) (ae_mul (av 3) (av 4))))) aa_nil)))))))) p_law_pool
abbrev N_law_some : List Str := ["d", "row", "least", "told", "thing"]
theorem sc_law_some : FnScope N_law_some ["d", "row", "least"] (defScope st_law_some) := ⟨rfl, rfl, rfl, by decide +kernel, rfl, by decide +kernel, by decide +kernel⟩
theorem ok_law_some (T : Txt K mg Z) : FnOk P w K mg base CX0 2 Z.f_law_some Z.fd_law_some ["d", "row", "least"] (toSp K S_law_some) :=
  fn_of (N := N_law_some) (B := B_law_some) (a := a_law_some) (k := 1) T.law_some.fn sc_law_some (by decide) (fun cdv A outer s H E hr => have sc := sc_law_some; by
    unfold a_law_some law_some_0_0 law_some_0_1 law_some_0_2 law_some_1_0 law_some_2_0
    exact (ass_cons (as_set (i := 3) sc.nd rfl (Or.inr rfl) (ae_lc (own := [("thing", 4)]) rfl sc.nd (ai_seq (av 1)) (blkOk_by (own := [("thing", 4)]) (N := N_law_some) (sc := (defScope st_law_some)) (by decide +kernel)) gloc_name (fun _ _ _ _ _ => (ag_name 4 sc.nd rfl (Or.inl rfl))) (fun _ _ _ _ _ => (ats_one (at_eq hr (ae_fn (ok_law_draw T) (hr.mono (by decide)) rfl T.law_draw.mg T.law_draw.kp T.law_draw.bi (aa_cons (av 0) (aa_consD ae_int aa_nil))) ae_int))) (fun _ _ _ _ _ => (av 4))))
      (ass_cons (as_for .never rfl (ai_seq (av 1)) (ag_name 4 sc.nd rfl (Or.inl rfl)) (ass_one (as_if (AW.at' (aw_and (at_lt (ae_rdB call_len (rs_len _) rfl T.no_len (by decide +kernel) (av 3)) (av 2)) (aw_and1 (at_notIn hr (av 4) (av 3))))) (ass_one (as_expr (ae_mut 3 PySem.F.slot_list_append PySem.F.type_list_append mt_append (ms_append _) (aa_consD (av 4) aa_nil)))) ass_nil)))
      (ass_one (as_ret (ae_lc (own := [("thing", 4)]) rfl sc.nd (ai_seq (av 1)) (blkOk_by (own := [("thing", 4)]) (N := N_law_some) (sc := (defScope st_law_some)) (by decide +kernel)) gloc_name (fun _ _ _ _ _ => (ag_name 4 sc.nd rfl (Or.inl rfl))) (fun _ _ _ _ _ => (ats_one (at_in hr (av 4) (av 3)))) (fun _ _ _ _ _ => (av 4)))))))) p_law_some
abbrev N_law_chain : List Str := ["d", "many", "nodes", "leads", "order", "trows", "cells", "tspans", "length", "line", "rows", "paths", "start", "first", "second", "at", "path", "step", "wide", "twide", "spans", "nots", "node", "term"]
theorem sc_law_chain : FnScope N_law_chain ["d"] (defScope st_law_chain) := ⟨rfl, rfl, rfl, by decide +kernel, rfl, by decide +kernel, by decide +kernel⟩
theorem ok_law_chain (T : Txt K mg Z) : FnOk P w K mg base CX0 4 Z.f_law_chain Z.fd_law_chain ["d"] (toSp K S_law_chain) :=
  fn_of (N := N_law_chain) (B := B_law_chain) (a := a_law_chain) (k := 3) T.law_chain.fn sc_law_chain (by decide) (fun cdv A outer s H E hr => have sc := sc_law_chain; by
    unfold a_law_chain law_chain_0_0 law_chain_0_1 law_chain_0_2 law_chain_0_3 law_chain_0_4 law_chain_0_5 law_chain_0_6 law_chain_0_7 law_chain_0_8 law_chain_0_9 law_chain_0_10 law_chain_0_11 law_chain_0_12 law_chain_0_13 law_chain_0_14 law_chain_0_15 law_chain_0_16 law_chain_0_17 law_chain_0_18 law_chain_5_0 law_chain_4_0 law_chain_3_0 law_chain_3_1 law_chain_1_0 law_chain_1_1 law_chain_1_2 law_chain_1_3 law_chain_2_0 law_chain_2_1
    exact (ass_cons (as_set (i := 1) sc.nd rfl (Or.inr rfl) (ae_add ae_int (ae_fn (ok_law_draw T) (hr.mono (by decide)) rfl T.law_draw.mg T.law_draw.kp T.law_draw.bi (aa_cons (av 0) (aa_consD ae_int aa_nil)))))
      (ass_cons (as_asg (ae_fn (ok_law_names T) (hr.mono (by decide)) rfl T.law_names.mg T.law_names.kp T.law_names.bi (aa_cons (av 0) (aa_consD ae_int aa_nil))) (ag_tup rfl (ags_cons (ag_name 13 sc.nd rfl (Or.inr rfl)) (ags_cons (ag_name 14 sc.nd rfl (Or.inr rfl)) ags_nil))))
      (ass_cons (as_set (i := 2) sc.nd rfl (Or.inr rfl) (ae_fn (ok_law_pool T) (hr.mono (by decide)) rfl T.law_pool.mg T.law_pool.kp T.law_pool.bi (aa_cons (av 0) (aa_consD (av 1) aa_nil))))
      (ass_cons (as_set (i := 3) sc.nd rfl (Or.inr rfl) (ae_lc (own := [("node", 22)]) rfl sc.nd (ai_seq (av 2)) (blkOk_by (own := [("node", 22)]) (N := N_law_chain) (sc := (defScope st_law_chain)) (by decide +kernel)) gloc_name (fun _ _ _ _ _ => (ag_name 22 sc.nd rfl (Or.inl rfl))) (fun _ _ _ _ _ => ats_nil) (fun _ _ _ _ _ => (ae_fn (ok_law_draw T) (hr.mono (by decide)) rfl T.law_draw.mg T.law_draw.kp T.law_draw.bi (aa_cons (av 0) (aa_consD (av 1) aa_nil))))))
      (ass_cons (as_set (i := 4) sc.nd rfl (Or.inl rfl) (ae_fn (ok_law_mixed T) (hr.mono (by decide)) rfl T.law_mixed.mg T.law_mixed.kp T.law_mixed.bi (aa_cons (av 0) (aa_consD (ae_listRg rfl (av 1) rfl T.no_list rfl T.no_range) aa_nil))))
      (ass_cons (as_setLc (i := 5) (own := [("at", 15)]) rfl sc.nd rfl rfl (sw_true rfl rfl rfl (by decide +kernel)) (ai_seq (av 4)) (blkOk_by (own := [("at", 15)]) (N := N_law_chain) (sc := (defScope st_law_chain)) (by decide +kernel)) gloc_name (fun _ _ _ _ _ => (ag_name 15 sc.nd rfl (Or.inl rfl))) (fun _ _ _ _ _ => ats_nil) (fun _ _ _ _ _ => (ae_tup (aa_consD (av 13) (aa_consD (ae_tup (aa_consD (ae_ix hr (av 2) (av 15)) (aa_consD (ae_ix hr (av 2) (ae_ix hr (av 3) (av 15))) aa_nil))) aa_nil)))))
      (ass_cons (as_set (i := 5) sc.nd rfl (Or.inl rfl) (ae_add (av 5) (ae_lc (own := [("at", 15)]) rfl sc.nd (ai_seq (ae_sl (ae_fn (ok_law_some T) (hr.mono (by decide)) rfl T.law_some.mg T.law_some.kp T.law_some.bi (aa_cons (av 0) (aa_consD (ae_listRg rfl (av 1) rfl T.no_list rfl T.no_range) (aa_consD ae_int aa_nil)))) ao_none (ao_some ae_int))) (blkOk_by (own := [("at", 15)]) (N := N_law_chain) (sc := (defScope st_law_chain)) (by decide +kernel)) gloc_name (fun _ _ _ _ _ => (ag_name 15 sc.nd rfl (Or.inl rfl))) (fun _ _ _ _ _ => ats_nil) (fun _ _ _ _ _ => (ae_tup (aa_consD (av 14) (aa_consD (ae_tup (aa_consD (ae_ix hr (av 2) (av 15)) aa_nil)) aa_nil)))))))
      (ass_cons (as_set (i := 6) sc.nd rfl (Or.inr rfl) (ae_lst (aa_consD (ae_tup (aa_consD ae_int (aa_consD ae_int aa_nil))) (aa_consD (ae_tup (aa_consD ae_int (aa_consD ae_int aa_nil))) (aa_consD (ae_tup (aa_consD ae_int (aa_consD ae_int aa_nil))) aa_nil)))))
      (ass_cons (as_setLc (i := 7) (own := [("term", 23)]) rfl sc.nd rfl rfl (sw_true rfl rfl rfl (by decide +kernel)) (ai_seq (ae_fn (ok_law_downward T) (hr.mono (by decide)) rfl T.law_downward.mg T.law_downward.kp T.law_downward.bi (aa_consD (av 2) aa_nil))) (blkOk_by (own := [("term", 23)]) (N := N_law_chain) (sc := (defScope st_law_chain)) (by decide +kernel)) gloc_name (fun _ _ _ _ _ => (ag_name 23 sc.nd rfl (Or.inl rfl))) (fun _ _ _ _ _ => ats_nil) (fun _ _ _ _ _ => (ae_add (ae_tup (aa_consD (av 23) aa_nil)) (ae_ix hr (av 6) (ae_mod (ae_rdT call_int1 (rs_int _) rfl T.no_int (by decide +kernel) (ae_index hr (av 2) (av 23))) ae_int)))))
      (ass_cons (as_set (i := 8) sc.nd rfl (Or.inl rfl) (ae_add ae_int (ae_fn (ok_law_draw T) (hr.mono (by decide)) rfl T.law_draw.mg T.law_draw.kp T.law_draw.bi (aa_cons (av 0) (aa_consD ae_int aa_nil)))))
      (ass_cons (as_set (i := 9) sc.nd rfl (Or.inr rfl) (ae_fn (ok_law_pool T) (hr.mono (by decide)) rfl T.law_pool.mg T.law_pool.kp T.law_pool.bi (aa_cons (av 0) (aa_consD (ae_add (av 8) ae_int) aa_nil))))
      (ass_cons (as_setLc (i := 10) (own := [("at", 15)]) rfl sc.nd rfl rfl (sw_true rfl rfl rfl (by decide +kernel)) (ai_range1 rfl T.no_range (aa_consD (av 8) aa_nil)) (blkOk_by (own := [("at", 15)]) (N := N_law_chain) (sc := (defScope st_law_chain)) (by decide +kernel)) gloc_name (fun _ _ _ _ _ => (ag_name 15 sc.nd rfl (Or.inl rfl))) (fun _ _ _ _ _ => ats_nil) (fun _ _ _ _ _ => (ae_tup (aa_consD (av 13) (aa_consD (ae_tup (aa_consD (ae_ix hr (av 9) (av 15)) (aa_consD (ae_ix hr (av 9) (ae_add (av 15) ae_int)) aa_nil))) aa_nil)))))
      (ass_cons (as_set (i := 11) sc.nd rfl (Or.inl rfl) (ae_lst aa_nil))
      (ass_cons (as_for .never rfl (ai_seq (av 4)) (ag_name 12 sc.nd rfl (Or.inl rfl)) (ass_cons (as_set (i := 15) sc.nd rfl (Or.inl rfl) (av 12))
      (ass_cons (as_set (i := 16) sc.nd rfl (Or.inl rfl) (ae_lst (aa_consD (ae_ix hr (av 2) (av 15)) aa_nil)))
      (ass_cons (as_for .never rfl (ai_range1 rfl T.no_range (aa_consD (av 8) aa_nil)) (ag_name 17 sc.nd rfl (Or.inl rfl)) (ass_cons (as_set (i := 15) sc.nd rfl (Or.inl rfl) (ae_ix hr (av 3) (av 15)))
      (ass_one (as_expr (ae_mut 16 PySem.F.slot_list_append PySem.F.type_list_append mt_append (ms_append _) (aa_consD (ae_ix hr (av 2) (av 15)) aa_nil))))))
      (ass_one (as_expr (ae_mut 11 PySem.F.slot_list_append PySem.F.type_list_append mt_append (ms_append _) (aa_consD (av 16) aa_nil))))))))
      (ass_cons (as_parN rfl (agn_cons 18 sc.nd rfl (Or.inl rfl) (agn_cons 19 sc.nd rfl (Or.inl rfl) (agn_cons 20 sc.nd rfl (Or.inl rfl) (agn_cons 21 sc.nd rfl (Or.inl rfl) agn_nil)))) (an_cons (ae_tup aa_nil) (an_cons (ae_tup aa_nil) (an_cons (ae_lst aa_nil) (an_cons (ae_lst aa_nil) an_nil)))))
      (ass_cons (as_if (at_eq hr (ae_fn (ok_law_draw T) (hr.mono (by decide)) rfl T.law_draw.mg T.law_draw.kp T.law_draw.bi (aa_cons (av 0) (aa_consD ae_int aa_nil))) ae_int) (ass_cons (as_set (i := 15) sc.nd rfl (Or.inl rfl) (ae_fn (ok_law_draw T) (hr.mono (by decide)) rfl T.law_draw.mg T.law_draw.kp T.law_draw.bi (aa_cons (av 0) (aa_consD (ae_add (av 8) ae_int) aa_nil))))
      (ass_one (as_par (i := 18) (j := 19) rfl sc.nd rfl rfl rfl rfl (an_cons (ae_tup (aa_consD (ae_ix hr (av 9) (av 15)) aa_nil)) (an_cons (ae_tup (aa_consD (ae_ix hr (ae_fn (ok_law_pick T) (hr.mono (by decide)) rfl T.law_pick.mg T.law_pick.kp T.law_pick.bi (aa_cons (av 0) (aa_consD (av 11) aa_nil))) (av 15)) aa_nil)) an_nil))))) ass_nil)
      (ass_cons (as_if (at_eq hr (ae_fn (ok_law_draw T) (hr.mono (by decide)) rfl T.law_draw.mg T.law_draw.kp T.law_draw.bi (aa_cons (av 0) (aa_consD ae_int aa_nil))) ae_int) (ass_one (as_expr (ae_mut 20 PySem.F.slot_list_append PySem.F.type_list_append mt_append (ms_append _) (aa_consD (ae_add (ae_tup (aa_consD (ae_fn (ok_law_pick T) (hr.mono (by decide)) rfl T.law_pick.mg T.law_pick.kp T.law_pick.bi (aa_cons (av 0) (aa_consD (av 9) aa_nil))) aa_nil)) (ae_fn (ok_law_pick T) (hr.mono (by decide)) rfl T.law_pick.mg T.law_pick.kp T.law_pick.bi (aa_cons (av 0) (aa_consD (ae_add (av 6) (ae_lst (aa_consD (ae_tup (aa_consD ae_int (aa_consD ae_int aa_nil))) (aa_consD (ae_tup (aa_consD ae_int (aa_consD ae_int aa_nil))) aa_nil)))) aa_nil)))) aa_nil)))) ass_nil)
      (ass_cons (as_if (at_eq hr (ae_fn (ok_law_draw T) (hr.mono (by decide)) rfl T.law_draw.mg T.law_draw.kp T.law_draw.bi (aa_cons (av 0) (aa_consD ae_int aa_nil))) ae_int) (ass_one (as_expr (ae_mut 21 PySem.F.slot_list_append PySem.F.type_list_append mt_append (ms_append _) (aa_consD (ae_tup (aa_consD (av 14) (aa_consD (ae_tup (aa_consD (ae_fn (ok_law_pick T) (hr.mono (by decide)) rfl T.law_pick.mg T.law_pick.kp T.law_pick.bi (aa_cons (av 0) (aa_consD (av 9) aa_nil))) aa_nil)) aa_nil))) aa_nil)))) ass_nil)
      (ass_one (as_ret (ae_tup (aa_consD (ae_tup (aa_consD (ae_rdT call_tuple_of (rs_tuple _) rfl T.no_tuple (by decide +kernel) (av 10)) (aa_consD (ae_rdT call_tuple_of (rs_tuple _) rfl T.no_tuple (by decide +kernel) (av 21)) (aa_consD (ae_rdT call_tuple_of (rs_tuple _) rfl T.no_tuple (by decide +kernel) (av 20)) (aa_consD (av 18) aa_nil))))) (aa_consD (ae_tup (aa_consD (ae_rdT call_tuple_of (rs_tuple _) rfl T.no_tuple (by decide +kernel) (av 5)) (aa_consD (ae_tup aa_nil) (aa_consD (ae_rdT call_tuple_of (rs_tuple _) rfl T.no_tuple (by decide +kernel) (av 7)) (aa_consD (av 19) aa_nil))))) (aa_consD (av 9) (aa_consD (av 11) aa_nil)))))))))))))))))))))))))) p_law_chain
abbrev N_law_bounds : List Str := ["btree", "term", "span"]
theorem sc_law_bounds : FnScope N_law_bounds ["btree", "term"] (defScope st_law_bounds) := ⟨rfl, rfl, rfl, by decide +kernel, rfl, by decide +kernel, by decide +kernel⟩
theorem ok_law_bounds (T : Txt K mg Z) : FnOk P w K mg base CX0 1 Z.f_law_bounds Z.fd_law_bounds ["btree", "term"] (toSp K S_law_bounds) :=
  fn_of (N := N_law_bounds) (B := B_law_bounds) (a := a_law_bounds) (k := 0) T.law_bounds.fn sc_law_bounds (by decide) (fun cdv A outer s H E hr => have sc := sc_law_bounds; by
    unfold a_law_bounds law_bounds_0_0 law_bounds_0_1 law_bounds_0_2 law_bounds_2_0 law_bounds_3_0 law_bounds_1_0
    exact (ass_cons (as_if (at_ge (av 1) ae_int) (ass_one (as_ret (ae_tup (aa_consD (av 1) (aa_consD (ae_add (av 1) ae_int) aa_nil))))) ass_nil)
      (ass_cons (as_for .never rfl (ai_seq (ae_ix hr (av 0) ae_int)) (ag_name 2 sc.nd rfl (Or.inl rfl)) (ass_one (as_if (at_eq hr (ae_ix hr (av 2) ae_int) (av 1)) (ass_one (as_ret (ae_tup (aa_consD (ae_ix hr (av 2) ae_int) (aa_consD (ae_ix hr (av 2) ae_int) aa_nil))))) ass_nil)))
      (ass_one (as_ret (ae_tup (aa_consD ae_int (aa_consD ae_int aa_nil)))))))) p_law_bounds
abbrev N_law_laid : List Str := ["terms", "names", "term"]
theorem sc_law_laid : FnScope N_law_laid ["terms", "names"] (defScope st_law_laid) := ⟨rfl, rfl, rfl, by decide +kernel, rfl, by decide +kernel, by decide +kernel⟩
theorem ok_law_laid (T : Txt K mg Z) : FnOk P w K mg base CX0 1 Z.f_law_laid Z.fd_law_laid ["terms", "names"] (toSp K S_law_laid) :=
  fn_of (N := N_law_laid) (B := B_law_laid) (a := a_law_laid) (k := 0) T.law_laid.fn sc_law_laid (by decide) (fun cdv A outer s H E hr => have sc := sc_law_laid; by
    unfold a_law_laid law_laid_0_0
    exact (ass_one (as_ret (ae_rdT call_tuple_of (rs_tuple _) rfl T.no_tuple (by decide +kernel) (ae_lc (own := [("term", 2)]) rfl sc.nd (ai_seq (av 0)) (blkOk_by (own := [("term", 2)]) (N := N_law_laid) (sc := (defScope st_law_laid)) (by decide +kernel)) gloc_name (fun _ _ _ _ _ => (ag_name 2 sc.nd rfl (Or.inl rfl))) (fun _ _ _ _ _ => ats_nil) (fun _ _ _ _ _ => (ae_if (at_ge (av 2) ae_int) (av 2) (ae_ix hr (av 1) (av 2))))))))) p_law_laid
abbrev N_law_lays : List Str := ["btree", "ttree", "names", "term", "low", "high", "first", "last", "row"]
theorem sc_law_lays : FnScope N_law_lays ["btree", "ttree", "names"] (defScope st_law_lays) := ⟨rfl, rfl, rfl, by decide +kernel, rfl, by decide +kernel, by decide +kernel⟩
theorem ok_law_lays (T : Txt K mg Z) : FnOk P w K mg base CX0 2 Z.f_law_lays Z.fd_law_lays ["btree", "ttree", "names"] (toSp K S_law_lays) :=
  fn_of (N := N_law_lays) (B := B_law_lays) (a := a_law_lays) (k := 1) T.law_lays.fn sc_law_lays (by decide) (fun cdv A outer s H E hr => have sc := sc_law_lays; by
    unfold a_law_lays law_lays_0_0 law_lays_0_1 law_lays_0_2 law_lays_3_0 law_lays_1_0 law_lays_1_1 law_lays_1_2 law_lays_2_0
    exact (ass_cons (as_for .never rfl (ai_seq (av 2)) (ag_name 3 sc.nd rfl (Or.inl rfl)) (ass_cons (as_asg (ae_fn (ok_law_bounds T) (hr.mono (by decide)) rfl T.law_bounds.mg T.law_bounds.kp T.law_bounds.bi (aa_consD (av 0) (aa_consD (av 3) aa_nil))) (ag_tup rfl (ags_cons (ag_name 4 sc.nd rfl (Or.inl rfl)) (ags_cons (ag_name 5 sc.nd rfl (Or.inl rfl)) ags_nil))))
      (ass_cons (as_asg (ae_fn (ok_law_bounds T) (hr.mono (by decide)) rfl T.law_bounds.mg T.law_bounds.kp T.law_bounds.bi (aa_consD (av 1) (aa_consD (ae_ix hr (av 2) (av 3)) aa_nil))) (ag_tup rfl (ags_cons (ag_name 6 sc.nd rfl (Or.inl rfl)) (ags_cons (ag_name 7 sc.nd rfl (Or.inl rfl)) ags_nil))))
      (ass_one (as_if (AW.at' (aw_or (at_lt (av 6) (av 4)) (aw_or1 (at_gt (av 7) (av 5))))) (ass_one (as_ret ae_bl)) ass_nil)))))
      (ass_cons (as_if (at_ne hr (ae_fn (ok_law_laid T) (hr.mono (by decide)) rfl T.law_laid.mg T.law_laid.kp T.law_laid.bi (aa_consD (ae_ix hr (av 0) ae_int) (aa_consD (av 2) aa_nil))) (ae_ix hr (av 1) ae_int)) (ass_one (as_ret ae_bl)) ass_nil)
      (ass_one (as_ret (ae_rdB (cr_all rfl) (rs_all _) rfl T.no_all (by decide +kernel) (ae_lc (own := [("row", 8)]) rfl sc.nd (ai_seq (ae_ix hr (av 0) ae_int)) (blkOk_by (own := [("row", 8)]) (N := N_law_lays) (sc := (defScope st_law_lays)) (by decide +kernel)) gloc_name (fun _ _ _ _ _ => (ag_name 8 sc.nd rfl (Or.inl rfl))) (fun _ _ _ _ _ => ats_nil) (fun _ _ _ _ _ => (ae_in hr (ae_tup (aa_consD (ae_ix hr (av 8) ae_int) (aa_consD (ae_fn (ok_law_laid T) (hr.mono (by decide)) rfl T.law_laid.mg T.law_laid.kp T.law_laid.bi (aa_consD (ae_ix hr (av 8) ae_int) (aa_consD (av 2) aa_nil))) aa_nil))) (ae_ix hr (av 1) ae_int)))))))))) p_law_lays
abbrev N_law_variables : List Str := ["rows", "told", "row", "term"]
theorem sc_law_variables : FnScope N_law_variables ["rows"] (defScope st_law_variables) := ⟨rfl, rfl, rfl, by decide +kernel, rfl, by decide +kernel, by decide +kernel⟩
theorem ok_law_variables (T : Txt K mg Z) : FnOk P w K mg base CX0 1 Z.f_law_variables Z.fd_law_variables ["rows"] (toSp K S_law_variables) :=
  fn_of (N := N_law_variables) (B := B_law_variables) (a := a_law_variables) (k := 0) T.law_variables.fn sc_law_variables (by decide) (fun cdv A outer s H E hr => have sc := sc_law_variables; by
    unfold a_law_variables law_variables_0_0 law_variables_0_1 law_variables_0_2 law_variables_1_0 law_variables_2_0 law_variables_3_0
    exact (ass_cons (as_set (i := 1) sc.nd rfl (Or.inl rfl) (ae_lst aa_nil))
      (ass_cons (as_for .never rfl (ai_seq (av 0)) (ag_name 2 sc.nd rfl (Or.inl rfl)) (ass_one (as_for .never rfl (ai_seq (ae_ix hr (av 2) ae_int)) (ag_name 3 sc.nd rfl (Or.inl rfl)) (ass_one (as_if (AW.at' (aw_and (at_lt (av 3) ae_int) (aw_and1 (at_notIn hr (av 3) (av 1))))) (ass_one (as_expr (ae_mut 1 PySem.F.slot_list_append PySem.F.type_list_append mt_append (ms_append _) (aa_consD (av 3) aa_nil)))) ass_nil)))))
      (ass_one (as_ret (av 1)))))) p_law_variables
abbrev N_law_names_of : List Str := ["btree", "images", "variables", "names", "place"]
theorem sc_law_names_of : FnScope N_law_names_of ["btree", "images"] (defScope st_law_names_of) := ⟨rfl, rfl, rfl, by decide +kernel, rfl, by decide +kernel, by decide +kernel⟩
theorem ok_law_names_of (T : Txt K mg Z) : FnOk P w K mg base CX0 2 Z.f_law_names_of Z.fd_law_names_of ["btree", "images"] (toSp K S_law_names_of) :=
  fn_of (N := N_law_names_of) (B := B_law_names_of) (a := a_law_names_of) (k := 1) T.law_names_of.fn sc_law_names_of (by decide) (fun cdv A outer s H E hr => have sc := sc_law_names_of; by
    unfold a_law_names_of law_names_of_0_0 law_names_of_0_1 law_names_of_0_2 law_names_of_0_3 law_names_of_1_0
    exact (ass_cons (as_set (i := 2) sc.nd rfl (Or.inl rfl) (ae_fn (ok_law_variables T) (hr.mono (by decide)) rfl T.law_variables.mg T.law_variables.kp T.law_variables.bi (aa_consD (ae_ix hr (av 0) ae_int) aa_nil)))
      (ass_cons (as_set (i := 3) sc.nd rfl (Or.inl rfl) ae_newK)
      (ass_cons (as_for .never rfl (ai_range1 rfl T.no_range (aa_consD (ae_rdB call_len (rs_len _) rfl T.no_len (by decide +kernel) (av 2)) aa_nil)) (ag_name 4 sc.nd rfl (Or.inl rfl)) (ass_one (as_asg (ae_ix hr (av 1) (av 4)) (ag_sub hr (av 3) (ae_ix hr (av 2) (av 4))))))
      (ass_one (as_ret (av 3))))))) p_law_names_of
abbrev N_Body_tree : List Str := ["self", "spans", "term"]
theorem sc_Body_tree : FnScope N_Body_tree ["self"] (defScope st_Body_tree) := ⟨rfl, rfl, rfl, by decide +kernel, rfl, by decide +kernel, by decide +kernel⟩
theorem ok_Body_tree (T : Txt K mg Z) : FnOk P w K mg base CX0 1 Z.f_Body_tree Z.fd_Body_tree ["self"] (toSp K (S_Body_tree Z.C_Body)) :=
  fn_of (N := N_Body_tree) (B := B_Body_tree) (a := a_Body_tree Z.C_Body) (k := 0) T.Body_tree.fn sc_Body_tree (by decide) (fun cdv A outer s H E hr => have sc := sc_Body_tree; by
    unfold a_Body_tree Body_tree_0_0 Body_tree_0_1
    exact (ass_cons (as_set (i := 1) sc.nd rfl (Or.inl rfl) (ae_rdT call_tuple_of (rs_tuple _) rfl T.no_tuple (by decide +kernel) (ae_lc (own := [("term", 2)]) rfl sc.nd (ai_seq (ae_sortedDR rfl (ae_fld T.c_Body.cl T.n_Body_spans (av 0)) rfl T.no_sorted)) (blkOk_by (own := [("term", 2)]) (N := N_Body_tree) (sc := (defScope st_Body_tree)) (by decide +kernel)) gloc_name (fun _ _ _ _ _ => (ag_name 2 sc.nd rfl (Or.inl rfl))) (fun _ _ _ _ _ => ats_nil) (fun _ _ _ _ _ => (ae_tup (aa_consD (av 2) (aa_consD (ae_ix hr (ae_ix hr (ae_fld T.c_Body.cl T.n_Body_spans (av 0)) (av 2)) ae_int) (aa_consD (ae_ix hr (ae_ix hr (ae_fld T.c_Body.cl T.n_Body_spans (av 0)) (av 2)) ae_int) aa_nil))))))))
      (ass_one (as_ret (ae_tup (aa_consD (ae_fld T.c_Body.cl T.n_Body_rows (av 0)) (aa_consD (ae_fld T.c_Body.cl T.n_Body_nots (av 0)) (aa_consD (av 1) (aa_consD (ae_fld T.c_Body.cl T.n_Body_wide (av 0)) aa_nil))))))))) p_Body_tree
abbrev N_Body_init : List Str := ["self", "rows", "nots", "spans", "wide"]
theorem sc_Body_init : FnScope N_Body_init ["self", "rows", "nots", "spans", "wide"] (defScope st_Body_init) := ⟨rfl, rfl, rfl, by decide +kernel, rfl, by decide +kernel, by decide +kernel⟩
theorem ok_Body_init (T : Txt K mg Z) : FnOk P w K mg base CX0 1 Z.f_Body_init Z.fd_Body_init ["self", "rows", "nots", "spans", "wide"] (toSp K (S_Body_init Z.C_Body)) :=
  fn_of (N := N_Body_init) (B := B_Body_init) (a := a_Body_init Z.C_Body) (k := 0) T.c_Body.fn sc_Body_init (by decide) (fun cdv A outer s H E hr => have sc := sc_Body_init; by
    unfold a_Body_init Body_init_0_0 Body_init_0_1 Body_init_0_2 Body_init_0_3
    exact (ass_cons (as_fldset 0 T.c_Body.cl T.n_Body_rows (av 1))
      (ass_cons (as_fldset 0 T.c_Body.cl T.n_Body_nots (av 2))
      (ass_cons (as_fldset 0 T.c_Body.cl T.n_Body_spans (av 3))
      (ass_one (as_fldset 0 T.c_Body.cl T.n_Body_wide (av 4))))))) p_Body_init
abbrev N_law_object : List Str := ["btree", "spans", "span"]
theorem sc_law_object : FnScope N_law_object ["btree"] (defScope st_law_object) := ⟨rfl, rfl, rfl, by decide +kernel, rfl, by decide +kernel, by decide +kernel⟩
theorem ok_law_object (T : Txt K mg Z) : FnOk P w K mg base CX0 3 Z.f_law_object Z.fd_law_object ["btree"] (toSp K (S_law_object Z.C_Body)) :=
  fn_of (N := N_law_object) (B := B_law_object) (a := a_law_object Z.C_Body) (k := 2) T.law_object.fn sc_law_object (by decide) (fun cdv A outer s H E hr => have sc := sc_law_object; by
    unfold a_law_object law_object_0_0 law_object_0_1 law_object_0_2 law_object_1_0
    exact (ass_cons (as_set (i := 1) sc.nd rfl (Or.inl rfl) ae_newK)
      (ass_cons (as_for .never rfl (ai_seq (ae_ix hr (av 0) ae_int)) (ag_name 2 sc.nd rfl (Or.inl rfl)) (ass_one (as_asg (ae_tup (aa_consD (ae_ix hr (av 2) ae_int) (aa_consD (ae_ix hr (av 2) ae_int) aa_nil))) (ag_sub hr (av 1) (ae_ix hr (av 2) ae_int)))))
      (ass_one (as_ret (ae_make T.c_Body.ma (ok_Body_init T) (hr.mono (by decide)) rfl T.c_Body.mg T.c_Body.bi (aa_consD (ae_ix hr (av 0) ae_int) (aa_consD (ae_ix hr (av 0) ae_int) (aa_consD (av 1) (aa_consD (ae_ix hr (av 0) ae_int) aa_nil)))))))))) p_law_object
abbrev N_Body_span : List Str := ["self", "term"]
theorem sc_Body_span : FnScope N_Body_span ["self", "term"] (defScope st_Body_span) := ⟨rfl, rfl, rfl, by decide +kernel, rfl, by decide +kernel, by decide +kernel⟩
theorem ok_Body_span (T : Txt K mg Z) : FnOk P w K mg base CX0 1 Z.f_Body_span Z.fd_Body_span ["self", "term"] (toSp K (S_Body_span Z.C_Body)) :=
  fn_of (N := N_Body_span) (B := B_Body_span) (a := a_Body_span Z.C_Body) (k := 0) T.Body_span.fn sc_Body_span (by decide) (fun cdv A outer s H E hr => have sc := sc_Body_span; by
    unfold a_Body_span Body_span_0_0 Body_span_0_1 Body_span_1_0
    exact (ass_cons (as_if (at_ge (av 1) ae_int) (ass_one (as_ret (ae_tup (aa_consD (av 1) (aa_consD (ae_add (av 1) ae_int) aa_nil))))) ass_nil)
      (ass_one (as_ret (ae_get hr (ae_fld T.c_Body.cl T.n_Body_spans (av 0)) (av 1) (ae_tup (aa_consD ae_int (aa_consD ae_int aa_nil)))))))) p_Body_span
abbrev N_is_within : List Str := ["body", "term", "target", "image", "low", "high", "first", "last"]
theorem sc_is_within : FnScope N_is_within ["body", "term", "target", "image"] (defScope st_is_within) := ⟨rfl, rfl, rfl, by decide +kernel, rfl, by decide +kernel, by decide +kernel⟩
theorem ok_is_within (T : Txt K mg Z) : FnOk P w K mg base CX0 2 Z.f_is_within Z.fd_is_within ["body", "term", "target", "image"] (toSp K (S_is_within Z.C_Body)) :=
  fn_of (N := N_is_within) (B := B_is_within) (a := a_is_within Z.C_Body) (k := 1) T.is_within.fn sc_is_within (by decide) (fun cdv A outer s H E hr => have sc := sc_is_within; by
    unfold a_is_within is_within_0_0 is_within_0_1 is_within_0_2
    exact (ass_cons (as_asg (ae_meth T.c_Body.cl T.Body_span.me (ok_Body_span T) (hr.mono (by decide)) T.Body_span.bi (AE.frz (av 0)) (aa_consD (av 1) aa_nil)) (ag_tup rfl (ags_cons (ag_name 4 sc.nd rfl (Or.inl rfl)) (ags_cons (ag_name 5 sc.nd rfl (Or.inl rfl)) ags_nil))))
      (ass_cons (as_asg (ae_meth T.c_Body.cl T.Body_span.me (ok_Body_span T) (hr.mono (by decide)) T.Body_span.bi (AE.frz (av 2)) (aa_consD (av 3) aa_nil)) (ag_tup rfl (ags_cons (ag_name 6 sc.nd rfl (Or.inl rfl)) (ags_cons (ag_name 7 sc.nd rfl (Or.inl rfl)) ags_nil))))
      (ass_one (as_ret (ae_and (ae_le (av 4) (av 6)) (ae_one (ae_le (av 7) (av 5))))))))) p_is_within
abbrev N_laid : List Str := ["terms", "names", "term"]
theorem sc_laid : FnScope N_laid ["terms", "names"] (defScope st_laid) := ⟨rfl, rfl, rfl, by decide +kernel, rfl, by decide +kernel, by decide +kernel⟩
theorem ok_laid (T : Txt K mg Z) : FnOk P w K mg base CX0 1 Z.f_laid Z.fd_laid ["terms", "names"] (toSp K S_laid) :=
  fn_of (N := N_laid) (B := B_laid) (a := a_laid) (k := 0) T.laid.fn sc_laid (by decide) (fun cdv A outer s H E hr => have sc := sc_laid; by
    unfold a_laid laid_0_0
    exact (ass_one (as_ret (ae_rdT call_tuple_of (rs_tuple _) rfl T.no_tuple (by decide +kernel) (ae_lc (own := [("term", 2)]) rfl sc.nd (ai_seq (av 0)) (blkOk_by (own := [("term", 2)]) (N := N_laid) (sc := (defScope st_laid)) (by decide +kernel)) gloc_name (fun _ _ _ _ _ => (ag_name 2 sc.nd rfl (Or.inl rfl))) (fun _ _ _ _ _ => ats_nil) (fun _ _ _ _ _ => (ae_if (at_ge (av 2) ae_int) (av 2) (ae_ix hr (av 1) (av 2))))))))) p_laid
abbrev N_Body_variables : List Str := ["self", "told", "row", "term"]
theorem sc_Body_variables : FnScope N_Body_variables ["self"] (defScope st_Body_variables) := ⟨rfl, rfl, rfl, by decide +kernel, rfl, by decide +kernel, by decide +kernel⟩
theorem ok_Body_variables (T : Txt K mg Z) : FnOk P w K mg base CX0 1 Z.f_Body_variables Z.fd_Body_variables ["self"] (toSp K (S_Body_variables Z.C_Body)) :=
  fn_of (N := N_Body_variables) (B := B_Body_variables) (a := a_Body_variables Z.C_Body) (k := 0) T.Body_variables.fn sc_Body_variables (by decide) (fun cdv A outer s H E hr => have sc := sc_Body_variables; by
    unfold a_Body_variables Body_variables_0_0 Body_variables_0_1 Body_variables_0_2 Body_variables_1_0 Body_variables_2_0 Body_variables_3_0
    exact (ass_cons (as_set (i := 1) sc.nd rfl (Or.inl rfl) (ae_lst aa_nil))
      (ass_cons (as_for .never rfl (ai_seq (ae_fld T.c_Body.cl T.n_Body_rows (av 0))) (ag_name 2 sc.nd rfl (Or.inl rfl)) (ass_one (as_for .never rfl (ai_seq (ae_ix hr (av 2) ae_int)) (ag_name 3 sc.nd rfl (Or.inl rfl)) (ass_one (as_if (AW.at' (aw_and (at_lt (av 3) ae_int) (aw_and1 (at_notIn hr (av 3) (av 1))))) (ass_one (as_expr (ae_mut 1 PySem.F.slot_list_append PySem.F.type_list_append mt_append (ms_append _) (aa_consD (av 3) aa_nil)))) ass_nil)))))
      (ass_one (as_ret (av 1)))))) p_Body_variables
abbrev N_is_whole : List Str := ["value"]
theorem sc_is_whole : FnScope N_is_whole ["value"] (defScope st_is_whole) := ⟨rfl, rfl, rfl, by decide +kernel, rfl, by decide +kernel, by decide +kernel⟩
theorem ok_is_whole (T : Txt K mg Z) : FnOk P w K mg base CX0 1 Z.f_is_whole Z.fd_is_whole ["value"] (toSp K S_is_whole) :=
  fn_of (N := N_is_whole) (B := B_is_whole) (a := a_is_whole) (k := 0) T.is_whole.fn sc_is_whole (by decide) (fun cdv A outer s H E hr => have sc := sc_is_whole; by
    unfold a_is_whole is_whole_0_0
    exact (ass_one (as_ret (ae_and (ae_isi (T := "int") (av 0) rfl T.no_isinstance rfl T.no_int (by decide +kernel)) (ae_one (ae_notB (ae_isi (T := "bool") (av 0) rfl T.no_isinstance rfl T.no_bool (by decide +kernel)))))))) p_is_whole
abbrev N_names_from : List Str := ["body", "images", "variables", "names", "term", "image"]
theorem sc_names_from : FnScope N_names_from ["body", "images"] (defScope st_names_from) := ⟨rfl, rfl, rfl, by decide +kernel, rfl, by decide +kernel, by decide +kernel⟩
theorem ok_names_from (T : Txt K mg Z) : FnOk P w K mg base CX0 2 Z.f_names_from Z.fd_names_from ["body", "images"] (toSp K (S_names_from Z.C_Body)) :=
  fn_of (N := N_names_from) (B := B_names_from) (a := a_names_from Z.C_Body) (k := 1) T.names_from.fn sc_names_from (by decide) (fun cdv A outer s H E hr => have sc := sc_names_from; by
    unfold a_names_from names_from_0_0 names_from_0_1 names_from_0_2 names_from_0_3 names_from_0_4 names_from_2_0 names_from_2_1 names_from_3_0 names_from_1_0
    exact (ass_cons (as_set (i := 2) sc.nd rfl (Or.inl rfl) (ae_meth0 T.c_Body.cl T.Body_variables.me (ok_Body_variables T) (hr.mono (by decide)) T.Body_variables.bi (AE.frz (av 0))))
      (ass_cons (as_if (AW.at' (aw_or (at_not (at_tru (ae_isi (T := "tuple") (av 1) rfl T.no_isinstance rfl T.no_tuple (by decide +kernel)))) (aw_or1 (at_ne hr (ae_rdB call_len (rs_len _) rfl T.no_len (by decide +kernel) (av 1)) (ae_rdB call_len (rs_len _) rfl T.no_len (by decide +kernel) (av 2)))))) (ass_one (as_ret ae_non)) ass_nil)
      (ass_cons (as_set (i := 3) sc.nd rfl (Or.inl rfl) ae_newK)
      (ass_cons (as_for .never rfl (ai_zip rfl T.no_zip (aa_consD (av 2) (aa_consD (av 1) aa_nil))) (ag_tup rfl (ags_cons (ag_name 4 sc.nd rfl (Or.inl rfl)) (ags_cons (ag_name 5 sc.nd rfl (Or.inl rfl)) ags_nil))) (ass_cons (as_if (at_not (at_tru (ae_fn (ok_is_whole T) (hr.mono (by decide)) rfl T.is_whole.mg T.is_whole.kp T.is_whole.bi (aa_consD (av 5) aa_nil)))) (ass_one (as_ret ae_non)) ass_nil)
      (ass_one (as_asg (av 5) (ag_sub hr (av 3) (av 4))))))
      (ass_one (as_ret (av 3)))))))) p_names_from
abbrev N_is_fold : List Str := ["body", "target", "images", "names", "term", "table", "terms"]
theorem sc_is_fold : FnScope N_is_fold ["body", "target", "images"] (defScope st_is_fold) := ⟨rfl, rfl, rfl, by decide +kernel, rfl, by decide +kernel, by decide +kernel⟩
theorem ok_is_fold (T : Txt K mg Z) : FnOk P w K mg base CX0 3 Z.f_is_fold Z.fd_is_fold ["body", "target", "images"] (toSp K (S_is_fold Z.C_Body)) :=
  fn_of (N := N_is_fold) (B := B_is_fold) (a := a_is_fold Z.C_Body) (k := 2) T.is_fold.fn sc_is_fold (by decide) (fun cdv A outer s H E hr => have sc := sc_is_fold; by
    unfold a_is_fold is_fold_0_0 is_fold_0_1 is_fold_0_2 is_fold_0_3 is_fold_0_4 is_fold_3_0 is_fold_2_0 is_fold_1_0
    exact (ass_cons (as_set (i := 3) sc.nd rfl (Or.inr rfl) (ae_fn (ok_names_from T) (hr.mono (by decide)) rfl T.names_from.mg T.names_from.kp T.names_from.bi (aa_consD (av 0) (aa_consD (av 2) aa_nil))))
      (ass_cons (as_if (AW.at' (aw_or (at_isN (av 3) ae_non) (aw_or1 (at_ne hr (ae_rdB call_len (rs_len _) rfl T.no_len (by decide +kernel) (ae_fld T.c_Body.cl T.n_Body_wide (av 0))) (ae_rdB call_len (rs_len _) rfl T.no_len (by decide +kernel) (ae_fld T.c_Body.cl T.n_Body_wide (av 1))))))) (ass_one (as_ret ae_bl)) ass_nil)
      (ass_cons (as_if (at_not (at_tru (ae_rdB (cr_all rfl) (rs_all _) rfl T.no_all (by decide +kernel) (ae_lc (own := [("term", 4)]) rfl sc.nd (ai_seq (av 3)) (blkOk_by (own := [("term", 4)]) (N := N_is_fold) (sc := (defScope st_is_fold)) (by decide +kernel)) gloc_name (fun _ _ _ _ _ => (ag_name 4 sc.nd rfl (Or.inl rfl))) (fun _ _ _ _ _ => ats_nil) (fun _ _ _ _ _ => (ae_fn (ok_is_within T) (hr.mono (by decide)) rfl T.is_within.mg T.is_within.kp T.is_within.bi (aa_consD (av 0) (aa_consD (av 4) (aa_consD (av 1) (aa_consD (ae_ix hr (av 3) (av 4)) aa_nil)))))))))) (ass_one (as_ret ae_bl)) ass_nil)
      (ass_cons (as_if (at_ne hr (ae_fn (ok_laid T) (hr.mono (by decide)) rfl T.laid.mg T.laid.kp T.laid.bi (aa_consD (ae_fld T.c_Body.cl T.n_Body_wide (av 0)) (aa_consD (av 3) aa_nil))) (ae_fld T.c_Body.cl T.n_Body_wide (av 1))) (ass_one (as_ret ae_bl)) ass_nil)
      (ass_one (as_ret (ae_rdB (cr_all rfl) (rs_all _) rfl T.no_all (by decide +kernel) (ae_lc (own := [("table", 5), ("terms", 6)]) rfl sc.nd (ai_seq (ae_fld T.c_Body.cl T.n_Body_rows (av 0))) (blkOk_by (own := [("table", 5), ("terms", 6)]) (N := N_is_fold) (sc := (defScope st_is_fold)) (by decide +kernel)) (gloc_tup (gloc_cons gloc_name (gloc_cons gloc_name gloc_nil (gmono_name _) gmono_nil) (gmono_name _) (gmono_cons (gmono_name _) gmono_nil))) (fun _ _ _ _ _ => (ag_tup rfl (ags_cons (ag_name 5 sc.nd rfl (Or.inl rfl)) (ags_cons (ag_name 6 sc.nd rfl (Or.inl rfl)) ags_nil)))) (fun _ _ _ _ _ => ats_nil) (fun _ _ _ _ _ => (ae_in hr (ae_tup (aa_consD (av 5) (aa_consD (ae_fn (ok_laid T) (hr.mono (by decide)) rfl T.laid.mg T.laid.kp T.laid.bi (aa_consD (av 6) (aa_consD (av 3) aa_nil))) aa_nil))) (ae_fld T.c_Body.cl T.n_Body_rows (av 1))))))))))))) p_is_fold
abbrev N_law_told : List Str := ["btree", "ttree", "images", "due", "told", "body", "target"]
theorem sc_law_told : FnScope N_law_told ["btree", "ttree", "images", "due"] (defScope st_law_told) := ⟨rfl, rfl, rfl, by decide +kernel, rfl, by decide +kernel, by decide +kernel⟩
theorem ok_law_told (T : Txt K mg Z) : FnOk P w K mg base CX0 4 Z.f_law_told Z.fd_law_told ["btree", "ttree", "images", "due"] (toSp K S_law_told) :=
  fn_of (N := N_law_told) (B := B_law_told) (a := a_law_told Z.C_Body) (k := 3) T.law_told.fn sc_law_told (by decide) (fun cdv A outer s H E hr => have sc := sc_law_told; by
    unfold a_law_told law_told_0_0 law_told_0_1 law_told_0_2 law_told_0_3 law_told_1_0
    exact (ass_cons (as_par (i := 5) (j := 6) rfl sc.nd rfl rfl rfl rfl (an_cons (ae_fn (ok_law_object T) (hr.mono (by decide)) rfl T.law_object.mg T.law_object.kp T.law_object.bi (aa_consD (av 0) aa_nil)) (an_cons (ae_fn (ok_law_object T) (hr.mono (by decide)) rfl T.law_object.mg T.law_object.kp T.law_object.bi (aa_consD (av 1) aa_nil)) an_nil)))
      (ass_cons (as_set (i := 4) sc.nd rfl (Or.inl rfl) (ae_fn (ok_is_fold T) (hr.mono (by decide)) rfl T.is_fold.mg T.is_fold.kp T.is_fold.bi (aa_consD (av 5) (aa_consD (av 6) (aa_consD (av 2) aa_nil)))))
      (ass_cons (as_if (AW.at' (aw_or (at_not (at_tru (ae_isi (T := "bool") (av 4) rfl T.no_isinstance rfl T.no_bool (by decide +kernel)))) (aw_or1 (at_ne hr (av 4) (av 3))))) (ass_one (as_ret ae_bl)) ass_nil)
      (ass_one (as_ret (ae_and (ae_eq hr (ae_meth0 T.c_Body.cl T.Body_tree.me (ok_Body_tree T) (hr.mono (by decide)) T.Body_tree.bi (AE.frz (av 5))) (av 0)) (ae_one (ae_eq hr (ae_meth0 T.c_Body.cl T.Body_tree.me (ok_Body_tree T) (hr.mono (by decide)) T.Body_tree.bi (AE.frz (av 6))) (av 1)))))))))) p_law_told
abbrev N_law_asks : List Str := ["btree", "ttree", "images"]
theorem sc_law_asks : FnScope N_law_asks ["btree", "ttree", "images"] (defScope st_law_asks) := ⟨rfl, rfl, rfl, by decide +kernel, rfl, by decide +kernel, by decide +kernel⟩
theorem ok_law_asks (T : Txt K mg Z) : FnOk P w K mg base CX0 5 Z.f_law_asks Z.fd_law_asks ["btree", "ttree", "images"] (toSp K S_law_asks) :=
  fn_of (N := N_law_asks) (B := B_law_asks) (a := a_law_asks) (k := 4) T.law_asks.fn sc_law_asks (by decide) (fun cdv A outer s H E hr => have sc := sc_law_asks; by
    unfold a_law_asks law_asks_0_0
    exact (ass_one (as_ret (ae_fn (ok_law_told T) (hr.mono (by decide)) rfl T.law_told.mg T.law_told.kp T.law_told.bi (aa_consD (av 0) (aa_consD (av 1) (aa_consD (av 2) (aa_consD (ae_fn (ok_law_lays T) (hr.mono (by decide)) rfl T.law_lays.mg T.law_lays.kp T.law_lays.bi (aa_consD (av 0) (aa_consD (av 1) (aa_consD (ae_fn (ok_law_names_of T) (hr.mono (by decide)) rfl T.law_names_of.mg T.law_names_of.kp T.law_names_of.bi (aa_consD (av 0) (aa_consD (av 2) aa_nil))) aa_nil)))) aa_nil)))))))) p_law_asks
abbrev N_law_other : List Str := ["d", "images", "standing", "at", "other", "told"]
theorem sc_law_other : FnScope N_law_other ["d", "images", "standing"] (defScope st_law_other) := ⟨rfl, rfl, rfl, by decide +kernel, rfl, by decide +kernel, by decide +kernel⟩
theorem ok_law_other (T : Txt K mg Z) : FnOk P w K mg base CX0 3 Z.f_law_other Z.fd_law_other ["d", "images", "standing"] (toSp K S_law_other) :=
  fn_of (N := N_law_other) (B := B_law_other) (a := a_law_other) (k := 2) T.law_other.fn sc_law_other (by decide) (fun cdv A outer s H E hr => have sc := sc_law_other; by
    unfold a_law_other law_other_0_0 law_other_0_1 law_other_0_2 law_other_1_0 law_other_1_1 law_other_1_2 law_other_1_3
    exact (ass_cons (as_set (i := 3) sc.nd rfl (Or.inl rfl) (ae_fn (ok_law_draw T) (hr.mono (by decide)) rfl T.law_draw.mg T.law_draw.kp T.law_draw.bi (aa_cons (av 0) (aa_consD (ae_rdB call_len (rs_len _) rfl T.no_len (by decide +kernel) (av 1)) aa_nil))))
      (ass_cons (as_if (at_eq hr (ae_fn (ok_law_draw T) (hr.mono (by decide)) rfl T.law_draw.mg T.law_draw.kp T.law_draw.bi (aa_cons (av 0) (aa_consD ae_int aa_nil))) ae_int) (ass_cons (as_set (i := 4) sc.nd rfl (Or.inl rfl) (ae_fn (ok_law_draw T) (hr.mono (by decide)) rfl T.law_draw.mg T.law_draw.kp T.law_draw.bi (aa_cons (av 0) (aa_consD (ae_rdB call_len (rs_len _) rfl T.no_len (by decide +kernel) (av 1)) aa_nil))))
      (ass_cons (as_set (i := 5) sc.nd rfl (Or.inl rfl) (ae_rdT call_list_of (rs_list _) rfl T.no_list (by decide +kernel) (av 1)))
      (ass_cons (as_asg (ae_tup (aa_consD (ae_ix hr (av 1) (av 4)) (aa_consD (ae_ix hr (av 1) (av 3)) aa_nil))) (ag_tup rfl (ags_cons (ag_sub hr (av 5) (av 3)) (ags_cons (ag_sub hr (av 5) (av 4)) ags_nil))))
      (ass_one (as_ret (ae_rdT call_tuple_of (rs_tuple _) rfl T.no_tuple (by decide +kernel) (av 5))))))) ass_nil)
      (ass_one (as_ret (ae_add (ae_add (ae_sl (av 1) ao_none (ao_some (av 3))) (ae_tup (aa_consD (ae_fn (ok_law_pick T) (hr.mono (by decide)) rfl T.law_pick.mg T.law_pick.kp T.law_pick.bi (aa_cons (av 0) (aa_consD (av 2) aa_nil))) aa_nil))) (ae_sl (av 1) (ao_some (ae_add (av 3) ae_int)) ao_none))))))) p_law_other
abbrev N_law_images : List Str := ["d", "btree", "ttree", "images", "standing", "turn", "at"]
theorem sc_law_images : FnScope N_law_images ["d", "btree", "ttree", "images"] (defScope st_law_images) := ⟨rfl, rfl, rfl, by decide +kernel, rfl, by decide +kernel, by decide +kernel⟩
theorem ok_law_images (T : Txt K mg Z) : FnOk P w K mg base CX0 6 Z.f_law_images Z.fd_law_images ["d", "btree", "ttree", "images"] (toSp K S_law_images) :=
  fn_of (N := N_law_images) (B := B_law_images) (a := a_law_images) (k := 5) T.law_images.fn sc_law_images (by decide) (fun cdv A outer s H E hr => have sc := sc_law_images; by
    unfold a_law_images law_images_0_0 law_images_0_1 law_images_0_2 law_images_0_3 law_images_0_4 law_images_0_5 law_images_0_6 law_images_4_0 law_images_5_0 law_images_3_0 law_images_2_0 law_images_1_0
    exact (ass_cons (as_set (i := 4) sc.nd rfl (Or.inl rfl) (ae_add (ae_fn (ok_law_variables T) (hr.mono (by decide)) rfl T.law_variables.mg T.law_variables.kp T.law_variables.bi (aa_consD (ae_ix hr (av 2) ae_int) aa_nil)) (ae_lst (aa_consD ae_int (aa_consD ae_int aa_nil)))))
      (ass_cons (as_if (AW.at' (aw_or (at_not (at_tru (ae_fn (ok_law_asks T) (hr.mono (by decide)) rfl T.law_asks.mg T.law_asks.kp T.law_asks.bi (aa_consD (av 1) (aa_consD (av 2) (aa_consD (av 3) aa_nil)))))) (aw_or1 (at_not (at_tru (ae_fn (ok_law_told T) (hr.mono (by decide)) rfl T.law_told.mg T.law_told.kp T.law_told.bi (aa_consD (av 1) (aa_consD (av 2) (aa_consD (ae_add (av 3) (ae_tup (aa_consD ae_int aa_nil))) (aa_consD ae_bl aa_nil)))))))))) (ass_one (as_ret ae_bl)) ass_nil)
      (ass_cons (as_if (at_eq hr (ae_rdB call_len (rs_len _) rfl T.no_len (by decide +kernel) (av 3)) ae_int) (ass_one (as_ret ae_bl)) ass_nil)
      (ass_cons (as_if (at_not (at_tru (ae_fn (ok_law_told T) (hr.mono (by decide)) rfl T.law_told.mg T.law_told.kp T.law_told.bi (aa_consD (av 1) (aa_consD (av 2) (aa_consD (ae_sl (av 3) ao_none (ao_some (ae_neg ae_int))) (aa_consD ae_bl aa_nil))))))) (ass_one (as_ret ae_bl)) ass_nil)
      (ass_cons (as_for .never rfl (ai_range1 rfl T.no_range (aa_consD ae_int aa_nil)) (ag_name 5 sc.nd rfl (Or.inl rfl)) (ass_one (as_if (at_not (at_tru (ae_fn (ok_law_asks T) (hr.mono (by decide)) rfl T.law_asks.mg T.law_asks.kp T.law_asks.bi (aa_consD (av 1) (aa_consD (av 2) (aa_consD (ae_fn (ok_law_other T) (hr.mono (by decide)) rfl T.law_other.mg T.law_other.kp T.law_other.bi (aa_cons (av 0) (aa_consD (av 3) (aa_consD (av 4) aa_nil)))) aa_nil)))))) (ass_one (as_ret ae_bl)) ass_nil)))
      (ass_cons (as_set (i := 6) sc.nd rfl (Or.inl rfl) (ae_fn (ok_law_draw T) (hr.mono (by decide)) rfl T.law_draw.mg T.law_draw.kp T.law_draw.bi (aa_cons (av 0) (aa_consD (ae_rdB call_len (rs_len _) rfl T.no_len (by decide +kernel) (av 3)) aa_nil))))
      (ass_one (as_ret (ae_fn (ok_law_told T) (hr.mono (by decide)) rfl T.law_told.mg T.law_told.kp T.law_told.bi (aa_consD (av 1) (aa_consD (av 2) (aa_consD (ae_add (ae_add (ae_sl (av 3) ao_none (ao_some (av 6))) (ae_tup (aa_consD (ae_neg ae_int) aa_nil))) (ae_sl (av 3) (ao_some (ae_add (av 6) ae_int)) ao_none)) (aa_consD ae_bl aa_nil)))))))))))))) p_law_images
abbrev N_law_trees : List Str := ["d", "btree", "ttree", "images", "at", "less", "menu", "term", "spans", "inner", "outer", "other", "wide", "span"]
theorem sc_law_trees : FnScope N_law_trees ["d", "btree", "ttree", "images"] (defScope st_law_trees) := ⟨rfl, rfl, rfl, by decide +kernel, rfl, by decide +kernel, by decide +kernel⟩
theorem ok_law_trees (T : Txt K mg Z) : FnOk P w K mg base CX0 6 Z.f_law_trees Z.fd_law_trees ["d", "btree", "ttree", "images"] (toSp K S_law_trees) :=
  fn_of (N := N_law_trees) (B := B_law_trees) (a := a_law_trees) (k := 5) T.law_trees.fn sc_law_trees (by decide) (fun cdv A outer s H E hr => have sc := sc_law_trees; by
    unfold a_law_trees law_trees_0_0 law_trees_0_1 law_trees_0_2 law_trees_0_3 law_trees_0_4 law_trees_0_5 law_trees_0_6 law_trees_4_0 law_trees_4_1 law_trees_4_2 law_trees_4_3 law_trees_5_0 law_trees_2_0 law_trees_2_1 law_trees_2_2 law_trees_2_3 law_trees_2_4 law_trees_3_0 law_trees_1_0
    exact (ass_cons (as_set (i := 4) sc.nd rfl (Or.inl rfl) (ae_fn (ok_law_draw T) (hr.mono (by decide)) rfl T.law_draw.mg T.law_draw.kp T.law_draw.bi (aa_cons (av 0) (aa_consD (ae_rdB call_len (rs_len _) rfl T.no_len (by decide +kernel) (ae_ix hr (av 2) ae_int)) aa_nil))))
      (ass_cons (as_set (i := 5) sc.nd rfl (Or.inl rfl) (ae_add (ae_tup (aa_consD (ae_add (ae_sl (ae_ix hr (av 2) ae_int) ao_none (ao_some (av 4))) (ae_sl (ae_ix hr (av 2) ae_int) (ao_some (ae_add (av 4) ae_int)) ao_none)) aa_nil)) (ae_sl (av 2) (ao_some ae_int) ao_none)))
      (ass_cons (as_if (at_not (at_tru (ae_fn (ok_law_asks T) (hr.mono (by decide)) rfl T.law_asks.mg T.law_asks.kp T.law_asks.bi (aa_consD (av 1) (aa_consD (av 5) (aa_consD (av 3) aa_nil)))))) (ass_one (as_ret ae_bl)) ass_nil)
      (ass_cons (as_set (i := 6) sc.nd rfl (Or.inl rfl) (ae_lst (aa_consD (ae_tup (aa_consD ae_int (aa_consD ae_int aa_nil))) (aa_consD (ae_tup (aa_consD ae_int (aa_consD ae_int aa_nil))) (aa_consD (ae_tup (aa_consD ae_int (aa_consD ae_int aa_nil))) (aa_consD (ae_tup (aa_consD ae_int (aa_consD ae_int aa_nil))) (aa_consD (ae_tup (aa_consD ae_int (aa_consD ae_int aa_nil))) aa_nil)))))))
      (ass_cons (as_for .never rfl (ai_seq (ae_sl (ae_fn (ok_law_variables T) (hr.mono (by decide)) rfl T.law_variables.mg T.law_variables.kp T.law_variables.bi (aa_consD (ae_ix hr (av 1) ae_int) aa_nil)) ao_none (ao_some ae_int))) (ag_name 7 sc.nd rfl (Or.inr rfl)) (ass_cons (as_set (i := 8) sc.nd rfl (Or.inl rfl) (ae_add (ae_rdT call_tuple_of (rs_tuple _) rfl T.no_tuple (by decide +kernel) (ae_lc (own := [("span", 13)]) rfl sc.nd (ai_seq (ae_ix hr (av 1) ae_int)) (blkOk_by (own := [("span", 13)]) (N := N_law_trees) (sc := (defScope st_law_trees)) (by decide +kernel)) gloc_name (fun _ _ _ _ _ => (ag_name 13 sc.nd rfl (Or.inl rfl))) (fun _ _ _ _ _ => (ats_one (at_ne hr (ae_ix hr (av 13) ae_int) (av 7)))) (fun _ _ _ _ _ => (av 13)))) (ae_tup (aa_consD (ae_add (ae_tup (aa_consD (av 7) aa_nil)) (ae_fn (ok_law_pick T) (hr.mono (by decide)) rfl T.law_pick.mg T.law_pick.kp T.law_pick.bi (aa_cons (av 0) (aa_consD (av 6) aa_nil)))) aa_nil))))
      (ass_cons (as_setLc (i := 9) (own := [("span", 13)]) rfl sc.nd rfl rfl (sw_true rfl rfl rfl (by decide +kernel)) (ai_seq (av 8)) (blkOk_by (own := [("span", 13)]) (N := N_law_trees) (sc := (defScope st_law_trees)) (by decide +kernel)) gloc_name (fun _ _ _ _ _ => (ag_name 13 sc.nd rfl (Or.inl rfl))) (fun _ _ _ _ _ => (ats_one (at_gt (ae_ix hr (av 13) ae_int) (av 7)))) (fun _ _ _ _ _ => (av 13)))
      (ass_cons (as_setLc (i := 10) (own := [("span", 13)]) rfl sc.nd rfl rfl (sw_true rfl rfl rfl (by decide +kernel)) (ai_seq (av 8)) (blkOk_by (own := [("span", 13)]) (N := N_law_trees) (sc := (defScope st_law_trees)) (by decide +kernel)) gloc_name (fun _ _ _ _ _ => (ag_name 13 sc.nd rfl (Or.inl rfl))) (fun _ _ _ _ _ => (ats_one (at_lt (ae_ix hr (av 13) ae_int) (av 7)))) (fun _ _ _ _ _ => (av 13)))
      (ass_cons (as_set (i := 8) sc.nd rfl (Or.inl rfl) (ae_rdT call_tuple_of (rs_tuple _) rfl T.no_tuple (by decide +kernel) (ae_add (ae_add (av 9) (ae_lc (own := [("span", 13)]) rfl sc.nd (ai_seq (av 8)) (blkOk_by (own := [("span", 13)]) (N := N_law_trees) (sc := (defScope st_law_trees)) (by decide +kernel)) gloc_name (fun _ _ _ _ _ => (ag_name 13 sc.nd rfl (Or.inl rfl))) (fun _ _ _ _ _ => (ats_one (at_eq hr (ae_ix hr (av 13) ae_int) (av 7)))) (fun _ _ _ _ _ => (av 13)))) (av 10))))
      (ass_one (as_if (at_not (at_tru (ae_fn (ok_law_asks T) (hr.mono (by decide)) rfl T.law_asks.mg T.law_asks.kp T.law_asks.bi (aa_consD (ae_tup (aa_consD (ae_ix hr (av 1) ae_int) (aa_consD (ae_ix hr (av 1) ae_int) (aa_consD (av 8) (aa_consD (ae_ix hr (av 1) ae_int) aa_nil))))) (aa_consD (av 2) (aa_consD (av 3) aa_nil)))))) (ass_one (as_ret ae_bl)) ass_nil)))))))
      (ass_cons (as_if (at_gt (ae_rdB call_len (rs_len _) rfl T.no_len (by decide +kernel) (ae_ix hr (av 2) ae_int)) ae_int) (ass_cons (as_set (i := 4) sc.nd rfl (Or.inl rfl) (ae_fn (ok_law_draw T) (hr.mono (by decide)) rfl T.law_draw.mg T.law_draw.kp T.law_draw.bi (aa_cons (av 0) (aa_consD (ae_rdB call_len (rs_len _) rfl T.no_len (by decide +kernel) (ae_ix hr (av 2) ae_int)) aa_nil))))
      (ass_cons (as_set (i := 11) sc.nd rfl (Or.inl rfl) (ae_fn (ok_law_pick T) (hr.mono (by decide)) rfl T.law_pick.mg T.law_pick.kp T.law_pick.bi (aa_cons (av 0) (aa_consD (ae_add (ae_fn (ok_law_variables T) (hr.mono (by decide)) rfl T.law_variables.mg T.law_variables.kp T.law_variables.bi (aa_consD (ae_ix hr (av 2) ae_int) aa_nil)) (ae_lst (aa_consD ae_int (aa_consD ae_int aa_nil)))) aa_nil))))
      (ass_cons (as_set (i := 12) sc.nd rfl (Or.inl rfl) (ae_add (ae_add (ae_sl (ae_ix hr (av 2) ae_int) ao_none (ao_some (av 4))) (ae_tup (aa_consD (av 11) aa_nil))) (ae_sl (ae_ix hr (av 2) ae_int) (ao_some (ae_add (av 4) ae_int)) ao_none)))
      (ass_one (as_if (at_not (at_tru (ae_fn (ok_law_asks T) (hr.mono (by decide)) rfl T.law_asks.mg T.law_asks.kp T.law_asks.bi (aa_consD (av 1) (aa_consD (ae_add (ae_sl (av 2) ao_none (ao_some ae_int)) (ae_tup (aa_consD (av 12) aa_nil))) (aa_consD (av 3) aa_nil)))))) (ass_one (as_ret ae_bl)) ass_nil))))) ass_nil)
      (ass_one (as_ret (ae_fn (ok_law_asks T) (hr.mono (by decide)) rfl T.law_asks.mg T.law_asks.kp T.law_asks.bi (aa_consD (av 1) (aa_consD (ae_add (ae_sl (av 2) ao_none (ao_some ae_int)) (ae_tup (aa_consD (ae_add (ae_ix hr (av 2) ae_int) (ae_tup (aa_consD ae_int aa_nil))) aa_nil))) (aa_consD (av 3) aa_nil))))))))))))) p_law_trees
abbrev N_law_far : List Str := ["d", "turn", "plain", "images", "btree", "ttree", "line", "paths"]
theorem sc_law_far : FnScope N_law_far ["d"] (defScope st_law_far) := ⟨rfl, rfl, rfl, by decide +kernel, rfl, by decide +kernel, by decide +kernel⟩
theorem ok_law_far (T : Txt K mg Z) : FnOk P w K mg base CX0 7 Z.f_law_far Z.fd_law_far ["d"] (toSp K S_law_far) :=
  fn_of (N := N_law_far) (B := B_law_far) (a := a_law_far) (k := 6) T.law_far.fn sc_law_far (by decide) (fun cdv A outer s H E hr => have sc := sc_law_far; by
    unfold a_law_far law_far_0_0 law_far_0_1 law_far_0_2 law_far_0_3 law_far_0_4 law_far_1_0 law_far_2_0
    exact (ass_cons (as_asg (ae_fn (ok_law_chain T) (hr.mono (by decide)) rfl T.law_chain.mg T.law_chain.kp T.law_chain.bi (aa_cons (av 0) aa_nil)) (ag_tup rfl (ags_cons (ag_name 4 sc.nd rfl (Or.inl rfl)) (ags_cons (ag_name 5 sc.nd rfl (Or.inl rfl)) (ags_cons (ag_name 6 sc.nd rfl (Or.inl rfl)) (ags_cons (ag_name 7 sc.nd rfl (Or.inl rfl)) ags_nil))))))
      (ass_cons (as_for .never rfl (ai_range1 rfl T.no_range (aa_consD ae_int aa_nil)) (ag_name 1 sc.nd rfl (Or.inl rfl)) (ass_one (as_if (at_not (at_tru (ae_fn (ok_law_images T) (hr.mono (by decide)) rfl T.law_images.mg T.law_images.kp T.law_images.bi (aa_cons (av 0) (aa_consD (av 4) (aa_consD (av 5) (aa_consD (ae_rdT call_tuple_of (rs_tuple _) rfl T.no_tuple (by decide +kernel) (ae_fn (ok_law_pick T) (hr.mono (by decide)) rfl T.law_pick.mg T.law_pick.kp T.law_pick.bi (aa_cons (av 0) (aa_consD (av 7) aa_nil)))) aa_nil))))))) (ass_one (as_ret ae_bl)) ass_nil)))
      (ass_cons (as_set (i := 2) sc.nd rfl (Or.inl rfl) (ae_tup (aa_consD (ae_ix hr (av 4) ae_int) (aa_consD (ae_ix hr (av 4) ae_int) (aa_consD (ae_tup aa_nil) (aa_consD (ae_tup aa_nil) aa_nil))))))
      (ass_cons (as_set (i := 3) sc.nd rfl (Or.inl rfl) (ae_rdT call_tuple_of (rs_tuple _) rfl T.no_tuple (by decide +kernel) (ae_fn (ok_law_pick T) (hr.mono (by decide)) rfl T.law_pick.mg T.law_pick.kp T.law_pick.bi (aa_cons (av 0) (aa_consD (av 7) aa_nil)))))
      (ass_one (as_ret (ae_and (ae_fn (ok_law_told T) (hr.mono (by decide)) rfl T.law_told.mg T.law_told.kp T.law_told.bi (aa_consD (av 2) (aa_consD (ae_add (ae_sl (av 5) ao_none (ao_some ae_int)) (ae_tup (aa_consD (ae_tup aa_nil) aa_nil))) (aa_consD (av 3) (aa_consD ae_bl aa_nil))))) (ae_one (ae_fn (ok_law_trees T) (hr.mono (by decide)) rfl T.law_trees.mg T.law_trees.kp T.law_trees.bi (aa_cons (av 0) (aa_consD (av 4) (aa_consD (av 5) (aa_consD (av 3) aa_nil)))))))))))))) p_law_far
abbrev N_law_unlike : List Str := ["row", "told", "thing"]
theorem sc_law_unlike : FnScope N_law_unlike ["row"] (defScope st_law_unlike) := ⟨rfl, rfl, rfl, by decide +kernel, rfl, by decide +kernel, by decide +kernel⟩
theorem ok_law_unlike (T : Txt K mg Z) : FnOk P w K mg base CX0 1 Z.f_law_unlike Z.fd_law_unlike ["row"] (toSp K S_law_unlike) :=
  fn_of (N := N_law_unlike) (B := B_law_unlike) (a := a_law_unlike) (k := 0) T.law_unlike.fn sc_law_unlike (by decide) (fun cdv A outer s H E hr => have sc := sc_law_unlike; by
    unfold a_law_unlike law_unlike_0_0 law_unlike_0_1 law_unlike_0_2 law_unlike_1_0 law_unlike_2_0
    exact (ass_cons (as_set (i := 1) sc.nd rfl (Or.inl rfl) (ae_lst aa_nil))
      (ass_cons (as_for .never rfl (ai_seq (av 0)) (ag_name 2 sc.nd rfl (Or.inl rfl)) (ass_one (as_if (at_notIn hr (av 2) (av 1)) (ass_one (as_expr (ae_mut 1 PySem.F.slot_list_append PySem.F.type_list_append mt_append (ms_append _) (aa_consD (av 2) aa_nil)))) ass_nil)))
      (ass_one (as_ret (av 1)))))) p_law_unlike
abbrev N_law_asked : List Str := ["d", "tables", "many", "terms", "told", "turn", "name", "width", "place"]
theorem sc_law_asked : FnScope N_law_asked ["d", "tables", "many", "terms"] (defScope st_law_asked) := ⟨rfl, rfl, rfl, by decide +kernel, rfl, by decide +kernel, by decide +kernel⟩
theorem ok_law_asked (T : Txt K mg Z) : FnOk P w K mg base CX0 3 Z.f_law_asked Z.fd_law_asked ["d", "tables", "many", "terms"] (toSp K S_law_asked) :=
  fn_of (N := N_law_asked) (B := B_law_asked) (a := a_law_asked) (k := 2) T.law_asked.fn sc_law_asked (by decide) (fun cdv A outer s H E hr => have sc := sc_law_asked; by
    unfold a_law_asked law_asked_0_0 law_asked_0_1 law_asked_0_2 law_asked_1_0 law_asked_1_1
    exact (ass_cons (as_set (i := 4) sc.nd rfl (Or.inl rfl) (ae_lst aa_nil))
      (ass_cons (as_for .never rfl (ai_range1 rfl T.no_range (aa_consD (av 2) aa_nil)) (ag_name 5 sc.nd rfl (Or.inl rfl)) (ass_cons (as_asg (ae_fn (ok_law_pick T) (hr.mono (by decide)) rfl T.law_pick.mg T.law_pick.kp T.law_pick.bi (aa_cons (av 0) (aa_consD (av 1) aa_nil))) (ag_tup rfl (ags_cons (ag_name 6 sc.nd rfl (Or.inl rfl)) (ags_cons (ag_name 7 sc.nd rfl (Or.inl rfl)) ags_nil))))
      (ass_one (as_expr (ae_mut 4 PySem.F.slot_list_append PySem.F.type_list_append mt_append (ms_append _) (aa_consD (ae_tup (aa_consD (av 6) (aa_consD (ae_rdT call_tuple_of (rs_tuple _) rfl T.no_tuple (by decide +kernel) (ae_lc (own := [("place", 8)]) rfl sc.nd (ai_range1 rfl T.no_range (aa_consD (av 7) aa_nil)) (blkOk_by (own := [("place", 8)]) (N := N_law_asked) (sc := (defScope st_law_asked)) (by decide +kernel)) gloc_name (fun _ _ _ _ _ => (ag_name 8 sc.nd rfl (Or.inl rfl))) (fun _ _ _ _ _ => ats_nil) (fun _ _ _ _ _ => (ae_fn (ok_law_pick T) (hr.mono (by decide)) rfl T.law_pick.mg T.law_pick.kp T.law_pick.bi (aa_cons (av 0) (aa_consD (av 3) aa_nil)))))) aa_nil))) aa_nil))))))
      (ass_one (as_ret (ae_fn (ok_law_unlike T) (hr.mono (by decide)) rfl T.law_unlike.mg T.law_unlike.kp T.law_unlike.bi (aa_consD (av 4) aa_nil))))))) p_law_asked
abbrev N_law_bent : List Str := ["d", "trows", "twide", "marks", "way", "standing", "less", "left", "at", "term"]
theorem sc_law_bent : FnScope N_law_bent ["d", "trows", "twide", "marks"] (defScope st_law_bent) := ⟨rfl, rfl, rfl, by decide +kernel, rfl, by decide +kernel, by decide +kernel⟩
theorem ok_law_bent (T : Txt K mg Z) : FnOk P w K mg base CX0 3 Z.f_law_bent Z.fd_law_bent ["d", "trows", "twide", "marks"] (toSp K S_law_bent) :=
  fn_of (N := N_law_bent) (B := B_law_bent) (a := a_law_bent) (k := 2) T.law_bent.fn sc_law_bent (by decide) (fun cdv A outer s H E hr => have sc := sc_law_bent; by
    unfold a_law_bent law_bent_0_0 law_bent_0_1 law_bent_0_2 law_bent_0_3 law_bent_0_4 law_bent_0_5 law_bent_4_0 law_bent_3_0 law_bent_3_1 law_bent_1_0 law_bent_1_1 law_bent_1_2 law_bent_2_0
    exact (ass_cons (as_set (i := 4) sc.nd rfl (Or.inl rfl) (ae_fn (ok_law_draw T) (hr.mono (by decide)) rfl T.law_draw.mg T.law_draw.kp T.law_draw.bi (aa_cons (av 0) (aa_consD ae_int aa_nil))))
      (ass_cons (as_set (i := 5) sc.nd rfl (Or.inl rfl) (ae_add (ae_fn (ok_law_variables T) (hr.mono (by decide)) rfl T.law_variables.mg T.law_variables.kp T.law_variables.bi (aa_consD (av 1) aa_nil)) (av 3)))
      (ass_cons (as_if (AW.at' (aw_and (at_eq hr (av 4) ae_int) (aw_and1 (at_gt (ae_rdB call_len (rs_len _) rfl T.no_len (by decide +kernel) (av 1)) ae_int)))) (ass_cons (as_set (i := 6) sc.nd rfl (Or.inl rfl) (ae_sl (ae_fn (ok_law_mixed T) (hr.mono (by decide)) rfl T.law_mixed.mg T.law_mixed.kp T.law_mixed.bi (aa_cons (av 0) (aa_consD (av 1) aa_nil))) (ao_some ae_int) ao_none))
      (ass_cons (as_set (i := 7) sc.nd rfl (Or.inr rfl) (ae_fn (ok_law_variables T) (hr.mono (by decide)) rfl T.law_variables.mg T.law_variables.kp T.law_variables.bi (aa_consD (av 6) aa_nil)))
      (ass_one (as_if (at_tru (ae_rdB (cr_all rfl) (rs_all _) rfl T.no_all (by decide +kernel) (ae_lc (own := [("term", 9)]) rfl sc.nd (ai_seq (av 2)) (blkOk_by (own := [("term", 9)]) (N := N_law_bent) (sc := (defScope st_law_bent)) (by decide +kernel)) gloc_name (fun _ _ _ _ _ => (ag_name 9 sc.nd rfl (Or.inl rfl))) (fun _ _ _ _ _ => (ats_one (at_lt (av 9) ae_int))) (fun _ _ _ _ _ => (ae_in hr (av 9) (av 7)))))) (ass_one (as_ret (ae_tup (aa_consD (av 6) (aa_consD (av 2) aa_nil))))) ass_nil)))) ass_nil)
      (ass_cons (as_if (AW.at' (aw_and (at_eq hr (av 4) ae_int) (aw_and1 (at_gt (ae_rdB call_len (rs_len _) rfl T.no_len (by decide +kernel) (av 2)) ae_int)))) (ass_cons (as_set (i := 8) sc.nd rfl (Or.inl rfl) (ae_fn (ok_law_draw T) (hr.mono (by decide)) rfl T.law_draw.mg T.law_draw.kp T.law_draw.bi (aa_cons (av 0) (aa_consD (ae_rdB call_len (rs_len _) rfl T.no_len (by decide +kernel) (av 2)) aa_nil))))
      (ass_one (as_ret (ae_tup (aa_consD (av 1) (aa_consD (ae_add (ae_add (ae_sl (av 2) ao_none (ao_some (av 8))) (ae_tup (aa_consD (ae_fn (ok_law_pick T) (hr.mono (by decide)) rfl T.law_pick.mg T.law_pick.kp T.law_pick.bi (aa_cons (av 0) (aa_consD (av 5) aa_nil))) aa_nil))) (ae_sl (av 2) (ao_some (ae_add (av 8) ae_int)) ao_none)) aa_nil)))))) ass_nil)
      (ass_cons (as_if (at_eq hr (av 4) ae_int) (ass_one (as_ret (ae_tup (aa_consD (av 1) (aa_consD (ae_add (av 2) (ae_tup (aa_consD (ae_fn (ok_law_pick T) (hr.mono (by decide)) rfl T.law_pick.mg T.law_pick.kp T.law_pick.bi (aa_cons (av 0) (aa_consD (av 5) aa_nil))) aa_nil))) aa_nil))))) ass_nil)
      (ass_one (as_ret (ae_if (at_eq hr (av 4) ae_int) (ae_tup (aa_consD (av 1) (aa_consD (ae_sl (av 2) ao_none (ao_some (ae_neg ae_int))) aa_nil))) (ae_tup (aa_consD (av 1) (aa_consD (av 2) aa_nil)))))))))))) p_law_bent
abbrev N_law_scene : List Str := ["d", "tables", "low", "high", "marks", "cells", "pool", "rows", "met", "images", "names", "term", "trows", "wide", "tspans", "standing", "tnots", "ttree", "spans", "nots", "twide", "way", "menu", "name", "row", "first", "last", "place", "span"]
theorem sc_law_scene : FnScope N_law_scene ["d"] (defScope st_law_scene) := ⟨rfl, rfl, rfl, by decide +kernel, rfl, by decide +kernel, by decide +kernel⟩
theorem ok_law_scene (T : Txt K mg Z) : FnOk P w K mg base CX0 4 Z.f_law_scene Z.fd_law_scene ["d"] (toSp K S_law_scene) :=
  fn_of (N := N_law_scene) (B := B_law_scene) (a := a_law_scene) (k := 3) T.law_scene.fn sc_law_scene (by decide) (fun cdv A outer s H E hr => have sc := sc_law_scene; by
    unfold a_law_scene law_scene_0_0 law_scene_0_1 law_scene_0_2 law_scene_0_3 law_scene_0_4 law_scene_0_5 law_scene_0_6 law_scene_0_7 law_scene_0_8 law_scene_0_9 law_scene_0_10 law_scene_0_11 law_scene_0_12 law_scene_0_13 law_scene_0_14 law_scene_0_15 law_scene_0_16 law_scene_0_17 law_scene_0_18 law_scene_0_19 law_scene_0_20 law_scene_0_21 law_scene_0_22 law_scene_0_23 law_scene_4_0 law_scene_4_1 law_scene_4_2 law_scene_4_3 law_scene_4_4 law_scene_6_0 law_scene_5_0 law_scene_2_0 law_scene_2_1 law_scene_3_0 law_scene_1_0
    exact (ass_cons (as_setLc (i := 1) (own := [("name", 23)]) rfl sc.nd rfl rfl (sw_true rfl rfl rfl (by decide +kernel)) (ai_seq (ae_fn (ok_law_names T) (hr.mono (by decide)) rfl T.law_names.mg T.law_names.kp T.law_names.bi (aa_cons (av 0) (aa_consD (ae_add ae_int (ae_fn (ok_law_draw T) (hr.mono (by decide)) rfl T.law_draw.mg T.law_draw.kp T.law_draw.bi (aa_cons (av 0) (aa_consD ae_int aa_nil)))) aa_nil)))) (blkOk_by (own := [("name", 23)]) (N := N_law_scene) (sc := (defScope st_law_scene)) (by decide +kernel)) gloc_name (fun _ _ _ _ _ => (ag_name 23 sc.nd rfl (Or.inl rfl))) (fun _ _ _ _ _ => ats_nil) (fun _ _ _ _ _ => (ae_tup (aa_consD (av 23) (aa_consD (ae_add ae_int (ae_fn (ok_law_draw T) (hr.mono (by decide)) rfl T.law_draw.mg T.law_draw.kp T.law_draw.bi (aa_cons (av 0) (aa_consD ae_int aa_nil)))) aa_nil)))))
      (ass_cons (as_set (i := 2) sc.nd rfl (Or.inl rfl) (ae_mul ae_int (ae_add ae_int (ae_fn (ok_law_draw T) (hr.mono (by decide)) rfl T.law_draw.mg T.law_draw.kp T.law_draw.bi (aa_cons (av 0) (aa_consD ae_int aa_nil))))))
      (ass_cons (as_set (i := 3) sc.nd rfl (Or.inl rfl) (ae_add (av 2) (ae_mul ae_int (ae_add ae_int (ae_fn (ok_law_draw T) (hr.mono (by decide)) rfl T.law_draw.mg T.law_draw.kp T.law_draw.bi (aa_cons (av 0) (aa_consD ae_int aa_nil)))))))
      (ass_cons (as_set (i := 4) sc.nd rfl (Or.inr rfl) (ae_lst (aa_consD (ae_mul ae_int (ae_add ae_int (ae_fn (ok_law_draw T) (hr.mono (by decide)) rfl T.law_draw.mg T.law_draw.kp T.law_draw.bi (aa_cons (av 0) (aa_consD ae_int aa_nil))))) (aa_consD (ae_add (av 2) (ae_mul ae_int (ae_add ae_int (ae_fn (ok_law_draw T) (hr.mono (by decide)) rfl T.law_draw.mg T.law_draw.kp T.law_draw.bi (aa_cons (av 0) (aa_consD ae_int aa_nil)))))) aa_nil))))
      (ass_cons (as_set (i := 5) sc.nd rfl (Or.inl rfl) (ae_lst (aa_consD (ae_tup (aa_consD ae_int (aa_consD (av 2) aa_nil))) (aa_consD (ae_tup (aa_consD (av 2) (aa_consD (av 3) aa_nil))) (aa_consD (ae_tup (aa_consD (av 3) (aa_consD ae_int aa_nil))) aa_nil)))))
      (ass_cons (as_set (i := 6) sc.nd rfl (Or.inl rfl) (ae_fn (ok_law_pool T) (hr.mono (by decide)) rfl T.law_pool.mg T.law_pool.kp T.law_pool.bi (aa_cons (av 0) (aa_consD (ae_add ae_int (ae_fn (ok_law_draw T) (hr.mono (by decide)) rfl T.law_draw.mg T.law_draw.kp T.law_draw.bi (aa_cons (av 0) (aa_consD ae_int aa_nil)))) aa_nil))))
      (ass_cons (as_set (i := 7) sc.nd rfl (Or.inl rfl) (ae_fn (ok_law_asked T) (hr.mono (by decide)) rfl T.law_asked.mg T.law_asked.kp T.law_asked.bi (aa_cons (av 0) (aa_consD (av 1) (aa_consD (ae_add ae_int (ae_fn (ok_law_draw T) (hr.mono (by decide)) rfl T.law_draw.mg T.law_draw.kp T.law_draw.bi (aa_cons (av 0) (aa_consD ae_int aa_nil)))) (aa_consD (ae_add (ae_add (av 6) (av 6)) (ae_sl (av 4) ao_none (ao_some (ae_fn (ok_law_draw T) (hr.mono (by decide)) rfl T.law_draw.mg T.law_draw.kp T.law_draw.bi (aa_cons (av 0) (aa_consD ae_int aa_nil)))))) aa_nil))))))
      (ass_cons (as_set (i := 8) sc.nd rfl (Or.inr rfl) (ae_fn (ok_law_variables T) (hr.mono (by decide)) rfl T.law_variables.mg T.law_variables.kp T.law_variables.bi (aa_consD (av 7) aa_nil)))
      (ass_cons (as_set (i := 9) sc.nd rfl (Or.inl rfl) (ae_add (ae_fn (ok_law_pool T) (hr.mono (by decide)) rfl T.law_pool.mg T.law_pool.kp T.law_pool.bi (aa_cons (av 0) (aa_consD ae_int aa_nil))) (av 4)))
      (ass_cons (as_set (i := 10) sc.nd rfl (Or.inr rfl) ae_newK)
      (ass_cons (as_for .never rfl (ai_seq (av 8)) (ag_name 11 sc.nd rfl (Or.inl rfl)) (ass_one (as_asg (ae_fn (ok_law_pick T) (hr.mono (by decide)) rfl T.law_pick.mg T.law_pick.kp T.law_pick.bi (aa_cons (av 0) (aa_consD (av 9) aa_nil))) (ag_sub hr (av 10) (av 11)))))
      (ass_cons (as_set (i := 12) sc.nd rfl (Or.inr rfl) (ae_lc (own := [("row", 24)]) rfl sc.nd (ai_seq (av 7)) (blkOk_by (own := [("row", 24)]) (N := N_law_scene) (sc := (defScope st_law_scene)) (by decide +kernel)) gloc_name (fun _ _ _ _ _ => (ag_name 24 sc.nd rfl (Or.inl rfl))) (fun _ _ _ _ _ => ats_nil) (fun _ _ _ _ _ => (ae_tup (aa_consD (ae_ix hr (av 24) ae_int) (aa_consD (ae_fn (ok_law_laid T) (hr.mono (by decide)) rfl T.law_laid.mg T.law_laid.kp T.law_laid.bi (aa_consD (ae_ix hr (av 24) ae_int) (aa_consD (av 10) aa_nil))) aa_nil))))))
      (ass_cons (as_set (i := 12) sc.nd rfl (Or.inr rfl) (ae_fn (ok_law_mixed T) (hr.mono (by decide)) rfl T.law_mixed.mg T.law_mixed.kp T.law_mixed.bi (aa_cons (av 0) (aa_consD (ae_fn (ok_law_unlike T) (hr.mono (by decide)) rfl T.law_unlike.mg T.law_unlike.kp T.law_unlike.bi (aa_consD (ae_add (av 12) (ae_fn (ok_law_asked T) (hr.mono (by decide)) rfl T.law_asked.mg T.law_asked.kp T.law_asked.bi (aa_cons (av 0) (aa_consD (av 1) (aa_consD (ae_fn (ok_law_draw T) (hr.mono (by decide)) rfl T.law_draw.mg T.law_draw.kp T.law_draw.bi (aa_cons (av 0) (aa_consD ae_int aa_nil))) (aa_consD (av 9) aa_nil)))))) aa_nil)) aa_nil))))
      (ass_cons (as_set (i := 13) sc.nd rfl (Or.inl rfl) (ae_rdT call_tuple_of (rs_tuple _) rfl T.no_tuple (by decide +kernel) (ae_lc (own := [("place", 27)]) rfl sc.nd (ai_range1 rfl T.no_range (aa_consD (ae_fn (ok_law_draw T) (hr.mono (by decide)) rfl T.law_draw.mg T.law_draw.kp T.law_draw.bi (aa_cons (av 0) (aa_consD ae_int aa_nil))) aa_nil)) (blkOk_by (own := [("place", 27)]) (N := N_law_scene) (sc := (defScope st_law_scene)) (by decide +kernel)) gloc_name (fun _ _ _ _ _ => (ag_name 27 sc.nd rfl (Or.inl rfl))) (fun _ _ _ _ _ => ats_nil) (fun _ _ _ _ _ => (ae_fn (ok_law_pick T) (hr.mono (by decide)) rfl T.law_pick.mg T.law_pick.kp T.law_pick.bi (aa_cons (av 0) (aa_consD (ae_add (av 8) (av 4)) aa_nil)))))))
      (ass_cons (as_asg (ae_fn (ok_law_bent T) (hr.mono (by decide)) rfl T.law_bent.mg T.law_bent.kp T.law_bent.bi (aa_cons (av 0) (aa_consD (av 12) (aa_consD (ae_fn (ok_law_laid T) (hr.mono (by decide)) rfl T.law_laid.mg T.law_laid.kp T.law_laid.bi (aa_consD (av 13) (aa_consD (av 10) aa_nil))) (aa_consD (av 4) aa_nil))))) (ag_tup rfl (ags_cons (ag_name 12 sc.nd rfl (Or.inr rfl)) (ags_cons (ag_name 20 sc.nd rfl (Or.inl rfl)) ags_nil))))
      (ass_cons (as_set (i := 14) sc.nd rfl (Or.inl rfl) (ae_lst aa_nil))
      (ass_cons (as_for .never rfl (ai_seq (ae_fn (ok_law_downward T) (hr.mono (by decide)) rfl T.law_downward.mg T.law_downward.kp T.law_downward.bi (aa_consD (ae_fn (ok_law_variables T) (hr.mono (by decide)) rfl T.law_variables.mg T.law_variables.kp T.law_variables.bi (aa_consD (av 12) aa_nil)) aa_nil))) (ag_name 11 sc.nd rfl (Or.inl rfl)) (ass_cons (as_set (i := 21) sc.nd rfl (Or.inl rfl) (ae_fn (ok_law_draw T) (hr.mono (by decide)) rfl T.law_draw.mg T.law_draw.kp T.law_draw.bi (aa_cons (av 0) (aa_consD ae_int aa_nil))))
      (ass_one (as_if (at_lt (av 21) ae_int) (ass_one (as_expr (ae_mut 14 PySem.F.slot_list_append PySem.F.type_list_append mt_append (ms_append _) (aa_consD (ae_add (ae_tup (aa_consD (av 11) aa_nil)) (ae_ix hr (av 5) (av 21))) aa_nil)))) ass_nil))))
      (ass_cons (as_set (i := 15) sc.nd rfl (Or.inl rfl) (ae_add (ae_fn (ok_law_variables T) (hr.mono (by decide)) rfl T.law_variables.mg T.law_variables.kp T.law_variables.bi (aa_consD (av 12) aa_nil)) (av 4)))
      (ass_cons (as_setLc (i := 16) (own := [("row", 24)]) rfl sc.nd rfl rfl (sw_true rfl rfl rfl (by decide +kernel)) (ai_seq (ae_fn (ok_law_asked T) (hr.mono (by decide)) rfl T.law_asked.mg T.law_asked.kp T.law_asked.bi (aa_cons (av 0) (aa_consD (av 1) (aa_consD (ae_fn (ok_law_draw T) (hr.mono (by decide)) rfl T.law_draw.mg T.law_draw.kp T.law_draw.bi (aa_cons (av 0) (aa_consD ae_int aa_nil))) (aa_consD (av 15) aa_nil)))))) (blkOk_by (own := [("row", 24)]) (N := N_law_scene) (sc := (defScope st_law_scene)) (by decide +kernel)) gloc_name (fun _ _ _ _ _ => (ag_name 24 sc.nd rfl (Or.inl rfl))) (fun _ _ _ _ _ => (ats_one (at_notIn hr (av 24) (av 12)))) (fun _ _ _ _ _ => (av 24)))
      (ass_cons (as_set (i := 17) sc.nd rfl (Or.inl rfl) (ae_tup (aa_consD (ae_rdT call_tuple_of (rs_tuple _) rfl T.no_tuple (by decide +kernel) (av 12)) (aa_consD (ae_rdT call_tuple_of (rs_tuple _) rfl T.no_tuple (by decide +kernel) (av 16)) (aa_consD (ae_rdT call_tuple_of (rs_tuple _) rfl T.no_tuple (by decide +kernel) (av 14)) (aa_consD (av 20) aa_nil))))))
      (ass_cons (as_set (i := 18) sc.nd rfl (Or.inl rfl) (ae_lst aa_nil))
      (ass_cons (as_for .never rfl (ai_seq (ae_fn (ok_law_downward T) (hr.mono (by decide)) rfl T.law_downward.mg T.law_downward.kp T.law_downward.bi (aa_consD (av 8) aa_nil))) (ag_name 11 sc.nd rfl (Or.inl rfl)) (ass_cons (as_set (i := 21) sc.nd rfl (Or.inl rfl) (ae_fn (ok_law_draw T) (hr.mono (by decide)) rfl T.law_draw.mg T.law_draw.kp T.law_draw.bi (aa_cons (av 0) (aa_consD ae_int aa_nil))))
      (ass_cons (as_asg (ae_fn (ok_law_bounds T) (hr.mono (by decide)) rfl T.law_bounds.mg T.law_bounds.kp T.law_bounds.bi (aa_consD (av 17) (aa_consD (ae_ix hr (av 10) (av 11)) aa_nil))) (ag_tup rfl (ags_cons (ag_name 25 sc.nd rfl (Or.inr rfl)) (ags_cons (ag_name 26 sc.nd rfl (Or.inr rfl)) ags_nil))))
      (ass_cons (as_set (i := 22) sc.nd rfl (Or.inl rfl) (ae_add (av 5) (ae_lst (aa_consD (ae_tup (aa_consD ae_int (aa_consD (av 3) aa_nil))) (aa_consD (ae_tup (aa_consD (av 2) (aa_consD ae_int aa_nil))) (aa_consD (ae_tup (aa_consD ae_int (aa_consD ae_int aa_nil))) aa_nil))))))
      (ass_cons (as_if (at_lt (av 21) ae_int) (ass_one (as_setLc (i := 22) (own := [("span", 28)]) rfl sc.nd rfl rfl (sw_true rfl rfl rfl (by decide +kernel)) (ai_seq (av 22)) (blkOk_by (own := [("span", 28)]) (N := N_law_scene) (sc := (defScope st_law_scene)) (by decide +kernel)) gloc_name (fun _ _ _ _ _ => (ag_name 28 sc.nd rfl (Or.inl rfl))) (fun _ _ _ _ _ => (ats_one (AW.at' (aw_and (at_le (ae_ix hr (av 28) ae_int) (av 25)) (aw_and1 (at_le (av 26) (ae_ix hr (av 28) ae_int))))))) (fun _ _ _ _ _ => (av 28)))) ass_nil)
      (ass_one (as_if (at_gt (av 21) ae_int) (ass_one (as_expr (ae_mut 18 PySem.F.slot_list_append PySem.F.type_list_append mt_append (ms_append _) (aa_consD (ae_add (ae_tup (aa_consD (av 11) aa_nil)) (ae_fn (ok_law_pick T) (hr.mono (by decide)) rfl T.law_pick.mg T.law_pick.kp T.law_pick.bi (aa_cons (av 0) (aa_consD (av 22) aa_nil)))) aa_nil)))) ass_nil)))))))
      (ass_cons (as_set (i := 19) sc.nd rfl (Or.inl rfl) (ae_fn (ok_law_asked T) (hr.mono (by decide)) rfl T.law_asked.mg T.law_asked.kp T.law_asked.bi (aa_cons (av 0) (aa_consD (av 1) (aa_consD (ae_fn (ok_law_draw T) (hr.mono (by decide)) rfl T.law_draw.mg T.law_draw.kp T.law_draw.bi (aa_cons (av 0) (aa_consD ae_int aa_nil))) (aa_consD (ae_add (ae_add (av 8) (av 8)) (av 4)) aa_nil))))))
      (ass_one (as_ret (ae_tup (aa_consD (ae_tup (aa_consD (ae_rdT call_tuple_of (rs_tuple _) rfl T.no_tuple (by decide +kernel) (av 7)) (aa_consD (ae_rdT call_tuple_of (rs_tuple _) rfl T.no_tuple (by decide +kernel) (av 19)) (aa_consD (ae_rdT call_tuple_of (rs_tuple _) rfl T.no_tuple (by decide +kernel) (av 18)) (aa_consD (av 13) aa_nil))))) (aa_consD (av 17) (aa_consD (av 10) aa_nil)))))))))))))))))))))))))))))) p_law_scene
abbrev N_law_near : List Str := ["d", "variables", "broken", "images", "btree", "ttree", "names", "term"]
theorem sc_law_near : FnScope N_law_near ["d"] (defScope st_law_near) := ⟨rfl, rfl, rfl, by decide +kernel, rfl, by decide +kernel, by decide +kernel⟩
theorem ok_law_near (T : Txt K mg Z) : FnOk P w K mg base CX0 7 Z.f_law_near Z.fd_law_near ["d"] (toSp K S_law_near) :=
  fn_of (N := N_law_near) (B := B_law_near) (a := a_law_near) (k := 6) T.law_near.fn sc_law_near (by decide) (fun cdv A outer s H E hr => have sc := sc_law_near; by
    unfold a_law_near law_near_0_0 law_near_0_1 law_near_0_2 law_near_0_3 law_near_0_4 law_near_0_5 law_near_1_0
    exact (ass_cons (as_asg (ae_fn (ok_law_scene T) (hr.mono (by decide)) rfl T.law_scene.mg T.law_scene.kp T.law_scene.bi (aa_cons (av 0) aa_nil)) (ag_tup rfl (ags_cons (ag_name 4 sc.nd rfl (Or.inl rfl)) (ags_cons (ag_name 5 sc.nd rfl (Or.inl rfl)) (ags_cons (ag_name 6 sc.nd rfl (Or.inr rfl)) ags_nil)))))
      (ass_cons (as_set (i := 1) sc.nd rfl (Or.inl rfl) (ae_rdT call_tuple_of (rs_tuple _) rfl T.no_tuple (by decide +kernel) (ae_fn (ok_law_variables T) (hr.mono (by decide)) rfl T.law_variables.mg T.law_variables.kp T.law_variables.bi (aa_consD (ae_ix hr (av 4) ae_int) aa_nil))))
      (ass_cons (as_set (i := 2) sc.nd rfl (Or.inl rfl) (ae_tup (aa_consD (ae_ix hr (av 4) ae_int) (aa_consD (ae_ix hr (av 4) ae_int) (aa_consD (ae_ix hr (av 4) ae_int) (aa_consD (ae_ix hr (av 4) ae_int) aa_nil))))))
      (ass_cons (as_if (AW.at' (aw_or (at_not (at_tru (ae_fn (ok_law_told T) (hr.mono (by decide)) rfl T.law_told.mg T.law_told.kp T.law_told.bi (aa_consD (av 4) (aa_consD (av 4) (aa_consD (av 1) (aa_consD ae_bl aa_nil))))))) (aw_or1 (at_not (at_tru (ae_fn (ok_law_told T) (hr.mono (by decide)) rfl T.law_told.mg T.law_told.kp T.law_told.bi (aa_consD (av 2) (aa_consD (av 2) (aa_consD (av 1) (aa_consD ae_bl aa_nil)))))))))) (ass_one (as_ret ae_bl)) ass_nil)
      (ass_cons (as_set (i := 3) sc.nd rfl (Or.inl rfl) (ae_rdT call_tuple_of (rs_tuple _) rfl T.no_tuple (by decide +kernel) (ae_lc (own := [("term", 7)]) rfl sc.nd (ai_seq (av 1)) (blkOk_by (own := [("term", 7)]) (N := N_law_near) (sc := (defScope st_law_near)) (by decide +kernel)) gloc_name (fun _ _ _ _ _ => (ag_name 7 sc.nd rfl (Or.inl rfl))) (fun _ _ _ _ _ => ats_nil) (fun _ _ _ _ _ => (ae_ix hr (av 6) (av 7))))))
      (ass_one (as_ret (ae_and (ae_fn (ok_law_images T) (hr.mono (by decide)) rfl T.law_images.mg T.law_images.kp T.law_images.bi (aa_cons (av 0) (aa_consD (av 4) (aa_consD (av 5) (aa_consD (av 3) aa_nil))))) (ae_one (ae_fn (ok_law_trees T) (hr.mono (by decide)) rfl T.law_trees.mg T.law_trees.kp T.law_trees.bi (aa_cons (av 0) (aa_consD (av 4) (aa_consD (av 5) (aa_consD (av 3) aa_nil))))))))))))))) p_law_near
abbrev N_law : List Str := ["script", "d"]
theorem sc_law : FnScope N_law ["script"] (defScope st_law) := ⟨rfl, rfl, rfl, by decide +kernel, rfl, by decide +kernel, by decide +kernel⟩
theorem ok_law (T : Txt K mg Z) : FnOk P w K mg base CX0 8 Z.f_law Z.fd_law ["script"] (toSp K S_law) :=
  fn_of (N := N_law) (B := B_law) (a := a_law) (k := 7) T.law.fn sc_law (by decide) (fun cdv A outer s H E hr => have sc := sc_law; by
    unfold a_law law_0_0 law_0_1 law_0_2 law_1_0
    exact (ass_cons (as_set (i := 1) sc.nd rfl (Or.inl rfl) (ae_fn (ok_law_begin T) (hr.mono (by decide)) rfl T.law_begin.mg T.law_begin.kp T.law_begin.bi (aa_consD (av 0) aa_nil)))
      (ass_cons (as_if (AW.at' (aw_or (at_not (at_tru (ae_fn (ok_law_near T) (hr.mono (by decide)) rfl T.law_near.mg T.law_near.kp T.law_near.bi (aa_cons (av 1) aa_nil)))) (aw_or1 (at_not (at_tru (ae_fn (ok_law_near T) (hr.mono (by decide)) rfl T.law_near.mg T.law_near.kp T.law_near.bi (aa_cons (av 1) aa_nil))))))) (ass_one (as_ret ae_bl)) ass_nil)
      (ass_one (as_ret (ae_or (ae_gt (ae_fn (ok_law_draw T) (hr.mono (by decide)) rfl T.law_draw.mg T.law_draw.kp T.law_draw.bi (aa_cons (av 1) (aa_consD ae_int aa_nil))) ae_int) (ae_one (ae_fn (ok_law_far T) (hr.mono (by decide)) rfl T.law_far.mg T.law_far.kp T.law_far.bi (aa_cons (av 1) aa_nil))))))))) p_law
end
/- order: _law_begin:1 _law_draw:1 _law_downward:1 _law_mixed:2 _law_pick:2 _law_names:3 _law_pool:3 _law_some:2 _law_chain:4 _law_bounds:1 _law_laid:1 _law_lays:2 _law_variables:1 _law_names_of:2 Body.tree:1 Body.__init__:1 _law_object:3 Body.span:1 is_within:2 laid:1 Body.variables:1 is_whole:1 names_from:2 is_fold:3 _law_told:4 _law_asks:5 _law_other:3 _law_images:6 _law_trees:6 _law_far:7 _law_unlike:1 _law_asked:3 _law_bent:3 _law_scene:4 _law_near:7 law:8 -/
end AL
namespace AL
open PySem L2
set_option maxHeartbeats 0 in
theorem all_mk {l : PySem.W.OpenLaw} {w : World} {K : PySem.W.Frag} {h : Heap} {mg : Str → Option Value} {fa C_Body f_law_begin f_law_draw f_law_downward f_law_mixed f_law_pick f_law_names f_law_pool f_law_some f_law_chain f_law_bounds f_law_laid f_law_lays f_law_variables f_law_names_of f_Body_tree f_Body_init f_law_object f_Body_span f_is_within f_laid f_Body_variables f_is_whole f_names_from f_is_fold f_law_told f_law_asks f_law_other f_law_images f_law_trees f_law_far f_law_unlike f_law_asked f_law_bent f_law_scene f_law_near f_law : Addr} (X : K.In h) (G : h.Ns mainGlobals mg) (hfa : mg "law" = some (.ref fa))
    {od_law_begin an_law_begin : Option Addr} {sl_law_begin : Array (Option Value)} {oc_law_begin kV_law_begin dc_law_begin pm_law_begin cd_law_begin ct_law_begin : Value}
    {od_law_draw an_law_draw : Option Addr} {sl_law_draw : Array (Option Value)} {oc_law_draw kV_law_draw dc_law_draw pm_law_draw cd_law_draw ct_law_draw : Value}
    {od_law_downward an_law_downward : Option Addr} {sl_law_downward : Array (Option Value)} {oc_law_downward kV_law_downward dc_law_downward pm_law_downward cd_law_downward ct_law_downward : Value}
    {od_law_mixed an_law_mixed : Option Addr} {sl_law_mixed : Array (Option Value)} {oc_law_mixed kV_law_mixed dc_law_mixed pm_law_mixed cd_law_mixed ct_law_mixed : Value}
    {od_law_pick an_law_pick : Option Addr} {sl_law_pick : Array (Option Value)} {oc_law_pick kV_law_pick dc_law_pick pm_law_pick cd_law_pick ct_law_pick : Value}
    {od_law_names an_law_names : Option Addr} {sl_law_names : Array (Option Value)} {oc_law_names kV_law_names dc_law_names pm_law_names cd_law_names ct_law_names : Value}
    {od_law_pool an_law_pool : Option Addr} {sl_law_pool : Array (Option Value)} {oc_law_pool kV_law_pool dc_law_pool pm_law_pool cd_law_pool ct_law_pool : Value}
    {od_law_some an_law_some : Option Addr} {sl_law_some : Array (Option Value)} {oc_law_some kV_law_some dc_law_some pm_law_some cd_law_some ct_law_some : Value}
    {od_law_chain an_law_chain : Option Addr} {sl_law_chain : Array (Option Value)} {oc_law_chain kV_law_chain dc_law_chain pm_law_chain cd_law_chain ct_law_chain : Value}
    {od_law_bounds an_law_bounds : Option Addr} {sl_law_bounds : Array (Option Value)} {oc_law_bounds kV_law_bounds dc_law_bounds pm_law_bounds cd_law_bounds ct_law_bounds : Value}
    {od_law_laid an_law_laid : Option Addr} {sl_law_laid : Array (Option Value)} {oc_law_laid kV_law_laid dc_law_laid pm_law_laid cd_law_laid ct_law_laid : Value}
    {od_law_lays an_law_lays : Option Addr} {sl_law_lays : Array (Option Value)} {oc_law_lays kV_law_lays dc_law_lays pm_law_lays cd_law_lays ct_law_lays : Value}
    {od_law_variables an_law_variables : Option Addr} {sl_law_variables : Array (Option Value)} {oc_law_variables kV_law_variables dc_law_variables pm_law_variables cd_law_variables ct_law_variables : Value}
    {od_law_names_of an_law_names_of : Option Addr} {sl_law_names_of : Array (Option Value)} {oc_law_names_of kV_law_names_of dc_law_names_of pm_law_names_of cd_law_names_of ct_law_names_of : Value}
    {od_Body_tree an_Body_tree : Option Addr} {sl_Body_tree : Array (Option Value)} {oc_Body_tree kV_Body_tree dc_Body_tree pm_Body_tree cd_Body_tree ct_Body_tree : Value}
    {od_Body_init an_Body_init : Option Addr} {sl_Body_init : Array (Option Value)} {oc_Body_init kV_Body_init dc_Body_init pm_Body_init cd_Body_init ct_Body_init : Value}
    {od_law_object an_law_object : Option Addr} {sl_law_object : Array (Option Value)} {oc_law_object kV_law_object dc_law_object pm_law_object cd_law_object ct_law_object : Value}
    {od_Body_span an_Body_span : Option Addr} {sl_Body_span : Array (Option Value)} {oc_Body_span kV_Body_span dc_Body_span pm_Body_span cd_Body_span ct_Body_span : Value}
    {od_is_within an_is_within : Option Addr} {sl_is_within : Array (Option Value)} {oc_is_within kV_is_within dc_is_within pm_is_within cd_is_within ct_is_within : Value}
    {od_laid an_laid : Option Addr} {sl_laid : Array (Option Value)} {oc_laid kV_laid dc_laid pm_laid cd_laid ct_laid : Value}
    {od_Body_variables an_Body_variables : Option Addr} {sl_Body_variables : Array (Option Value)} {oc_Body_variables kV_Body_variables dc_Body_variables pm_Body_variables cd_Body_variables ct_Body_variables : Value}
    {od_is_whole an_is_whole : Option Addr} {sl_is_whole : Array (Option Value)} {oc_is_whole kV_is_whole dc_is_whole pm_is_whole cd_is_whole ct_is_whole : Value}
    {od_names_from an_names_from : Option Addr} {sl_names_from : Array (Option Value)} {oc_names_from kV_names_from dc_names_from pm_names_from cd_names_from ct_names_from : Value}
    {od_is_fold an_is_fold : Option Addr} {sl_is_fold : Array (Option Value)} {oc_is_fold kV_is_fold dc_is_fold pm_is_fold cd_is_fold ct_is_fold : Value}
    {od_law_told an_law_told : Option Addr} {sl_law_told : Array (Option Value)} {oc_law_told kV_law_told dc_law_told pm_law_told cd_law_told ct_law_told : Value}
    {od_law_asks an_law_asks : Option Addr} {sl_law_asks : Array (Option Value)} {oc_law_asks kV_law_asks dc_law_asks pm_law_asks cd_law_asks ct_law_asks : Value}
    {od_law_other an_law_other : Option Addr} {sl_law_other : Array (Option Value)} {oc_law_other kV_law_other dc_law_other pm_law_other cd_law_other ct_law_other : Value}
    {od_law_images an_law_images : Option Addr} {sl_law_images : Array (Option Value)} {oc_law_images kV_law_images dc_law_images pm_law_images cd_law_images ct_law_images : Value}
    {od_law_trees an_law_trees : Option Addr} {sl_law_trees : Array (Option Value)} {oc_law_trees kV_law_trees dc_law_trees pm_law_trees cd_law_trees ct_law_trees : Value}
    {od_law_far an_law_far : Option Addr} {sl_law_far : Array (Option Value)} {oc_law_far kV_law_far dc_law_far pm_law_far cd_law_far ct_law_far : Value}
    {od_law_unlike an_law_unlike : Option Addr} {sl_law_unlike : Array (Option Value)} {oc_law_unlike kV_law_unlike dc_law_unlike pm_law_unlike cd_law_unlike ct_law_unlike : Value}
    {od_law_asked an_law_asked : Option Addr} {sl_law_asked : Array (Option Value)} {oc_law_asked kV_law_asked dc_law_asked pm_law_asked cd_law_asked ct_law_asked : Value}
    {od_law_bent an_law_bent : Option Addr} {sl_law_bent : Array (Option Value)} {oc_law_bent kV_law_bent dc_law_bent pm_law_bent cd_law_bent ct_law_bent : Value}
    {od_law_scene an_law_scene : Option Addr} {sl_law_scene : Array (Option Value)} {oc_law_scene kV_law_scene dc_law_scene pm_law_scene cd_law_scene ct_law_scene : Value}
    {od_law_near an_law_near : Option Addr} {sl_law_near : Array (Option Value)} {oc_law_near kV_law_near dc_law_near pm_law_near cd_law_near ct_law_near : Value}
    {od_law an_law : Option Addr} {sl_law : Array (Option Value)} {oc_law kV_law dc_law pm_law cd_law ct_law : Value}
    (aCBody : PySem.W.nsIn K mainGlobals "Body" = some (some (.ref C_Body)))
    (pgBody : PySem.W.plainGet K C_Body Str.empty = true)
    (hdBody : PySem.W.hasDictIn K C_Body = true)
    (poBody : PySem.W.plainOver K C_Body = true)
    (saBody : PySem.W.findIn K (.ref C_Body) "__setattr__" = some (some (.builtin "object.__setattr__")))
    (mkBody : PySem.W.makesIn K C_Body = true)
    (kcBody : PySem.W.keepIn K (.ref C_Body) = true)
    (a_law_begin : PySem.W.nsIn K mainGlobals "_law_begin" = some (some (.ref f_law_begin)))
    (l_law_begin : K.lookup f_law_begin = some ⟨oc_law_begin, od_law_begin, .func (PySem.W.fnOf "_law_begin" "_law_begin" (defArgs st_law_begin) (defBody st_law_begin) (defScope st_law_begin) .none kV_law_begin dc_law_begin pm_law_begin an_law_begin cd_law_begin ct_law_begin), sl_law_begin⟩)
    (c_law_begin : PySem.W.codeIn K cd_law_begin "_law_begin" = true)
    (k_law_begin : PySem.W.keepIn K (.ref f_law_begin) = true)
    (a_law_draw : PySem.W.nsIn K mainGlobals "_law_draw" = some (some (.ref f_law_draw)))
    (l_law_draw : K.lookup f_law_draw = some ⟨oc_law_draw, od_law_draw, .func (PySem.W.fnOf "_law_draw" "_law_draw" (defArgs st_law_draw) (defBody st_law_draw) (defScope st_law_draw) .none kV_law_draw dc_law_draw pm_law_draw an_law_draw cd_law_draw ct_law_draw), sl_law_draw⟩)
    (c_law_draw : PySem.W.codeIn K cd_law_draw "_law_draw" = true)
    (k_law_draw : PySem.W.keepIn K (.ref f_law_draw) = true)
    (a_law_downward : PySem.W.nsIn K mainGlobals "_law_downward" = some (some (.ref f_law_downward)))
    (l_law_downward : K.lookup f_law_downward = some ⟨oc_law_downward, od_law_downward, .func (PySem.W.fnOf "_law_downward" "_law_downward" (defArgs st_law_downward) (defBody st_law_downward) (defScope st_law_downward) .none kV_law_downward dc_law_downward pm_law_downward an_law_downward cd_law_downward ct_law_downward), sl_law_downward⟩)
    (c_law_downward : PySem.W.codeIn K cd_law_downward "_law_downward" = true)
    (k_law_downward : PySem.W.keepIn K (.ref f_law_downward) = true)
    (a_law_mixed : PySem.W.nsIn K mainGlobals "_law_mixed" = some (some (.ref f_law_mixed)))
    (l_law_mixed : K.lookup f_law_mixed = some ⟨oc_law_mixed, od_law_mixed, .func (PySem.W.fnOf "_law_mixed" "_law_mixed" (defArgs st_law_mixed) (defBody st_law_mixed) (defScope st_law_mixed) .none kV_law_mixed dc_law_mixed pm_law_mixed an_law_mixed cd_law_mixed ct_law_mixed), sl_law_mixed⟩)
    (c_law_mixed : PySem.W.codeIn K cd_law_mixed "_law_mixed" = true)
    (k_law_mixed : PySem.W.keepIn K (.ref f_law_mixed) = true)
    (a_law_pick : PySem.W.nsIn K mainGlobals "_law_pick" = some (some (.ref f_law_pick)))
    (l_law_pick : K.lookup f_law_pick = some ⟨oc_law_pick, od_law_pick, .func (PySem.W.fnOf "_law_pick" "_law_pick" (defArgs st_law_pick) (defBody st_law_pick) (defScope st_law_pick) .none kV_law_pick dc_law_pick pm_law_pick an_law_pick cd_law_pick ct_law_pick), sl_law_pick⟩)
    (c_law_pick : PySem.W.codeIn K cd_law_pick "_law_pick" = true)
    (k_law_pick : PySem.W.keepIn K (.ref f_law_pick) = true)
    (a_law_names : PySem.W.nsIn K mainGlobals "_law_names" = some (some (.ref f_law_names)))
    (l_law_names : K.lookup f_law_names = some ⟨oc_law_names, od_law_names, .func (PySem.W.fnOf "_law_names" "_law_names" (defArgs st_law_names) (defBody st_law_names) (defScope st_law_names) .none kV_law_names dc_law_names pm_law_names an_law_names cd_law_names ct_law_names), sl_law_names⟩)
    (c_law_names : PySem.W.codeIn K cd_law_names "_law_names" = true)
    (k_law_names : PySem.W.keepIn K (.ref f_law_names) = true)
    (a_law_pool : PySem.W.nsIn K mainGlobals "_law_pool" = some (some (.ref f_law_pool)))
    (l_law_pool : K.lookup f_law_pool = some ⟨oc_law_pool, od_law_pool, .func (PySem.W.fnOf "_law_pool" "_law_pool" (defArgs st_law_pool) (defBody st_law_pool) (defScope st_law_pool) .none kV_law_pool dc_law_pool pm_law_pool an_law_pool cd_law_pool ct_law_pool), sl_law_pool⟩)
    (c_law_pool : PySem.W.codeIn K cd_law_pool "_law_pool" = true)
    (k_law_pool : PySem.W.keepIn K (.ref f_law_pool) = true)
    (a_law_some : PySem.W.nsIn K mainGlobals "_law_some" = some (some (.ref f_law_some)))
    (l_law_some : K.lookup f_law_some = some ⟨oc_law_some, od_law_some, .func (PySem.W.fnOf "_law_some" "_law_some" (defArgs st_law_some) (defBody st_law_some) (defScope st_law_some) .none kV_law_some dc_law_some pm_law_some an_law_some cd_law_some ct_law_some), sl_law_some⟩)
    (c_law_some : PySem.W.codeIn K cd_law_some "_law_some" = true)
    (k_law_some : PySem.W.keepIn K (.ref f_law_some) = true)
    (a_law_chain : PySem.W.nsIn K mainGlobals "_law_chain" = some (some (.ref f_law_chain)))
    (l_law_chain : K.lookup f_law_chain = some ⟨oc_law_chain, od_law_chain, .func (PySem.W.fnOf "_law_chain" "_law_chain" (defArgs st_law_chain) (defBody st_law_chain) (defScope st_law_chain) .none kV_law_chain dc_law_chain pm_law_chain an_law_chain cd_law_chain ct_law_chain), sl_law_chain⟩)
    (c_law_chain : PySem.W.codeIn K cd_law_chain "_law_chain" = true)
    (k_law_chain : PySem.W.keepIn K (.ref f_law_chain) = true)
    (a_law_bounds : PySem.W.nsIn K mainGlobals "_law_bounds" = some (some (.ref f_law_bounds)))
    (l_law_bounds : K.lookup f_law_bounds = some ⟨oc_law_bounds, od_law_bounds, .func (PySem.W.fnOf "_law_bounds" "_law_bounds" (defArgs st_law_bounds) (defBody st_law_bounds) (defScope st_law_bounds) .none kV_law_bounds dc_law_bounds pm_law_bounds an_law_bounds cd_law_bounds ct_law_bounds), sl_law_bounds⟩)
    (c_law_bounds : PySem.W.codeIn K cd_law_bounds "_law_bounds" = true)
    (k_law_bounds : PySem.W.keepIn K (.ref f_law_bounds) = true)
    (a_law_laid : PySem.W.nsIn K mainGlobals "_law_laid" = some (some (.ref f_law_laid)))
    (l_law_laid : K.lookup f_law_laid = some ⟨oc_law_laid, od_law_laid, .func (PySem.W.fnOf "_law_laid" "_law_laid" (defArgs st_law_laid) (defBody st_law_laid) (defScope st_law_laid) .none kV_law_laid dc_law_laid pm_law_laid an_law_laid cd_law_laid ct_law_laid), sl_law_laid⟩)
    (c_law_laid : PySem.W.codeIn K cd_law_laid "_law_laid" = true)
    (k_law_laid : PySem.W.keepIn K (.ref f_law_laid) = true)
    (a_law_lays : PySem.W.nsIn K mainGlobals "_law_lays" = some (some (.ref f_law_lays)))
    (l_law_lays : K.lookup f_law_lays = some ⟨oc_law_lays, od_law_lays, .func (PySem.W.fnOf "_law_lays" "_law_lays" (defArgs st_law_lays) (defBody st_law_lays) (defScope st_law_lays) .none kV_law_lays dc_law_lays pm_law_lays an_law_lays cd_law_lays ct_law_lays), sl_law_lays⟩)
    (c_law_lays : PySem.W.codeIn K cd_law_lays "_law_lays" = true)
    (k_law_lays : PySem.W.keepIn K (.ref f_law_lays) = true)
    (a_law_variables : PySem.W.nsIn K mainGlobals "_law_variables" = some (some (.ref f_law_variables)))
    (l_law_variables : K.lookup f_law_variables = some ⟨oc_law_variables, od_law_variables, .func (PySem.W.fnOf "_law_variables" "_law_variables" (defArgs st_law_variables) (defBody st_law_variables) (defScope st_law_variables) .none kV_law_variables dc_law_variables pm_law_variables an_law_variables cd_law_variables ct_law_variables), sl_law_variables⟩)
    (c_law_variables : PySem.W.codeIn K cd_law_variables "_law_variables" = true)
    (k_law_variables : PySem.W.keepIn K (.ref f_law_variables) = true)
    (a_law_names_of : PySem.W.nsIn K mainGlobals "_law_names_of" = some (some (.ref f_law_names_of)))
    (l_law_names_of : K.lookup f_law_names_of = some ⟨oc_law_names_of, od_law_names_of, .func (PySem.W.fnOf "_law_names_of" "_law_names_of" (defArgs st_law_names_of) (defBody st_law_names_of) (defScope st_law_names_of) .none kV_law_names_of dc_law_names_of pm_law_names_of an_law_names_of cd_law_names_of ct_law_names_of), sl_law_names_of⟩)
    (c_law_names_of : PySem.W.codeIn K cd_law_names_of "_law_names_of" = true)
    (k_law_names_of : PySem.W.keepIn K (.ref f_law_names_of) = true)
    (a_Body_tree : PySem.W.findIn K (.ref C_Body) "tree" = some (some (.ref f_Body_tree)))
    (i_Body_tree : PySem.W.isFn K (.ref f_Body_tree) = true)
    (l_Body_tree : K.lookup f_Body_tree = some ⟨oc_Body_tree, od_Body_tree, .func (PySem.W.fnOf "tree" "Body.tree" (defArgs st_Body_tree) (defBody st_Body_tree) (defScope st_Body_tree) .none kV_Body_tree dc_Body_tree pm_Body_tree an_Body_tree cd_Body_tree ct_Body_tree), sl_Body_tree⟩)
    (c_Body_tree : PySem.W.codeIn K cd_Body_tree "Body.tree" = true)
    (k_Body_tree : PySem.W.keepIn K (.ref f_Body_tree) = true)
    (a_Body_init : PySem.W.findIn K (.ref C_Body) "__init__" = some (some (.ref f_Body_init)))
    (i_Body_init : PySem.W.isFn K (.ref f_Body_init) = true)
    (l_Body_init : K.lookup f_Body_init = some ⟨oc_Body_init, od_Body_init, .func (PySem.W.fnOf "__init__" "Body.__init__" (defArgs st_Body_init) (defBody st_Body_init) (defScope st_Body_init) .none kV_Body_init dc_Body_init pm_Body_init an_Body_init cd_Body_init ct_Body_init), sl_Body_init⟩)
    (c_Body_init : PySem.W.codeIn K cd_Body_init "Body.__init__" = true)
    (k_Body_init : PySem.W.keepIn K (.ref f_Body_init) = true)
    (a_law_object : PySem.W.nsIn K mainGlobals "_law_object" = some (some (.ref f_law_object)))
    (l_law_object : K.lookup f_law_object = some ⟨oc_law_object, od_law_object, .func (PySem.W.fnOf "_law_object" "_law_object" (defArgs st_law_object) (defBody st_law_object) (defScope st_law_object) .none kV_law_object dc_law_object pm_law_object an_law_object cd_law_object ct_law_object), sl_law_object⟩)
    (c_law_object : PySem.W.codeIn K cd_law_object "_law_object" = true)
    (k_law_object : PySem.W.keepIn K (.ref f_law_object) = true)
    (a_Body_span : PySem.W.findIn K (.ref C_Body) "span" = some (some (.ref f_Body_span)))
    (i_Body_span : PySem.W.isFn K (.ref f_Body_span) = true)
    (l_Body_span : K.lookup f_Body_span = some ⟨oc_Body_span, od_Body_span, .func (PySem.W.fnOf "span" "Body.span" (defArgs st_Body_span) (defBody st_Body_span) (defScope st_Body_span) .none kV_Body_span dc_Body_span pm_Body_span an_Body_span cd_Body_span ct_Body_span), sl_Body_span⟩)
    (c_Body_span : PySem.W.codeIn K cd_Body_span "Body.span" = true)
    (k_Body_span : PySem.W.keepIn K (.ref f_Body_span) = true)
    (a_is_within : PySem.W.nsIn K mainGlobals "is_within" = some (some (.ref f_is_within)))
    (l_is_within : K.lookup f_is_within = some ⟨oc_is_within, od_is_within, .func (PySem.W.fnOf "is_within" "is_within" (defArgs st_is_within) (defBody st_is_within) (defScope st_is_within) .none kV_is_within dc_is_within pm_is_within an_is_within cd_is_within ct_is_within), sl_is_within⟩)
    (c_is_within : PySem.W.codeIn K cd_is_within "is_within" = true)
    (k_is_within : PySem.W.keepIn K (.ref f_is_within) = true)
    (a_laid : PySem.W.nsIn K mainGlobals "laid" = some (some (.ref f_laid)))
    (l_laid : K.lookup f_laid = some ⟨oc_laid, od_laid, .func (PySem.W.fnOf "laid" "laid" (defArgs st_laid) (defBody st_laid) (defScope st_laid) .none kV_laid dc_laid pm_laid an_laid cd_laid ct_laid), sl_laid⟩)
    (c_laid : PySem.W.codeIn K cd_laid "laid" = true)
    (k_laid : PySem.W.keepIn K (.ref f_laid) = true)
    (a_Body_variables : PySem.W.findIn K (.ref C_Body) "variables" = some (some (.ref f_Body_variables)))
    (i_Body_variables : PySem.W.isFn K (.ref f_Body_variables) = true)
    (l_Body_variables : K.lookup f_Body_variables = some ⟨oc_Body_variables, od_Body_variables, .func (PySem.W.fnOf "variables" "Body.variables" (defArgs st_Body_variables) (defBody st_Body_variables) (defScope st_Body_variables) .none kV_Body_variables dc_Body_variables pm_Body_variables an_Body_variables cd_Body_variables ct_Body_variables), sl_Body_variables⟩)
    (c_Body_variables : PySem.W.codeIn K cd_Body_variables "Body.variables" = true)
    (k_Body_variables : PySem.W.keepIn K (.ref f_Body_variables) = true)
    (a_is_whole : PySem.W.nsIn K mainGlobals "is_whole" = some (some (.ref f_is_whole)))
    (l_is_whole : K.lookup f_is_whole = some ⟨oc_is_whole, od_is_whole, .func (PySem.W.fnOf "is_whole" "is_whole" (defArgs st_is_whole) (defBody st_is_whole) (defScope st_is_whole) .none kV_is_whole dc_is_whole pm_is_whole an_is_whole cd_is_whole ct_is_whole), sl_is_whole⟩)
    (c_is_whole : PySem.W.codeIn K cd_is_whole "is_whole" = true)
    (k_is_whole : PySem.W.keepIn K (.ref f_is_whole) = true)
    (a_names_from : PySem.W.nsIn K mainGlobals "names_from" = some (some (.ref f_names_from)))
    (l_names_from : K.lookup f_names_from = some ⟨oc_names_from, od_names_from, .func (PySem.W.fnOf "names_from" "names_from" (defArgs st_names_from) (defBody st_names_from) (defScope st_names_from) .none kV_names_from dc_names_from pm_names_from an_names_from cd_names_from ct_names_from), sl_names_from⟩)
    (c_names_from : PySem.W.codeIn K cd_names_from "names_from" = true)
    (k_names_from : PySem.W.keepIn K (.ref f_names_from) = true)
    (a_is_fold : PySem.W.nsIn K mainGlobals "is_fold" = some (some (.ref f_is_fold)))
    (l_is_fold : K.lookup f_is_fold = some ⟨oc_is_fold, od_is_fold, .func (PySem.W.fnOf "is_fold" "is_fold" (defArgs st_is_fold) (defBody st_is_fold) (defScope st_is_fold) .none kV_is_fold dc_is_fold pm_is_fold an_is_fold cd_is_fold ct_is_fold), sl_is_fold⟩)
    (c_is_fold : PySem.W.codeIn K cd_is_fold "is_fold" = true)
    (k_is_fold : PySem.W.keepIn K (.ref f_is_fold) = true)
    (a_law_told : PySem.W.nsIn K mainGlobals "_law_told" = some (some (.ref f_law_told)))
    (l_law_told : K.lookup f_law_told = some ⟨oc_law_told, od_law_told, .func (PySem.W.fnOf "_law_told" "_law_told" (defArgs st_law_told) (defBody st_law_told) (defScope st_law_told) .none kV_law_told dc_law_told pm_law_told an_law_told cd_law_told ct_law_told), sl_law_told⟩)
    (c_law_told : PySem.W.codeIn K cd_law_told "_law_told" = true)
    (k_law_told : PySem.W.keepIn K (.ref f_law_told) = true)
    (a_law_asks : PySem.W.nsIn K mainGlobals "_law_asks" = some (some (.ref f_law_asks)))
    (l_law_asks : K.lookup f_law_asks = some ⟨oc_law_asks, od_law_asks, .func (PySem.W.fnOf "_law_asks" "_law_asks" (defArgs st_law_asks) (defBody st_law_asks) (defScope st_law_asks) .none kV_law_asks dc_law_asks pm_law_asks an_law_asks cd_law_asks ct_law_asks), sl_law_asks⟩)
    (c_law_asks : PySem.W.codeIn K cd_law_asks "_law_asks" = true)
    (k_law_asks : PySem.W.keepIn K (.ref f_law_asks) = true)
    (a_law_other : PySem.W.nsIn K mainGlobals "_law_other" = some (some (.ref f_law_other)))
    (l_law_other : K.lookup f_law_other = some ⟨oc_law_other, od_law_other, .func (PySem.W.fnOf "_law_other" "_law_other" (defArgs st_law_other) (defBody st_law_other) (defScope st_law_other) .none kV_law_other dc_law_other pm_law_other an_law_other cd_law_other ct_law_other), sl_law_other⟩)
    (c_law_other : PySem.W.codeIn K cd_law_other "_law_other" = true)
    (k_law_other : PySem.W.keepIn K (.ref f_law_other) = true)
    (a_law_images : PySem.W.nsIn K mainGlobals "_law_images" = some (some (.ref f_law_images)))
    (l_law_images : K.lookup f_law_images = some ⟨oc_law_images, od_law_images, .func (PySem.W.fnOf "_law_images" "_law_images" (defArgs st_law_images) (defBody st_law_images) (defScope st_law_images) .none kV_law_images dc_law_images pm_law_images an_law_images cd_law_images ct_law_images), sl_law_images⟩)
    (c_law_images : PySem.W.codeIn K cd_law_images "_law_images" = true)
    (k_law_images : PySem.W.keepIn K (.ref f_law_images) = true)
    (a_law_trees : PySem.W.nsIn K mainGlobals "_law_trees" = some (some (.ref f_law_trees)))
    (l_law_trees : K.lookup f_law_trees = some ⟨oc_law_trees, od_law_trees, .func (PySem.W.fnOf "_law_trees" "_law_trees" (defArgs st_law_trees) (defBody st_law_trees) (defScope st_law_trees) .none kV_law_trees dc_law_trees pm_law_trees an_law_trees cd_law_trees ct_law_trees), sl_law_trees⟩)
    (c_law_trees : PySem.W.codeIn K cd_law_trees "_law_trees" = true)
    (k_law_trees : PySem.W.keepIn K (.ref f_law_trees) = true)
    (a_law_far : PySem.W.nsIn K mainGlobals "_law_far" = some (some (.ref f_law_far)))
    (l_law_far : K.lookup f_law_far = some ⟨oc_law_far, od_law_far, .func (PySem.W.fnOf "_law_far" "_law_far" (defArgs st_law_far) (defBody st_law_far) (defScope st_law_far) .none kV_law_far dc_law_far pm_law_far an_law_far cd_law_far ct_law_far), sl_law_far⟩)
    (c_law_far : PySem.W.codeIn K cd_law_far "_law_far" = true)
    (k_law_far : PySem.W.keepIn K (.ref f_law_far) = true)
    (a_law_unlike : PySem.W.nsIn K mainGlobals "_law_unlike" = some (some (.ref f_law_unlike)))
    (l_law_unlike : K.lookup f_law_unlike = some ⟨oc_law_unlike, od_law_unlike, .func (PySem.W.fnOf "_law_unlike" "_law_unlike" (defArgs st_law_unlike) (defBody st_law_unlike) (defScope st_law_unlike) .none kV_law_unlike dc_law_unlike pm_law_unlike an_law_unlike cd_law_unlike ct_law_unlike), sl_law_unlike⟩)
    (c_law_unlike : PySem.W.codeIn K cd_law_unlike "_law_unlike" = true)
    (k_law_unlike : PySem.W.keepIn K (.ref f_law_unlike) = true)
    (a_law_asked : PySem.W.nsIn K mainGlobals "_law_asked" = some (some (.ref f_law_asked)))
    (l_law_asked : K.lookup f_law_asked = some ⟨oc_law_asked, od_law_asked, .func (PySem.W.fnOf "_law_asked" "_law_asked" (defArgs st_law_asked) (defBody st_law_asked) (defScope st_law_asked) .none kV_law_asked dc_law_asked pm_law_asked an_law_asked cd_law_asked ct_law_asked), sl_law_asked⟩)
    (c_law_asked : PySem.W.codeIn K cd_law_asked "_law_asked" = true)
    (k_law_asked : PySem.W.keepIn K (.ref f_law_asked) = true)
    (a_law_bent : PySem.W.nsIn K mainGlobals "_law_bent" = some (some (.ref f_law_bent)))
    (l_law_bent : K.lookup f_law_bent = some ⟨oc_law_bent, od_law_bent, .func (PySem.W.fnOf "_law_bent" "_law_bent" (defArgs st_law_bent) (defBody st_law_bent) (defScope st_law_bent) .none kV_law_bent dc_law_bent pm_law_bent an_law_bent cd_law_bent ct_law_bent), sl_law_bent⟩)
    (c_law_bent : PySem.W.codeIn K cd_law_bent "_law_bent" = true)
    (k_law_bent : PySem.W.keepIn K (.ref f_law_bent) = true)
    (a_law_scene : PySem.W.nsIn K mainGlobals "_law_scene" = some (some (.ref f_law_scene)))
    (l_law_scene : K.lookup f_law_scene = some ⟨oc_law_scene, od_law_scene, .func (PySem.W.fnOf "_law_scene" "_law_scene" (defArgs st_law_scene) (defBody st_law_scene) (defScope st_law_scene) .none kV_law_scene dc_law_scene pm_law_scene an_law_scene cd_law_scene ct_law_scene), sl_law_scene⟩)
    (c_law_scene : PySem.W.codeIn K cd_law_scene "_law_scene" = true)
    (k_law_scene : PySem.W.keepIn K (.ref f_law_scene) = true)
    (a_law_near : PySem.W.nsIn K mainGlobals "_law_near" = some (some (.ref f_law_near)))
    (l_law_near : K.lookup f_law_near = some ⟨oc_law_near, od_law_near, .func (PySem.W.fnOf "_law_near" "_law_near" (defArgs st_law_near) (defBody st_law_near) (defScope st_law_near) .none kV_law_near dc_law_near pm_law_near an_law_near cd_law_near ct_law_near), sl_law_near⟩)
    (c_law_near : PySem.W.codeIn K cd_law_near "_law_near" = true)
    (k_law_near : PySem.W.keepIn K (.ref f_law_near) = true)
    (a_law : PySem.W.nsIn K mainGlobals "law" = some (some (.ref f_law)))
    (l_law : K.lookup f_law = some ⟨oc_law, od_law, .func (PySem.W.fnOf "law" "law" (defArgs st_law) (defBody st_law) (defScope st_law) .none kV_law dc_law pm_law an_law cd_law ct_law), sl_law⟩)
    (c_law : PySem.W.codeIn K cd_law "law" = true)
    (k_law : PySem.W.keepIn K (.ref f_law) = true)
    (n_Body_nots : PySem.W.findIn K (.ref C_Body) "nots" = some none)
    (n_Body_rows : PySem.W.findIn K (.ref C_Body) "rows" = some none)
    (n_Body_spans : PySem.W.findIn K (.ref C_Body) "spans" = some none)
    (n_Body_wide : PySem.W.findIn K (.ref C_Body) "wide" = some none)
    (no_all : PySem.W.nsIn K mainGlobals "all" = some none)
    (no_bool : PySem.W.nsIn K mainGlobals "bool" = some none)
    (no_int : PySem.W.nsIn K mainGlobals "int" = some none)
    (no_isinstance : PySem.W.nsIn K mainGlobals "isinstance" = some none)
    (no_len : PySem.W.nsIn K mainGlobals "len" = some none)
    (no_list : PySem.W.nsIn K mainGlobals "list" = some none)
    (no_range : PySem.W.nsIn K mainGlobals "range" = some none)
    (no_sorted : PySem.W.nsIn K mainGlobals "sorted" = some none)
    (no_tuple : PySem.W.nsIn K mainGlobals "tuple" = some none)
    (no_zip : PySem.W.nsIn K mainGlobals "zip" = some none)
    : ∃ fd : FuncData, (∀ (s : Shared) (v : Value), BindsTo s fd ⟨[v], []⟩ [("script", v)]) ∧ ∀ base : Heap, K.In base → base.Ns mainGlobals mg → FnOk l.prog w K mg base CX0 8 fa fd ["script"] (toSp K S_law) := by
  have e := hfa.symm.trans (PySem.W.mg_of X G a_law)
  cases e
  have F_law_begin := fun_mk (x := "_law_begin") (qual := "_law_begin") (st := st_law_begin) l_law_begin c_law_begin k_law_begin
  have b_law_begin := F_law_begin.binds (ps := ["script"]) fun _ _ _ _ _ _ us hl => match us, hl with | [_], _ => rfl
  have F_law_draw := fun_mk (x := "_law_draw") (qual := "_law_draw") (st := st_law_draw) l_law_draw c_law_draw k_law_draw
  have b_law_draw := F_law_draw.binds (ps := ["d", "many"]) fun _ _ _ _ _ _ us hl => match us, hl with | [_, _], _ => rfl
  have F_law_downward := fun_mk (x := "_law_downward") (qual := "_law_downward") (st := st_law_downward) l_law_downward c_law_downward k_law_downward
  have b_law_downward := F_law_downward.binds (ps := ["terms"]) fun _ _ _ _ _ _ us hl => match us, hl with | [_], _ => rfl
  have F_law_mixed := fun_mk (x := "_law_mixed") (qual := "_law_mixed") (st := st_law_mixed) l_law_mixed c_law_mixed k_law_mixed
  have b_law_mixed := F_law_mixed.binds (ps := ["d", "row"]) fun _ _ _ _ _ _ us hl => match us, hl with | [_, _], _ => rfl
  have F_law_pick := fun_mk (x := "_law_pick") (qual := "_law_pick") (st := st_law_pick) l_law_pick c_law_pick k_law_pick
  have b_law_pick := F_law_pick.binds (ps := ["d", "row"]) fun _ _ _ _ _ _ us hl => match us, hl with | [_, _], _ => rfl
  have F_law_names := fun_mk (x := "_law_names") (qual := "_law_names") (st := st_law_names) l_law_names c_law_names k_law_names
  have b_law_names := F_law_names.binds (ps := ["d", "many"]) fun _ _ _ _ _ _ us hl => match us, hl with | [_, _], _ => rfl
  have F_law_pool := fun_mk (x := "_law_pool") (qual := "_law_pool") (st := st_law_pool) l_law_pool c_law_pool k_law_pool
  have b_law_pool := F_law_pool.binds (ps := ["d", "many"]) fun _ _ _ _ _ _ us hl => match us, hl with | [_, _], _ => rfl
  have F_law_some := fun_mk (x := "_law_some") (qual := "_law_some") (st := st_law_some) l_law_some c_law_some k_law_some
  have b_law_some := F_law_some.binds (ps := ["d", "row", "least"]) fun _ _ _ _ _ _ us hl => match us, hl with | [_, _, _], _ => rfl
  have F_law_chain := fun_mk (x := "_law_chain") (qual := "_law_chain") (st := st_law_chain) l_law_chain c_law_chain k_law_chain
  have b_law_chain := F_law_chain.binds (ps := ["d"]) fun _ _ _ _ _ _ us hl => match us, hl with | [_], _ => rfl
  have F_law_bounds := fun_mk (x := "_law_bounds") (qual := "_law_bounds") (st := st_law_bounds) l_law_bounds c_law_bounds k_law_bounds
  have b_law_bounds := F_law_bounds.binds (ps := ["btree", "term"]) fun _ _ _ _ _ _ us hl => match us, hl with | [_, _], _ => rfl
  have F_law_laid := fun_mk (x := "_law_laid") (qual := "_law_laid") (st := st_law_laid) l_law_laid c_law_laid k_law_laid
  have b_law_laid := F_law_laid.binds (ps := ["terms", "names"]) fun _ _ _ _ _ _ us hl => match us, hl with | [_, _], _ => rfl
  have F_law_lays := fun_mk (x := "_law_lays") (qual := "_law_lays") (st := st_law_lays) l_law_lays c_law_lays k_law_lays
  have b_law_lays := F_law_lays.binds (ps := ["btree", "ttree", "names"]) fun _ _ _ _ _ _ us hl => match us, hl with | [_, _, _], _ => rfl
  have F_law_variables := fun_mk (x := "_law_variables") (qual := "_law_variables") (st := st_law_variables) l_law_variables c_law_variables k_law_variables
  have b_law_variables := F_law_variables.binds (ps := ["rows"]) fun _ _ _ _ _ _ us hl => match us, hl with | [_], _ => rfl
  have F_law_names_of := fun_mk (x := "_law_names_of") (qual := "_law_names_of") (st := st_law_names_of) l_law_names_of c_law_names_of k_law_names_of
  have b_law_names_of := F_law_names_of.binds (ps := ["btree", "images"]) fun _ _ _ _ _ _ us hl => match us, hl with | [_, _], _ => rfl
  have F_Body_tree := fun_mk (x := "tree") (qual := "Body.tree") (st := st_Body_tree) l_Body_tree c_Body_tree k_Body_tree
  have b_Body_tree := F_Body_tree.binds (ps := ["self"]) fun _ _ _ _ _ _ us hl => match us, hl with | [_], _ => rfl
  have F_Body_init := fun_mk (x := "__init__") (qual := "Body.__init__") (st := st_Body_init) l_Body_init c_Body_init k_Body_init
  have b_Body_init := F_Body_init.binds (ps := ["self", "rows", "nots", "spans", "wide"]) fun _ _ _ _ _ _ us hl => match us, hl with | [_, _, _, _, _], _ => rfl
  have F_law_object := fun_mk (x := "_law_object") (qual := "_law_object") (st := st_law_object) l_law_object c_law_object k_law_object
  have b_law_object := F_law_object.binds (ps := ["btree"]) fun _ _ _ _ _ _ us hl => match us, hl with | [_], _ => rfl
  have F_Body_span := fun_mk (x := "span") (qual := "Body.span") (st := st_Body_span) l_Body_span c_Body_span k_Body_span
  have b_Body_span := F_Body_span.binds (ps := ["self", "term"]) fun _ _ _ _ _ _ us hl => match us, hl with | [_, _], _ => rfl
  have F_is_within := fun_mk (x := "is_within") (qual := "is_within") (st := st_is_within) l_is_within c_is_within k_is_within
  have b_is_within := F_is_within.binds (ps := ["body", "term", "target", "image"]) fun _ _ _ _ _ _ us hl => match us, hl with | [_, _, _, _], _ => rfl
  have F_laid := fun_mk (x := "laid") (qual := "laid") (st := st_laid) l_laid c_laid k_laid
  have b_laid := F_laid.binds (ps := ["terms", "names"]) fun _ _ _ _ _ _ us hl => match us, hl with | [_, _], _ => rfl
  have F_Body_variables := fun_mk (x := "variables") (qual := "Body.variables") (st := st_Body_variables) l_Body_variables c_Body_variables k_Body_variables
  have b_Body_variables := F_Body_variables.binds (ps := ["self"]) fun _ _ _ _ _ _ us hl => match us, hl with | [_], _ => rfl
  have F_is_whole := fun_mk (x := "is_whole") (qual := "is_whole") (st := st_is_whole) l_is_whole c_is_whole k_is_whole
  have b_is_whole := F_is_whole.binds (ps := ["value"]) fun _ _ _ _ _ _ us hl => match us, hl with | [_], _ => rfl
  have F_names_from := fun_mk (x := "names_from") (qual := "names_from") (st := st_names_from) l_names_from c_names_from k_names_from
  have b_names_from := F_names_from.binds (ps := ["body", "images"]) fun _ _ _ _ _ _ us hl => match us, hl with | [_, _], _ => rfl
  have F_is_fold := fun_mk (x := "is_fold") (qual := "is_fold") (st := st_is_fold) l_is_fold c_is_fold k_is_fold
  have b_is_fold := F_is_fold.binds (ps := ["body", "target", "images"]) fun _ _ _ _ _ _ us hl => match us, hl with | [_, _, _], _ => rfl
  have F_law_told := fun_mk (x := "_law_told") (qual := "_law_told") (st := st_law_told) l_law_told c_law_told k_law_told
  have b_law_told := F_law_told.binds (ps := ["btree", "ttree", "images", "due"]) fun _ _ _ _ _ _ us hl => match us, hl with | [_, _, _, _], _ => rfl
  have F_law_asks := fun_mk (x := "_law_asks") (qual := "_law_asks") (st := st_law_asks) l_law_asks c_law_asks k_law_asks
  have b_law_asks := F_law_asks.binds (ps := ["btree", "ttree", "images"]) fun _ _ _ _ _ _ us hl => match us, hl with | [_, _, _], _ => rfl
  have F_law_other := fun_mk (x := "_law_other") (qual := "_law_other") (st := st_law_other) l_law_other c_law_other k_law_other
  have b_law_other := F_law_other.binds (ps := ["d", "images", "standing"]) fun _ _ _ _ _ _ us hl => match us, hl with | [_, _, _], _ => rfl
  have F_law_images := fun_mk (x := "_law_images") (qual := "_law_images") (st := st_law_images) l_law_images c_law_images k_law_images
  have b_law_images := F_law_images.binds (ps := ["d", "btree", "ttree", "images"]) fun _ _ _ _ _ _ us hl => match us, hl with | [_, _, _, _], _ => rfl
  have F_law_trees := fun_mk (x := "_law_trees") (qual := "_law_trees") (st := st_law_trees) l_law_trees c_law_trees k_law_trees
  have b_law_trees := F_law_trees.binds (ps := ["d", "btree", "ttree", "images"]) fun _ _ _ _ _ _ us hl => match us, hl with | [_, _, _, _], _ => rfl
  have F_law_far := fun_mk (x := "_law_far") (qual := "_law_far") (st := st_law_far) l_law_far c_law_far k_law_far
  have b_law_far := F_law_far.binds (ps := ["d"]) fun _ _ _ _ _ _ us hl => match us, hl with | [_], _ => rfl
  have F_law_unlike := fun_mk (x := "_law_unlike") (qual := "_law_unlike") (st := st_law_unlike) l_law_unlike c_law_unlike k_law_unlike
  have b_law_unlike := F_law_unlike.binds (ps := ["row"]) fun _ _ _ _ _ _ us hl => match us, hl with | [_], _ => rfl
  have F_law_asked := fun_mk (x := "_law_asked") (qual := "_law_asked") (st := st_law_asked) l_law_asked c_law_asked k_law_asked
  have b_law_asked := F_law_asked.binds (ps := ["d", "tables", "many", "terms"]) fun _ _ _ _ _ _ us hl => match us, hl with | [_, _, _, _], _ => rfl
  have F_law_bent := fun_mk (x := "_law_bent") (qual := "_law_bent") (st := st_law_bent) l_law_bent c_law_bent k_law_bent
  have b_law_bent := F_law_bent.binds (ps := ["d", "trows", "twide", "marks"]) fun _ _ _ _ _ _ us hl => match us, hl with | [_, _, _, _], _ => rfl
  have F_law_scene := fun_mk (x := "_law_scene") (qual := "_law_scene") (st := st_law_scene) l_law_scene c_law_scene k_law_scene
  have b_law_scene := F_law_scene.binds (ps := ["d"]) fun _ _ _ _ _ _ us hl => match us, hl with | [_], _ => rfl
  have F_law_near := fun_mk (x := "_law_near") (qual := "_law_near") (st := st_law_near) l_law_near c_law_near k_law_near
  have b_law_near := F_law_near.binds (ps := ["d"]) fun _ _ _ _ _ _ us hl => match us, hl with | [_], _ => rfl
  have F_law := fun_mk (x := "law") (qual := "law") (st := st_law) l_law c_law k_law
  have b_law := F_law.binds (ps := ["script"]) fun _ _ _ _ _ _ us hl => match us, hl with | [_], _ => rfl
  have T : Txt K mg ⟨C_Body, f_law_begin, (PySem.W.fnOf "_law_begin" "_law_begin" (defArgs st_law_begin) (defBody st_law_begin) (defScope st_law_begin) .none kV_law_begin dc_law_begin pm_law_begin an_law_begin cd_law_begin ct_law_begin), f_law_draw, (PySem.W.fnOf "_law_draw" "_law_draw" (defArgs st_law_draw) (defBody st_law_draw) (defScope st_law_draw) .none kV_law_draw dc_law_draw pm_law_draw an_law_draw cd_law_draw ct_law_draw), f_law_downward, (PySem.W.fnOf "_law_downward" "_law_downward" (defArgs st_law_downward) (defBody st_law_downward) (defScope st_law_downward) .none kV_law_downward dc_law_downward pm_law_downward an_law_downward cd_law_downward ct_law_downward), f_law_mixed, (PySem.W.fnOf "_law_mixed" "_law_mixed" (defArgs st_law_mixed) (defBody st_law_mixed) (defScope st_law_mixed) .none kV_law_mixed dc_law_mixed pm_law_mixed an_law_mixed cd_law_mixed ct_law_mixed), f_law_pick, (PySem.W.fnOf "_law_pick" "_law_pick" (defArgs st_law_pick) (defBody st_law_pick) (defScope st_law_pick) .none kV_law_pick dc_law_pick pm_law_pick an_law_pick cd_law_pick ct_law_pick), f_law_names, (PySem.W.fnOf "_law_names" "_law_names" (defArgs st_law_names) (defBody st_law_names) (defScope st_law_names) .none kV_law_names dc_law_names pm_law_names an_law_names cd_law_names ct_law_names), f_law_pool, (PySem.W.fnOf "_law_pool" "_law_pool" (defArgs st_law_pool) (defBody st_law_pool) (defScope st_law_pool) .none kV_law_pool dc_law_pool pm_law_pool an_law_pool cd_law_pool ct_law_pool), f_law_some, (PySem.W.fnOf "_law_some" "_law_some" (defArgs st_law_some) (defBody st_law_some) (defScope st_law_some) .none kV_law_some dc_law_some pm_law_some an_law_some cd_law_some ct_law_some), f_law_chain, (PySem.W.fnOf "_law_chain" "_law_chain" (defArgs st_law_chain) (defBody st_law_chain) (defScope st_law_chain) .none kV_law_chain dc_law_chain pm_law_chain an_law_chain cd_law_chain ct_law_chain), f_law_bounds, (PySem.W.fnOf "_law_bounds" "_law_bounds" (defArgs st_law_bounds) (defBody st_law_bounds) (defScope st_law_bounds) .none kV_law_bounds dc_law_bounds pm_law_bounds an_law_bounds cd_law_bounds ct_law_bounds), f_law_laid, (PySem.W.fnOf "_law_laid" "_law_laid" (defArgs st_law_laid) (defBody st_law_laid) (defScope st_law_laid) .none kV_law_laid dc_law_laid pm_law_laid an_law_laid cd_law_laid ct_law_laid), f_law_lays, (PySem.W.fnOf "_law_lays" "_law_lays" (defArgs st_law_lays) (defBody st_law_lays) (defScope st_law_lays) .none kV_law_lays dc_law_lays pm_law_lays an_law_lays cd_law_lays ct_law_lays), f_law_variables, (PySem.W.fnOf "_law_variables" "_law_variables" (defArgs st_law_variables) (defBody st_law_variables) (defScope st_law_variables) .none kV_law_variables dc_law_variables pm_law_variables an_law_variables cd_law_variables ct_law_variables), f_law_names_of, (PySem.W.fnOf "_law_names_of" "_law_names_of" (defArgs st_law_names_of) (defBody st_law_names_of) (defScope st_law_names_of) .none kV_law_names_of dc_law_names_of pm_law_names_of an_law_names_of cd_law_names_of ct_law_names_of), f_Body_tree, (PySem.W.fnOf "tree" "Body.tree" (defArgs st_Body_tree) (defBody st_Body_tree) (defScope st_Body_tree) .none kV_Body_tree dc_Body_tree pm_Body_tree an_Body_tree cd_Body_tree ct_Body_tree), f_Body_init, (PySem.W.fnOf "__init__" "Body.__init__" (defArgs st_Body_init) (defBody st_Body_init) (defScope st_Body_init) .none kV_Body_init dc_Body_init pm_Body_init an_Body_init cd_Body_init ct_Body_init), f_law_object, (PySem.W.fnOf "_law_object" "_law_object" (defArgs st_law_object) (defBody st_law_object) (defScope st_law_object) .none kV_law_object dc_law_object pm_law_object an_law_object cd_law_object ct_law_object), f_Body_span, (PySem.W.fnOf "span" "Body.span" (defArgs st_Body_span) (defBody st_Body_span) (defScope st_Body_span) .none kV_Body_span dc_Body_span pm_Body_span an_Body_span cd_Body_span ct_Body_span), f_is_within, (PySem.W.fnOf "is_within" "is_within" (defArgs st_is_within) (defBody st_is_within) (defScope st_is_within) .none kV_is_within dc_is_within pm_is_within an_is_within cd_is_within ct_is_within), f_laid, (PySem.W.fnOf "laid" "laid" (defArgs st_laid) (defBody st_laid) (defScope st_laid) .none kV_laid dc_laid pm_laid an_laid cd_laid ct_laid), f_Body_variables, (PySem.W.fnOf "variables" "Body.variables" (defArgs st_Body_variables) (defBody st_Body_variables) (defScope st_Body_variables) .none kV_Body_variables dc_Body_variables pm_Body_variables an_Body_variables cd_Body_variables ct_Body_variables), f_is_whole, (PySem.W.fnOf "is_whole" "is_whole" (defArgs st_is_whole) (defBody st_is_whole) (defScope st_is_whole) .none kV_is_whole dc_is_whole pm_is_whole an_is_whole cd_is_whole ct_is_whole), f_names_from, (PySem.W.fnOf "names_from" "names_from" (defArgs st_names_from) (defBody st_names_from) (defScope st_names_from) .none kV_names_from dc_names_from pm_names_from an_names_from cd_names_from ct_names_from), f_is_fold, (PySem.W.fnOf "is_fold" "is_fold" (defArgs st_is_fold) (defBody st_is_fold) (defScope st_is_fold) .none kV_is_fold dc_is_fold pm_is_fold an_is_fold cd_is_fold ct_is_fold), f_law_told, (PySem.W.fnOf "_law_told" "_law_told" (defArgs st_law_told) (defBody st_law_told) (defScope st_law_told) .none kV_law_told dc_law_told pm_law_told an_law_told cd_law_told ct_law_told), f_law_asks, (PySem.W.fnOf "_law_asks" "_law_asks" (defArgs st_law_asks) (defBody st_law_asks) (defScope st_law_asks) .none kV_law_asks dc_law_asks pm_law_asks an_law_asks cd_law_asks ct_law_asks), f_law_other, (PySem.W.fnOf "_law_other" "_law_other" (defArgs st_law_other) (defBody st_law_other) (defScope st_law_other) .none kV_law_other dc_law_other pm_law_other an_law_other cd_law_other ct_law_other), f_law_images, (PySem.W.fnOf "_law_images" "_law_images" (defArgs st_law_images) (defBody st_law_images) (defScope st_law_images) .none kV_law_images dc_law_images pm_law_images an_law_images cd_law_images ct_law_images), f_law_trees, (PySem.W.fnOf "_law_trees" "_law_trees" (defArgs st_law_trees) (defBody st_law_trees) (defScope st_law_trees) .none kV_law_trees dc_law_trees pm_law_trees an_law_trees cd_law_trees ct_law_trees), f_law_far, (PySem.W.fnOf "_law_far" "_law_far" (defArgs st_law_far) (defBody st_law_far) (defScope st_law_far) .none kV_law_far dc_law_far pm_law_far an_law_far cd_law_far ct_law_far), f_law_unlike, (PySem.W.fnOf "_law_unlike" "_law_unlike" (defArgs st_law_unlike) (defBody st_law_unlike) (defScope st_law_unlike) .none kV_law_unlike dc_law_unlike pm_law_unlike an_law_unlike cd_law_unlike ct_law_unlike), f_law_asked, (PySem.W.fnOf "_law_asked" "_law_asked" (defArgs st_law_asked) (defBody st_law_asked) (defScope st_law_asked) .none kV_law_asked dc_law_asked pm_law_asked an_law_asked cd_law_asked ct_law_asked), f_law_bent, (PySem.W.fnOf "_law_bent" "_law_bent" (defArgs st_law_bent) (defBody st_law_bent) (defScope st_law_bent) .none kV_law_bent dc_law_bent pm_law_bent an_law_bent cd_law_bent ct_law_bent), f_law_scene, (PySem.W.fnOf "_law_scene" "_law_scene" (defArgs st_law_scene) (defBody st_law_scene) (defScope st_law_scene) .none kV_law_scene dc_law_scene pm_law_scene an_law_scene cd_law_scene ct_law_scene), f_law_near, (PySem.W.fnOf "_law_near" "_law_near" (defArgs st_law_near) (defBody st_law_near) (defScope st_law_near) .none kV_law_near dc_law_near pm_law_near an_law_near cd_law_near ct_law_near), fa, (PySem.W.fnOf "law" "law" (defArgs st_law) (defBody st_law) (defScope st_law) .none kV_law dc_law pm_law an_law cd_law ct_law)⟩ :=
    { c_Body := ⟨⟨pgBody, hdBody, poBody, saBody⟩, ⟨mkBody, a_Body_init, i_Body_init, kcBody⟩, PySem.W.mg_of X G aCBody, F_Body_init, b_Body_init⟩
      law_begin := ⟨F_law_begin, PySem.W.mg_of X G a_law_begin, k_law_begin, b_law_begin⟩
      law_draw := ⟨F_law_draw, PySem.W.mg_of X G a_law_draw, k_law_draw, b_law_draw⟩
      law_downward := ⟨F_law_downward, PySem.W.mg_of X G a_law_downward, k_law_downward, b_law_downward⟩
      law_mixed := ⟨F_law_mixed, PySem.W.mg_of X G a_law_mixed, k_law_mixed, b_law_mixed⟩
      law_pick := ⟨F_law_pick, PySem.W.mg_of X G a_law_pick, k_law_pick, b_law_pick⟩
      law_names := ⟨F_law_names, PySem.W.mg_of X G a_law_names, k_law_names, b_law_names⟩
      law_pool := ⟨F_law_pool, PySem.W.mg_of X G a_law_pool, k_law_pool, b_law_pool⟩
      law_some := ⟨F_law_some, PySem.W.mg_of X G a_law_some, k_law_some, b_law_some⟩
      law_chain := ⟨F_law_chain, PySem.W.mg_of X G a_law_chain, k_law_chain, b_law_chain⟩
      law_bounds := ⟨F_law_bounds, PySem.W.mg_of X G a_law_bounds, k_law_bounds, b_law_bounds⟩
      law_laid := ⟨F_law_laid, PySem.W.mg_of X G a_law_laid, k_law_laid, b_law_laid⟩
      law_lays := ⟨F_law_lays, PySem.W.mg_of X G a_law_lays, k_law_lays, b_law_lays⟩
      law_variables := ⟨F_law_variables, PySem.W.mg_of X G a_law_variables, k_law_variables, b_law_variables⟩
      law_names_of := ⟨F_law_names_of, PySem.W.mg_of X G a_law_names_of, k_law_names_of, b_law_names_of⟩
      Body_tree := ⟨F_Body_tree, ⟨a_Body_tree, i_Body_tree, k_Body_tree⟩, b_Body_tree⟩
      law_object := ⟨F_law_object, PySem.W.mg_of X G a_law_object, k_law_object, b_law_object⟩
      Body_span := ⟨F_Body_span, ⟨a_Body_span, i_Body_span, k_Body_span⟩, b_Body_span⟩
      is_within := ⟨F_is_within, PySem.W.mg_of X G a_is_within, k_is_within, b_is_within⟩
      laid := ⟨F_laid, PySem.W.mg_of X G a_laid, k_laid, b_laid⟩
      Body_variables := ⟨F_Body_variables, ⟨a_Body_variables, i_Body_variables, k_Body_variables⟩, b_Body_variables⟩
      is_whole := ⟨F_is_whole, PySem.W.mg_of X G a_is_whole, k_is_whole, b_is_whole⟩
      names_from := ⟨F_names_from, PySem.W.mg_of X G a_names_from, k_names_from, b_names_from⟩
      is_fold := ⟨F_is_fold, PySem.W.mg_of X G a_is_fold, k_is_fold, b_is_fold⟩
      law_told := ⟨F_law_told, PySem.W.mg_of X G a_law_told, k_law_told, b_law_told⟩
      law_asks := ⟨F_law_asks, PySem.W.mg_of X G a_law_asks, k_law_asks, b_law_asks⟩
      law_other := ⟨F_law_other, PySem.W.mg_of X G a_law_other, k_law_other, b_law_other⟩
      law_images := ⟨F_law_images, PySem.W.mg_of X G a_law_images, k_law_images, b_law_images⟩
      law_trees := ⟨F_law_trees, PySem.W.mg_of X G a_law_trees, k_law_trees, b_law_trees⟩
      law_far := ⟨F_law_far, PySem.W.mg_of X G a_law_far, k_law_far, b_law_far⟩
      law_unlike := ⟨F_law_unlike, PySem.W.mg_of X G a_law_unlike, k_law_unlike, b_law_unlike⟩
      law_asked := ⟨F_law_asked, PySem.W.mg_of X G a_law_asked, k_law_asked, b_law_asked⟩
      law_bent := ⟨F_law_bent, PySem.W.mg_of X G a_law_bent, k_law_bent, b_law_bent⟩
      law_scene := ⟨F_law_scene, PySem.W.mg_of X G a_law_scene, k_law_scene, b_law_scene⟩
      law_near := ⟨F_law_near, PySem.W.mg_of X G a_law_near, k_law_near, b_law_near⟩
      law := ⟨F_law, PySem.W.mg_of X G a_law, k_law, b_law⟩
      n_Body_nots := n_Body_nots
      n_Body_rows := n_Body_rows
      n_Body_spans := n_Body_spans
      n_Body_wide := n_Body_wide
      no_all := PySem.W.mg_none_of X G no_all
      no_bool := PySem.W.mg_none_of X G no_bool
      no_int := PySem.W.mg_none_of X G no_int
      no_isinstance := PySem.W.mg_none_of X G no_isinstance
      no_len := PySem.W.mg_none_of X G no_len
      no_list := PySem.W.mg_none_of X G no_list
      no_range := PySem.W.mg_none_of X G no_range
      no_sorted := PySem.W.mg_none_of X G no_sorted
      no_tuple := PySem.W.mg_none_of X G no_tuple
      no_zip := PySem.W.mg_none_of X G no_zip }
  exact ⟨PySem.W.fnOf "law" "law" (defArgs st_law) (defBody st_law) (defScope st_law) .none kV_law dc_law pm_law an_law cd_law ct_law, fun s v => .of_eq rfl, fun base _ _ => ok_law T⟩
theorem law_start {K : PySem.W.Frag} {H : Hp} {a : Addr} {ns : List Int} (hl : ns.length ≤ 63) (hS : SqL K H a (ns.map V.int)) : toSp K S_law [.ref a] H (fun v _ => v = .bl true) fun _ _ _ => False := by
  have no : ∀ b, ¬ Pw (fun _ => False) [some (.ref a)] [.dat (.scr (ns.map D.int))] b := fun b z => by
    rcases z with z | ⟨i, d, e, _⟩
    · exact z
    · match i, e with
      | 0, e => cases e
      | i + 1, e => cases e
  refine ⟨fun _ => False, [.dat (.scr (ns.map D.int))], fun r _ => r = .dat (.bl true), ⟨rfl, fun i d e => ?_, fun i d e => ?_, fun b z => z.elim, fun i j d e p q1 => ?_⟩, ⟨ns, rfl, rfl⟩, fun v H' r avs' Y' _ _ _ ok _ e => ?_⟩
  · match i, e with
    | 0, e =>
      cases e
      refine ⟨_, rfl, .scr ⟨?_, ?_⟩ (RDs.ints ns)⟩
      · rw [List.length_map, PySem.sizeLine_eq]; omega
      · exact hS.imp (fun h => ⟨h, no _⟩) id
    | i + 1, e => cases e
  · match i, e with
    | 0, e => cases e
    | i + 1, e => cases e
  · match i, q1 with
    | 0, q1 => cases q1
    | i + 1, q1 => cases q1
  · subst e
    obtain ⟨_, rd⟩ := ok
    cases rd
    rfl
theorem walk {l : PySem.W.OpenLaw} {q : Program} {loose : List Str} {XP : (Str → Option Value) → Heap → Prop} {YP : World → Heap → Prop} {d : DefRec} {K : Params → PySem.W.Frag} (hn : l.most = some 63) (hdf : d.params.defaults = [])
    (hY : ∀ (w : World) (h : Heap), YP w h → (K w.params).In h)
    (F : ∀ (w : World) (mg : Str → Option Value) (fa : Addr) (h : Heap), (K w.params).In h → h.Ns mainGlobals mg → mg d.name = some (.ref fa) →
      ∃ fd : FuncData, (∀ (s : Shared) (u : Value), BindsTo s fd ⟨[u], []⟩ [("script", u)]) ∧ ∀ base : Heap, (K w.params).In base → base.Ns mainGlobals mg → FnOk l.prog w (K w.params) mg base CX0 8 fa fd ["script"] (toSp (K w.params) S_law)) :
    PySem.W.WalkO q loose XP YP l.row.toRowW d [] (fun f vs => PySem.call f vs) :=
  L2.walk_of (n := 63) (k := 8) (x := "script") (CX := fun _ => CX0) (sp := fun w => toSp (K w.params) S_law) hn (by decide) hdf ⟨rfl, by decide, by decide⟩ hY F (fun _ _ a ns hl _ hS => law_start hl hS) fun _ _ _ _ _ z => z
end AL
open PySem PySem.W PyProof.Rows
set_option maxRecDepth 100000 in
set_option maxHeartbeats 0 in
theorem PySem.Challenge.cw_planassize_k37_is_fold_of_images_holds : PySem.Challenge.rw_planassize_k37_is_fold_of_images.Holds := by
  w_on; o_law; k_head; (case hw => w_witness2)
  k_fill
  refine AL.walk (l := PySem.Challenge.rw_planassize_k37_is_fold_of_images) rfl rfl (fun w h Y => PySem.W.kIn_of Y) ?F
  case F =>
    intro w mg fa h KX G hmg
    refine' AL.all_mk KX G hmg ?aCBody ?pgBody ?hdBody ?poBody ?saBody ?mkBody ?kcBody ?a_law_begin ?l_law_begin ?c_law_begin ?k_law_begin ?a_law_draw ?l_law_draw ?c_law_draw ?k_law_draw ?a_law_downward ?l_law_downward ?c_law_downward ?k_law_downward ?a_law_mixed ?l_law_mixed ?c_law_mixed ?k_law_mixed ?a_law_pick ?l_law_pick ?c_law_pick ?k_law_pick ?a_law_names ?l_law_names ?c_law_names ?k_law_names ?a_law_pool ?l_law_pool ?c_law_pool ?k_law_pool ?a_law_some ?l_law_some ?c_law_some ?k_law_some ?a_law_chain ?l_law_chain ?c_law_chain ?k_law_chain ?a_law_bounds ?l_law_bounds ?c_law_bounds ?k_law_bounds ?a_law_laid ?l_law_laid ?c_law_laid ?k_law_laid ?a_law_lays ?l_law_lays ?c_law_lays ?k_law_lays ?a_law_variables ?l_law_variables ?c_law_variables ?k_law_variables ?a_law_names_of ?l_law_names_of ?c_law_names_of ?k_law_names_of ?a_Body_tree ?i_Body_tree ?l_Body_tree ?c_Body_tree ?k_Body_tree ?a_Body_init ?i_Body_init ?l_Body_init ?c_Body_init ?k_Body_init ?a_law_object ?l_law_object ?c_law_object ?k_law_object ?a_Body_span ?i_Body_span ?l_Body_span ?c_Body_span ?k_Body_span ?a_is_within ?l_is_within ?c_is_within ?k_is_within ?a_laid ?l_laid ?c_laid ?k_laid ?a_Body_variables ?i_Body_variables ?l_Body_variables ?c_Body_variables ?k_Body_variables ?a_is_whole ?l_is_whole ?c_is_whole ?k_is_whole ?a_names_from ?l_names_from ?c_names_from ?k_names_from ?a_is_fold ?l_is_fold ?c_is_fold ?k_is_fold ?a_law_told ?l_law_told ?c_law_told ?k_law_told ?a_law_asks ?l_law_asks ?c_law_asks ?k_law_asks ?a_law_other ?l_law_other ?c_law_other ?k_law_other ?a_law_images ?l_law_images ?c_law_images ?k_law_images ?a_law_trees ?l_law_trees ?c_law_trees ?k_law_trees ?a_law_far ?l_law_far ?c_law_far ?k_law_far ?a_law_unlike ?l_law_unlike ?c_law_unlike ?k_law_unlike ?a_law_asked ?l_law_asked ?c_law_asked ?k_law_asked ?a_law_bent ?l_law_bent ?c_law_bent ?k_law_bent ?a_law_scene ?l_law_scene ?c_law_scene ?k_law_scene ?a_law_near ?l_law_near ?c_law_near ?k_law_near ?a_law ?l_law ?c_law ?k_law ?n_Body_nots ?n_Body_rows ?n_Body_spans ?n_Body_wide ?no_all ?no_bool ?no_int ?no_isinstance ?no_len ?no_list ?no_range ?no_sorted ?no_tuple ?no_zip
    (case aCBody => k_is)
    (case pgBody => k_is)
    (case hdBody => k_is)
    (case poBody => k_is)
    (case saBody => k_is)
    (case mkBody => k_is)
    (case kcBody => k_is)
    (case a_law_begin => k_is)
    (case l_law_begin => k_is)
    (case c_law_begin => k_is)
    (case k_law_begin => k_is)
    (case a_law_draw => k_is)
    (case l_law_draw => k_is)
    (case c_law_draw => k_is)
    (case k_law_draw => k_is)
    (case a_law_downward => k_is)
    (case l_law_downward => k_is)
    (case c_law_downward => k_is)
    (case k_law_downward => k_is)
    (case a_law_mixed => k_is)
    (case l_law_mixed => k_is)
    (case c_law_mixed => k_is)
    (case k_law_mixed => k_is)
    (case a_law_pick => k_is)
    (case l_law_pick => k_is)
    (case c_law_pick => k_is)
    (case k_law_pick => k_is)
    (case a_law_names => k_is)
    (case l_law_names => k_is)
    (case c_law_names => k_is)
    (case k_law_names => k_is)
    (case a_law_pool => k_is)
    (case l_law_pool => k_is)
    (case c_law_pool => k_is)
    (case k_law_pool => k_is)
    (case a_law_some => k_is)
    (case l_law_some => k_is)
    (case c_law_some => k_is)
    (case k_law_some => k_is)
    (case a_law_chain => k_is)
    (case l_law_chain => k_is)
    (case c_law_chain => k_is)
    (case k_law_chain => k_is)
    (case a_law_bounds => k_is)
    (case l_law_bounds => k_is)
    (case c_law_bounds => k_is)
    (case k_law_bounds => k_is)
    (case a_law_laid => k_is)
    (case l_law_laid => k_is)
    (case c_law_laid => k_is)
    (case k_law_laid => k_is)
    (case a_law_lays => k_is)
    (case l_law_lays => k_is)
    (case c_law_lays => k_is)
    (case k_law_lays => k_is)
    (case a_law_variables => k_is)
    (case l_law_variables => k_is)
    (case c_law_variables => k_is)
    (case k_law_variables => k_is)
    (case a_law_names_of => k_is)
    (case l_law_names_of => k_is)
    (case c_law_names_of => k_is)
    (case k_law_names_of => k_is)
    (case a_Body_tree => k_is)
    (case i_Body_tree => k_is)
    (case l_Body_tree => k_is)
    (case c_Body_tree => k_is)
    (case k_Body_tree => k_is)
    (case a_Body_init => k_is)
    (case i_Body_init => k_is)
    (case l_Body_init => k_is)
    (case c_Body_init => k_is)
    (case k_Body_init => k_is)
    (case a_law_object => k_is)
    (case l_law_object => k_is)
    (case c_law_object => k_is)
    (case k_law_object => k_is)
    (case a_Body_span => k_is)
    (case i_Body_span => k_is)
    (case l_Body_span => k_is)
    (case c_Body_span => k_is)
    (case k_Body_span => k_is)
    (case a_is_within => k_is)
    (case l_is_within => k_is)
    (case c_is_within => k_is)
    (case k_is_within => k_is)
    (case a_laid => k_is)
    (case l_laid => k_is)
    (case c_laid => k_is)
    (case k_laid => k_is)
    (case a_Body_variables => k_is)
    (case i_Body_variables => k_is)
    (case l_Body_variables => k_is)
    (case c_Body_variables => k_is)
    (case k_Body_variables => k_is)
    (case a_is_whole => k_is)
    (case l_is_whole => k_is)
    (case c_is_whole => k_is)
    (case k_is_whole => k_is)
    (case a_names_from => k_is)
    (case l_names_from => k_is)
    (case c_names_from => k_is)
    (case k_names_from => k_is)
    (case a_is_fold => k_is)
    (case l_is_fold => k_is)
    (case c_is_fold => k_is)
    (case k_is_fold => k_is)
    (case a_law_told => k_is)
    (case l_law_told => k_is)
    (case c_law_told => k_is)
    (case k_law_told => k_is)
    (case a_law_asks => k_is)
    (case l_law_asks => k_is)
    (case c_law_asks => k_is)
    (case k_law_asks => k_is)
    (case a_law_other => k_is)
    (case l_law_other => k_is)
    (case c_law_other => k_is)
    (case k_law_other => k_is)
    (case a_law_images => k_is)
    (case l_law_images => k_is)
    (case c_law_images => k_is)
    (case k_law_images => k_is)
    (case a_law_trees => k_is)
    (case l_law_trees => k_is)
    (case c_law_trees => k_is)
    (case k_law_trees => k_is)
    (case a_law_far => k_is)
    (case l_law_far => k_is)
    (case c_law_far => k_is)
    (case k_law_far => k_is)
    (case a_law_unlike => k_is)
    (case l_law_unlike => k_is)
    (case c_law_unlike => k_is)
    (case k_law_unlike => k_is)
    (case a_law_asked => k_is)
    (case l_law_asked => k_is)
    (case c_law_asked => k_is)
    (case k_law_asked => k_is)
    (case a_law_bent => k_is)
    (case l_law_bent => k_is)
    (case c_law_bent => k_is)
    (case k_law_bent => k_is)
    (case a_law_scene => k_is)
    (case l_law_scene => k_is)
    (case c_law_scene => k_is)
    (case k_law_scene => k_is)
    (case a_law_near => k_is)
    (case l_law_near => k_is)
    (case c_law_near => k_is)
    (case k_law_near => k_is)
    (case a_law => k_is)
    (case l_law => k_is)
    (case c_law => k_is)
    (case k_law => k_is)
    (case n_Body_nots => k_is)
    (case n_Body_rows => k_is)
    (case n_Body_spans => k_is)
    (case n_Body_wide => k_is)
    (case no_all => k_is)
    (case no_bool => k_is)
    (case no_int => k_is)
    (case no_isinstance => k_is)
    (case no_len => k_is)
    (case no_list => k_is)
    (case no_range => k_is)
    (case no_sorted => k_is)
    (case no_tuple => k_is)
    (case no_zip => k_is)
#print axioms PySem.Challenge.cw_planassize_k37_is_fold_of_images_holds
