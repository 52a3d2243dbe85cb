import PyProof.Rows.All
import Wide.All
import OpenK.AllK
import Wide.FinOn
import HandS.ForMost
import HandS.Deep
import HandS.TupAny
import HandS.Steps
import HandS.Style
import HandS.NoneIn
import HandS.Small
import HandS.IsInst
import HandS.SortInts
import HandS.Conv
import HandS.Zip
import KE.GoesMore
import KE.GoesZip
import HandS.SortKw
import HandS.More
import KE.SortData
import HandS.Codes
import HandS.SetFor
import KE.KDictList
import HandS.SetKeys
import HandS.DictComp
import PySem.Challenge.RW_planassize_k61_frozen_values_plain_and_u
set_option Elab.async false
set_option autoImplicit false
set_option linter.all false
set_option maxRecDepth 100000
namespace AL
open PySem L2
/-! AL1: data by value (D), the relation between values and data under a set of owned addresses, the owned environment. -/
inductive D where
  | non | bl (b : Bool) | int (i : Int) | str (x : Str) | tup (l : List D) | lst (l : List D) | dic (l m : List D) | dit (l m : List D) | obj (C : Addr) (ns : List Str) (l : List D) | scr (l : List D) | ptr (q : Addr) | rg (ks : List Addr) (es : List D) (d : D)
/-- a key of a dict as data -/
def kD : Key → D
  | .inl i => .int i
  | .inr x => .str x
abbrev Fg := PySem.W.Frag
abbrev Ad := Addr → Prop
def KTup (K : Fg) (a : Addr) (us : List V) : Prop := ∃ (o : Obj) (its : Array Value) (n : Nat), K.lookup a = some o ∧ o.cls = .type "tuple" ∧ o.data = .seq its n ∧ its.size ≤ sizeLine ∧ Vals us its.toList
/-- a list or tuple that stays: no owned one -/
def SL (H : Hp) (P : Ad) (a : Addr) (us : List V) : Prop := H a = some (.lst us) ∧ ¬ P a ∧ us.length ≤ sizeLine
def ST (K : Fg) (H : Hp) (P : Ad) (a : Addr) (us : List V) : Prop := (Rd H a (.tup us) ∧ ¬ P a ∧ us.length ≤ sizeLine) ∨ KTup K a us
/-- a list that is read alone (the script) -/
def SS (K : Fg) (H : Hp) (P : Ad) (a : Addr) (us : List V) : Prop := us.length ≤ sizeLine ∧ ((Rd H a (.lst us) ∧ ¬ P a) ∨ ∃ (o : Obj) (its : Array Value) (n : Nat), K.lookup a = some o ∧ o.cls = .type "list" ∧ o.dict = none ∧ o.data = .seq its n ∧ its.size ≤ sizeLine ∧ Vals us its.toList)
theorem SS.sq {K : Fg} {H : Hp} {P : Ad} {a : Addr} {us : List V} (h : SS K H P a us) : SqL K H a us := h.2.imp And.left id
theorem SL.sq {K : Fg} {H : Hp} {P : Ad} {a : Addr} {us : List V} (h : SL H P a us) : SqL K H a us := .of h.1
theorem ST.len {K : Fg} {H : Hp} {P : Ad} {a : Addr} {us : List V} (h : ST K H P a us) : us.length ≤ sizeLine := by
  rcases h with h | ⟨o, its, n, _, _, _, z, r⟩
  · exact h.2.2
  · have e := r.length
    simp only [Array.length_toList] at e
    omega
theorem ST.sq {K : Fg} {H : Hp} {P : Ad} {a : Addr} {us : List V} (h : ST K H P a us) : SqT K H a us := h.imp And.left id
mutual
inductive RD (K : Fg) (H : Hp) (P : Ad) : V → D → Prop
  | non : RD K H P V.non D.non
  | bl (b : Bool) : RD K H P (V.bl b) (D.bl b)
  | int (i : Int) : RD K H P (V.int i) (D.int i)
  | str (x : Str) : RD K H P (V.str x) (D.str x)
  | tup {a : Addr} {us : List V} {ds : List D} : ST K H P a us → RDs K H P us ds → RD K H P (V.ref a) (D.tup ds)
  | lst {a : Addr} {us : List V} {ds : List D} : SL H P a us → RDs K H P us ds → RD K H P (V.ref a) (D.lst ds)
  | dK {a : Addr} {kvs : List (Key × V)} {ks vs : List D} : Rd H a (.dK kvs) → ¬ P a → ks = (kvs.map fun kv => kD kv.1) → RDs K H P (kvs.map (·.2)) vs → RD K H P (V.ref a) (D.dic ks vs)
  | dT {a : Addr} {kvs : List (List Key × V)} {ks vs : List D} : Rd H a (.dT kvs) → ¬ P a → ks = (kvs.map fun kv => D.tup (kv.1.map kD)) → RDs K H P (kvs.map (·.2)) vs → RD K H P (V.ref a) (D.dit ks vs)
  | obj {a C dx : Addr} {fs : List (Str × V)} {ns : List Str} {l : List D} : H a = some (.ins C dx fs) → ¬ P a → ns = fs.map (·.1) → RDs K H P (fs.map (·.2)) l → RD K H P (V.ref a) (D.obj C ns l)
  | scr {a : Addr} {us : List V} {ds : List D} : SS K H P a us → RDs K H P us ds → RD K H P (V.ref a) (D.scr ds)
  | ptr (q : Addr) : RD K H P (V.ref q) (D.ptr q)
  | hup {a : Addr} {us : List V} {ds : List D} : H a = some (.tup us) → ¬ P a → us.length ≤ sizeLine → RDs K H P us ds → RD K H P (V.ref a) (D.dit ds (.non :: ds))
inductive RDs (K : Fg) (H : Hp) (P : Ad) : List V → List D → Prop
  | nil : RDs K H P [] []
  | cons {v : V} {vs : List V} {d : D} {ds : List D} : RD K H P v d → RDs K H P vs ds → RDs K H P (v :: vs) (d :: ds)
end
def isD : HO → Bool
  | .dK _ => true
  | .dT _ => true
  | _ => false
/-- an object stays; a dict may have been locked -/
def KeepO (o : HO) (H' : Hp) (a : Addr) : Prop := H' a = some o ∨ ∃ od, isD o = true ∧ H' a = some (.frz od o)
theorem KeepO.trans {o : HO} {H1 H2 : Hp} {a : Addr} (h : KeepO o H1 a) (k : ∀ u, H1 a = some u → KeepO u H2 a) : KeepO o H2 a := by
  rcases h with h | ⟨od, d, h⟩
  · exact k _ h
  · rcases k _ h with q | ⟨_, d', _⟩
    · exact .inr ⟨od, d, q⟩
    · cases d'
theorem KeepO.some {o : HO} {H1 : Hp} {a : Addr} (h : KeepO o H1 a) : ∃ o', H1 a = some o' := by
  rcases h with h | ⟨od, d, h⟩
  · exact ⟨_, h⟩
  · exact ⟨_, h⟩
theorem KeepO.rd {o : HO} {H1 : Hp} {a : Addr} (h : KeepO o H1 a) : Rd H1 a o := by
  rcases h with h | ⟨od, d, h⟩
  · exact .inl h
  · exact .inr ⟨od, h⟩
theorem KeepO.eq {o : HO} {H1 : Hp} {a : Addr} (h : KeepO o H1 a) (n : isD o = false) : H1 a = Option.some o := by
  rcases h with h | ⟨od, d, h⟩
  · exact h
  · rw [n] at d; cases d
/-- what is kept: all that was tracked ahead but the owned P0; P2: the owned behind, old ones or new ones -/
structure Go (P0 P1 P2 : Ad) (H H' : Hp) : Prop where
  keep : ∀ a o, H a = some o → ¬ P0 a → KeepO o H' a
  new : ∀ a, P2 a → P1 a ∨ H a = none
section
variable {K : Fg} {P0 P1 P2 : Ad} {H H' : Hp}
theorem Go.rd {a : Addr} {u : HO} (g : Go P0 P1 P2 H H') (s : ∀ a, P0 a → P1 a) (h : Rd H a u) (n : ¬ P1 a) : Rd H' a u ∧ ¬ P2 a := by
  have n0 : ¬ P0 a := fun z => n (s a z)
  have e : ∃ o, H a = some o := by
    rcases h with h | ⟨o, h⟩
    · exact ⟨_, h⟩
    · exact ⟨_, h⟩
  refine ⟨?_, fun z => ?_⟩
  · rcases h with h | ⟨o, h⟩
    · exact (g.keep _ _ h n0).rd
    · exact .inr ⟨o, (g.keep _ _ h n0).eq rfl⟩
  · obtain ⟨o, e⟩ := e
    rcases g.new a z with z | z
    · exact n z
    · rw [e] at z; cases z
theorem Go.at {a : Addr} {u : HO} (g : Go P0 P1 P2 H H') (s : ∀ a, P0 a → P1 a) (h : H a = some u) (n : ¬ P1 a) (nd : isD u = false) : H' a = some u ∧ ¬ P2 a := by
  refine ⟨(g.keep _ _ h fun z => n (s a z)).eq nd, fun z => ?_⟩
  rcases g.new a z with z | z
  · exact n z
  · rw [h] at z; cases z
theorem Go.sl {a : Addr} {us : List V} (g : Go P0 P1 P2 H H') (s : ∀ a, P0 a → P1 a) (h : SL H P1 a us) : SL H' P2 a us := by
  have n0 : ¬ P0 a := fun z => h.2.1 (s a z)
  refine ⟨(g.keep _ _ h.1 n0).eq rfl, fun z => ?_, h.2.2⟩
  rcases g.new a z with z | z
  · exact h.2.1 z
  · rw [h.1] at z; cases z
theorem Go.st {a : Addr} {us : List V} (g : Go P0 P1 P2 H H') (s : ∀ a, P0 a → P1 a) (h : ST K H P1 a us) : ST K H' P2 a us := by
  rcases h with ⟨h, n, l⟩ | h
  · exact .inl ⟨(g.rd s h n).1, (g.rd s h n).2, l⟩
  · exact .inr h
theorem Go.ss {a : Addr} {us : List V} (g : Go P0 P1 P2 H H') (s : ∀ a, P0 a → P1 a) (h : SS K H P1 a us) : SS K H' P2 a us := ⟨h.1, h.2.imp (fun h => g.rd s h.1 h.2) id⟩
mutual
theorem RD.go (g : Go P0 P1 P2 H H') (s : ∀ a, P0 a → P1 a) : ∀ {v : V} {d : D}, RD K H P1 v d → RD K H' P2 v d
  | _, _, .non => .non
  | _, _, .bl b => .bl b
  | _, _, .int i => .int i
  | _, _, .str x => .str x
  | _, _, .tup h r => .tup (g.st s h) (RDs.go g s r)
  | _, _, .lst h r => .lst (g.sl s h) (RDs.go g s r)
  | _, _, .dK h n e r => .dK (g.rd s h n).1 (g.rd s h n).2 e (RDs.go g s r)
  | _, _, .dT h n e r => .dT (g.rd s h n).1 (g.rd s h n).2 e (RDs.go g s r)
  | _, _, .obj h n e r => .obj (g.at s h n rfl).1 (g.at s h n rfl).2 e (RDs.go g s r)
  | _, _, .scr h r => .scr (g.ss s h) (RDs.go g s r)
  | _, _, .ptr q => .ptr q
  | _, _, .hup h n l r => .hup (g.at s h n rfl).1 (g.at s h n rfl).2 l (RDs.go g s r)
theorem RDs.go (g : Go P0 P1 P2 H H') (s : ∀ a, P0 a → P1 a) : ∀ {vs : List V} {ds : List D}, RDs K H P1 vs ds → RDs K H' P2 vs ds
  | _, _, .nil => .nil
  | _, _, .cons h r => .cons (RD.go g s h) (RDs.go g s r)
end
end
section
variable {K : Fg} {P P' : Ad} {H : Hp}
theorem go_less (s : ∀ a, P' a → P a) : Go (fun _ => False) P P' H H := ⟨fun _ _ h _ => .inl h, fun a z => .inl (s a z)⟩
theorem RD.less {v : V} {d : D} (h : RD K H P v d) (s : ∀ a, P' a → P a) : RD K H P' v d := h.go (go_less s) fun _ z => z.elim
theorem RDs.less {vs : List V} {ds : List D} (h : RDs K H P vs ds) (s : ∀ a, P' a → P a) : RDs K H P' vs ds := h.go (go_less s) fun _ z => z.elim
theorem RDs.length : ∀ {vs : List V} {ds : List D}, RDs K H P vs ds → vs.length = ds.length
  | _, _, .nil => rfl
  | _, _, .cons _ r => congrArg Nat.succ (RDs.length r)
theorem RDs.get : ∀ {vs : List V} {ds : List D} {i : Nat} {d : D}, RDs K H P vs ds → ds[i]? = some d → ∃ v, vs[i]? = some v ∧ RD K H P v d
  | _, _, _, _, .nil, e => by simp at e
  | _, _, 0, _, .cons r _, e => by simp at e; subst e; exact ⟨_, rfl, r⟩
  | _, _, i + 1, d, .cons _ t, e => by
    obtain ⟨v, h1, h2⟩ := RDs.get (i := i) (d := d) t (by simpa using e)
    exact ⟨v, by simpa using h1, h2⟩
theorem RDs.getV : ∀ {vs : List V} {ds : List D} {i : Nat} {v : V}, RDs K H P vs ds → vs[i]? = some v → ∃ d, ds[i]? = some d ∧ RD K H P v d
  | _, _, _, _, .nil, e => by simp at e
  | _, _, 0, _, .cons r _, e => by simp at e; subst e; exact ⟨_, rfl, r⟩
  | _, _, i + 1, v, .cons _ t, e => by
    obtain ⟨d, h1, h2⟩ := RDs.getV (i := i) (v := v) t (by simpa using e)
    exact ⟨d, by simpa using h1, h2⟩
theorem RDs.append : ∀ {us vs : List V} {ds es : List D}, RDs K H P us ds → RDs K H P vs es → RDs K H P (us ++ vs) (ds ++ es)
  | _, _, _, _, .nil, s => s
  | _, _, _, _, .cons r t, s => .cons r (RDs.append t s)
theorem RDs.take : ∀ {us : List V} {ds : List D} (n : Nat), RDs K H P us ds → RDs K H P (us.take n) (ds.take n)
  | _, _, 0, _ => .nil
  | _, _, _ + 1, .nil => .nil
  | _, _, n + 1, .cons r t => .cons r (RDs.take n t)
theorem RDs.drop : ∀ {us : List V} {ds : List D} (n : Nat), RDs K H P us ds → RDs K H P (us.drop n) (ds.drop n)
  | _, _, 0, r => r
  | _, _, _ + 1, .nil => .nil
  | _, _, n + 1, .cons _ t => RDs.drop n t
theorem RDs.set {v : V} {d : D} (h : RD K H P v d) : ∀ {us : List V} {ds : List D} (n : Nat), RDs K H P us ds → RDs K H P (us.set n v) (ds.set n d)
  | _, _, _, .nil => .nil
  | _, _, 0, .cons _ t => .cons h t
  | _, _, n + 1, .cons r t => .cons r (RDs.set h n t)
theorem RDs.ints : ∀ (ns : List Int), RDs K H P (ns.map V.int) (ns.map D.int)
  | [] => .nil
  | n :: ns => .cons (.int n) (RDs.ints ns)
theorem RDs.strs : ∀ (ns : List Str), RDs K H P (ns.map V.str) (ns.map D.str)
  | [] => .nil
  | n :: ns => .cons (.str n) (RDs.strs ns)
theorem RDs.ofInts : ∀ {us : List V} {ns : List Int}, RDs K H P us (ns.map D.int) → us = ns.map V.int
  | _, [], .nil => rfl
  | _, n :: ns, .cons r t => by
    cases r
    rw [RDs.ofInts t]
    rfl
theorem RDs.ofBls : ∀ {us : List V} {ns : List Bool}, RDs K H P us (ns.map D.bl) → us = ns.map V.bl
  | _, [], .nil => rfl
  | _, n :: ns, .cons r t => by
    cases r
    rw [RDs.ofBls t]
    rfl
theorem RDs.ofStrs : ∀ {us : List V} {ns : List Str}, RDs K H P us (ns.map D.str) → us = ns.map V.str
  | _, [], .nil => rfl
  | _, n :: ns, .cons r t => by
    cases r
    rw [RDs.ofStrs t]
    rfl
/-- what an owned address holds -/
def RO0 (K : Fg) (H : Hp) (P : Ad) (p : Addr) : D → Prop
  | .lst ds => ∃ us, H p = some (.lst us) ∧ RDs K H P us ds ∧ us.length ≤ sizeLine
  | .dic ks vs => ∃ kvs, H p = some (.dK kvs) ∧ ks = (kvs.map fun kv => kD kv.1) ∧ RDs K H P (kvs.map (·.2)) vs
  | .dit ks vs => ∃ kvs, H p = some (.dT kvs) ∧ ks = (kvs.map fun kv => D.tup (kv.1.map kD)) ∧ RDs K H P (kvs.map (·.2)) vs
  | .obj C ns l => ∃ dx fs, H p = some (.ins C dx fs) ∧ ns = fs.map (·.1) ∧ RDs K H P (fs.map (·.2)) l
  | _ => False
/-- the owned things within an owned one -/
def ROL (K : Fg) (H : Hp) (P : Ad) : List Addr → List D → Prop
  | [], [] => True
  | q :: ks, e :: es => RO0 K H P q e ∧ ROL K H P ks es
  | _, _ => False
/-- the addresses of the owned things within -/
def regA : D → List Addr
  | .rg ks _ _ => ks
  | _ => []
def RO (K : Fg) (H : Hp) (P : Ad) (p : Addr) : D → Prop
  | .rg ks es d => RO0 K H P p d ∧ ROL K H P ks es ∧ (p :: ks).Nodup
  | d => RO0 K H P p d
def isRg : D → Bool
  | .rg _ _ _ => true
  | _ => false
theorem RO.base {p : Addr} : ∀ {d : D}, isRg d = false → RO K H P p d → RO0 K H P p d ∧ regA d = []
  | .lst _, _, h => ⟨h, rfl⟩
  | .dic _ _, _, h => ⟨h, rfl⟩
  | .dit _ _, _, h => ⟨h, rfl⟩
  | .obj _ _ _, _, h => ⟨h, rfl⟩
  | .non, _, h => h.elim
  | .bl _, _, h => h.elim
  | .int _, _, h => h.elim
  | .str _, _, h => h.elim
  | .tup _, _, h => h.elim
  | .scr _, _, h => h.elim
  | .ptr _, _, h => h.elim
def baseD : D → D
  | .rg _ _ d => d
  | d => d
theorem RO.base0 {p : Addr} : ∀ {d : D}, RO K H P p d → RO0 K H P p (baseD d)
  | .lst _, h => h
  | .dic _ _, h => h
  | .dit _ _, h => h
  | .obj _ _ _, h => h
  | .rg _ _ _, h => h.1
theorem RO0.some {p : Addr} : ∀ {d : D}, RO0 K H P p d → ∃ o, H p = Option.some o ∧ Mut (Option.some o)
  | .lst ds, ⟨us, h, _⟩ => ⟨_, h, trivial⟩
  | .dic ks vs, ⟨us, h, _⟩ => ⟨_, h, trivial⟩
  | .dit ks vs, ⟨us, h, _⟩ => ⟨_, h, trivial⟩
  | .obj C ns l, ⟨dx, fs, h, _⟩ => ⟨_, h, trivial⟩
theorem RO0.go {P0 P1 P2 : Ad} {H' : Hp} {p : Addr} (g : Go P0 P1 P2 H H') (s : ∀ a, P0 a → P1 a) (hp : H' p = H p) : ∀ {d : D}, RO0 K H P1 p d → RO0 K H' P2 p d
  | .lst ds, ⟨us, h, r, l⟩ => ⟨us, hp.trans h, r.go g s, l⟩
  | .dic ks vs, ⟨us, h, e, r⟩ => ⟨us, hp.trans h, e, r.go g s⟩
  | .dit ks vs, ⟨us, h, e, r⟩ => ⟨us, hp.trans h, e, r.go g s⟩
  | .obj C ns l, ⟨dx, fs, h, e, r⟩ => ⟨dx, fs, hp.trans h, e, r.go g s⟩
theorem ROL.go {P0 P1 P2 : Ad} {H' : Hp} (g : Go P0 P1 P2 H H') (s : ∀ a, P0 a → P1 a) : ∀ {ks : List Addr} {es : List D}, (∀ q ∈ ks, H' q = H q) → ROL K H P1 ks es → ROL K H' P2 ks es
  | [], [], _, _ => trivial
  | q :: ks, e :: es, hp, h => ⟨h.1.go g s (hp q List.mem_cons_self), ROL.go g s (fun q hq => hp q (List.mem_cons_of_mem _ hq)) h.2⟩
  | [], _ :: _, _, h => h.elim
  | _ :: _, [], _, h => h.elim
theorem ROL.some : ∀ {ks : List Addr} {es : List D}, ROL K H P ks es → ∀ q ∈ ks, ∃ o, H q = Option.some o ∧ Mut (Option.some o)
  | [], [], _, q, m => nomatch m
  | k :: ks, e :: es, h, q, m => by
    rcases List.mem_cons.mp m with z | z
    · rw [z]; exact h.1.some
    · exact ROL.some h.2 q z
  | [], _ :: _, h, _, _ => h.elim
  | _ :: _, [], h, _, _ => h.elim
theorem RO.able {p : Addr} : ∀ {d : D}, RO K H P p d → (match d with | .lst _ => true | .dic _ _ => true | .dit _ _ => true | .obj _ _ _ => true | .rg _ _ _ => true | _ => false) = true
  | .lst ds, _ => rfl
  | .dic ks vs, _ => rfl
  | .dit ks vs, _ => rfl
  | .obj C ns l, _ => rfl
  | .rg _ _ _, _ => rfl
theorem RO.some {p : Addr} {d : D} (h : RO K H P p d) : ∃ o, H p = some o ∧ Mut (some o) := h.base0.some
theorem RO.regs {p : Addr} : ∀ {d : D}, RO K H P p d → ∀ q ∈ regA d, ∃ o, H q = Option.some o ∧ Mut (Option.some o)
  | .rg ks es d, h, q, m => h.2.1.some q m
  | .lst _, _, _, m => nomatch m
  | .dic _ _, _, _, m => nomatch m
  | .dit _ _, _, _, m => nomatch m
  | .obj _ _ _, _, _, m => nomatch m
theorem RO.nin {p : Addr} : ∀ {d : D}, RO K H P p d → p ∉ regA d
  | .rg ks es d, h => (List.nodup_cons.mp h.2.2).1
  | .lst _, _ => fun m => nomatch m
  | .dic _ _, _ => fun m => nomatch m
  | .dit _ _, _ => fun m => nomatch m
  | .obj _ _ _, _ => fun m => nomatch m
theorem RO.go {P0 P1 P2 : Ad} {H' : Hp} {p : Addr} (g : Go P0 P1 P2 H H') (s : ∀ a, P0 a → P1 a) (hp : H' p = H p) : ∀ {d : D}, (∀ q ∈ regA d, H' q = H q) → RO K H P1 p d → RO K H' P2 p d
  | .lst ds, _, h => RO0.go g s hp (d := .lst ds) h
  | .dic ks vs, _, h => RO0.go g s hp (d := .dic ks vs) h
  | .dit ks vs, _, h => RO0.go g s hp (d := .dit ks vs) h
  | .obj C ns l, _, h => RO0.go g s hp (d := .obj C ns l) h
  | .rg ks es d, hq, h => ⟨h.1.go g s hp, h.2.1.go g s hq, h.2.2⟩
theorem RO.less {p : Addr} {d : D} (h : RO K H P p d) (s : ∀ a, P' a → P a) : RO K H P' p d := h.go (go_less s) (fun _ z => z.elim) rfl fun _ _ => rfl
theorem RO0.less {p : Addr} {d : D} (h : RO0 K H P p d) (s : ∀ a, P' a → P a) : RO0 K H P' p d := h.go (go_less s) (fun _ z => z.elim) rfl
/-- an owned thing that is owned no more -/
theorem RO0.rd {p : Addr} : ∀ {d : D}, RO0 K H P p d → ¬ P p → RD K H P (V.ref p) d
  | .lst ds, ⟨us, h, r, l⟩, n => .lst ⟨h, n, l⟩ r
  | .dic ks vs, ⟨us, h, e, r⟩, n => .dK (.inl h) n e r
  | .dit ks vs, ⟨us, h, e, r⟩, n => .dT (.inl h) n e r
  | .obj C ns l, ⟨dx, fs, h, e, r⟩, n => .obj h n e r
/-- what it is as data: names of things within give way to the things -/
def lkR : List Addr → List D → Addr → Option D
  | k :: ks, e :: es, q => if k = q then some e else lkR ks es q
  | _, _, _ => none
def resI (ks : List Addr) (es : List D) : D → D
  | .ptr q => (lkR ks es q).getD (.ptr q)
  | d => d
def res : D → D
  | .rg ks es (.lst l) => .lst (l.map (resI ks es))
  | .rg ks es (.dic k l) => .dic k (l.map (resI ks es))
  | .rg ks es (.dit k l) => .dit k (l.map (resI ks es))
  | .rg ks es (.obj C ns l) => .obj C ns (l.map (resI ks es))
  | d => d
theorem lkR_ro : ∀ {ks : List Addr} {es : List D} {q : Addr} {e : D}, ROL K H P ks es → lkR ks es q = some e → q ∈ ks ∧ RO0 K H P q e
  | k :: ks, x :: es, q, e, h, z => by
    unfold lkR at z
    by_cases c : k = q
    · rw [if_pos c] at z
      cases z
      rw [← c]
      exact ⟨List.mem_cons_self, h.1⟩
    · rw [if_neg c] at z
      have := lkR_ro h.2 z
      exact ⟨List.mem_cons_of_mem _ this.1, this.2⟩
  | [], [], _, _, _, z => by cases z
  | [], _ :: _, _, _, h, _ => h.elim
  | _ :: _, [], _, _, h, _ => h.elim
theorem resI_rd {ks : List Addr} {es : List D} (h : ROL K H P ks es) (n : ∀ q ∈ ks, ¬ P q) {v : V} : ∀ {d : D}, RD K H P v d → RD K H P v (resI ks es d)
  | .ptr q, r => by
    cases r
    show RD K H P (V.ref q) ((lkR ks es q).getD (.ptr q))
    cases z : lkR ks es q with
    | none => exact .ptr q
    | some e =>
      obtain ⟨m, ro⟩ := lkR_ro h z
      exact ro.rd (n q m)
  | .non, r => r
  | .bl _, r => r
  | .int _, r => r
  | .str _, r => r
  | .tup _, r => r
  | .lst _, r => r
  | .dic _ _, r => r
  | .dit _ _, r => r
  | .obj _ _ _, r => r
  | .scr _, r => r
  | .rg _ _ _, r => by cases r
theorem resI_rds {ks : List Addr} {es : List D} (h : ROL K H P ks es) (n : ∀ q ∈ ks, ¬ P q) : ∀ {us : List V} {ds : List D}, RDs K H P us ds → RDs K H P us (ds.map (resI ks es))
  | _, _, .nil => .nil
  | _, _, .cons r t => .cons (resI_rd h n r) (resI_rds h n t)
theorem RO.rd {p : Addr} : ∀ {d : D}, RO K H P p d → ¬ P p → (∀ q ∈ regA d, ¬ P q) → RD K H P (V.ref p) (res d)
  | .lst ds, h, n, _ => RO0.rd (d := .lst ds) h n
  | .dic ks vs, h, n, _ => RO0.rd (d := .dic ks vs) h n
  | .dit ks vs, h, n, _ => RO0.rd (d := .dit ks vs) h n
  | .obj C ns l, h, n, _ => RO0.rd (d := .obj C ns l) h n
  | .rg ks es (.lst l), ⟨⟨us, h, r, z⟩, h2, h3⟩, n, nq => .lst ⟨h, n, z⟩ (resI_rds h2 nq r)
  | .rg ks es (.dic k l), ⟨⟨us, h, e, r⟩, h2, h3⟩, n, nq => .dK (.inl h) n e (resI_rds h2 nq r)
  | .rg ks es (.dit k l), ⟨⟨us, h, e, r⟩, h2, h3⟩, n, nq => .dT (.inl h) n e (resI_rds h2 nq r)
  | .rg ks es (.obj C ns l), ⟨⟨dx, fs, h, e, r⟩, h2, h3⟩, n, nq => .obj h n e (resI_rds h2 nq r)
end

/-! ### the owned environment -/
inductive AV where
  | un | dat (d : D) | own (d : D)
abbrev AEnv := List AV
/-- what slot i owns: its thing, and the things within -/
def OwnA (σ : St) (i : Nat) (d : D) (a : Addr) : Prop := σ[i]? = some (some (.ref a)) ∨ a ∈ regA d
def Own (σ : St) (env : AEnv) (a : Addr) : Prop := ∃ (i : Nat) (d : D), env[i]? = some (.own d) ∧ OwnA σ i d a
def Pw (Y : Ad) (σ : St) (env : AEnv) (a : Addr) : Prop := Y a ∨ Own σ env a
structure Rep (K : Fg) (Y : Ad) (H : Hp) (σ : St) (env : AEnv) : Prop where
  len : σ.length = env.length
  dat : ∀ (i : Nat) (d : D), env[i]? = some (.dat d) → ∃ v, σ[i]? = some (some v) ∧ RD K H (Pw Y σ env) v d
  own : ∀ (i : Nat) (d : D), env[i]? = some (.own d) → ∃ p, σ[i]? = some (some (.ref p)) ∧ ¬ Y p ∧ RO K H (Pw Y σ env) p d
  yim : ∀ a, Y a → ∃ o, H a = some o ∧ Mut (some o)
  inj : ∀ (i j : Nat) (d e : D) (p : Addr), env[i]? = some (.own d) → env[j]? = some (.own e) → OwnA σ i d p → OwnA σ j e p → i = j
  ony : ∀ (i : Nat) (d : D) (q : Addr), env[i]? = some (.own d) → q ∈ regA d → ¬ Y q
/-- what is owned is not borrowed, and lives -/
theorem Rep.ownY {K : Fg} {Y : Ad} {H : Hp} {σ : St} {env : AEnv} (R : Rep K Y H σ env) {i : Nat} {d : D} {a : Addr} (e : env[i]? = some (.own d)) (w : OwnA σ i d a) : ¬ Y a ∧ ∃ o, H a = some o ∧ Mut (some o) := by
  obtain ⟨p, hp, np, ro⟩ := R.own i d e
  rcases w with w | w
  · rw [hp] at w
    cases w
    exact ⟨np, ro.some⟩
  · exact ⟨R.ony i d a e w, ro.regs a w⟩
theorem Rep.yin {K : Fg} {Y : Ad} {H : Hp} {σ : St} {env : AEnv} (R : Rep K Y H σ env) : ∀ a, Y a → ∃ o, H a = some o := fun a z => let ⟨o, h, _⟩ := R.yim a z; ⟨o, h⟩
def ownable : D → Bool
  | .lst _ => true
  | .dic _ _ => true
  | .dit _ _ => true
  | .obj _ _ _ => true
  | _ => false
/-- how a slot goes on within an expression: things within an owned thing stay within it -/
def Sh : Option AV → Option AV → Prop
  | some (.own d), some (.own e) => ∀ q ∈ regA d, q ∈ regA e
  | some (.own d0), some (.dat d) => ownable d = true ∧ regA d0 = []
  | some (.dat d), some (.dat e) => d = e
  | some .un, some .un => True
  | none, none => True
  | _, _ => False
theorem Sh.refl : ∀ a : Option AV, Sh a a
  | some (.own _) => fun _ h => h
  | some (.dat _) => rfl
  | some .un => trivial
  | none => trivial
theorem Sh.trans : ∀ {a b c : Option AV}, Sh a b → Sh b c → Sh a c
  | some (.own _), some (.own _), some (.own _), h, k => fun q m => k q (h q m)
  | some (.own d), some (.own e), some (.dat _), h, k => by
    refine ⟨k.1, ?_⟩
    cases w : regA d with
    | nil => rfl
    | cons q r =>
      have := h q (by rw [w]; exact List.mem_cons_self)
      rw [k.2] at this
      cases this
  | some (.own _), some (.dat d), some (.dat e), h, k => by
    have k' : d = e := k
    subst k'
    exact h
  | some (.dat _), some (.dat _), some (.dat _), h, k => Eq.trans h k
  | some .un, some .un, some .un, _, _ => trivial
  | none, none, none, _, _ => trivial
theorem Sh.back {a : Option AV} {d : D} (h : Sh a (some (.own d))) : ∃ e, a = some (.own e) := by
  match a, h with
  | some (.own e), _ => exact ⟨e, rfl⟩
structure Adv (σ : St) (Y : Ad) (env : AEnv) (H : Hp) (Y' : Ad) (env' : AEnv) (H' : Hp) : Prop where
  keep : ∀ a o, H a = some o → ¬ Own σ env a → KeepO o H' a
  ky : ∀ a, Y a → H' a = H a
  yu : ∀ a, Y a → Y' a
  yn : ∀ a, Y' a → Y a ∨ H a = none
  sh : ∀ i : Nat, Sh env[i]? env'[i]?
  ow : ∀ a, Own σ env' a → Own σ env a ∨ H a = none
  live : ∀ a o, H a = some o → ∃ o', H' a = some o'
section
variable {K : Fg} {σ : St} {Y Y1 Y2 : Ad} {env env1 env2 : AEnv} {H H1 H2 : Hp}
theorem Adv.refl : Adv σ Y env H Y env H := ⟨fun _ _ h _ => .inl h, fun _ _ => rfl, fun _ h => h, fun _ h => .inl h, fun i => Sh.refl _, fun _ h => .inl h, fun _ o h => ⟨o, h⟩⟩
theorem Adv.gone (g : Adv σ Y env H Y1 env1 H1) {a : Addr} (h : H1 a = none) : H a = none := by
  cases q : H a with
  | none => rfl
  | some o =>
    obtain ⟨o', w⟩ := g.live a o q
    rw [w] at h; cases h
theorem Adv.own (g : Adv σ Y env H Y1 env1 H1) {a : Addr} {o : HO} (h : Own σ env1 a) (e : H a = some o) : Own σ env a := by
  rcases g.ow a h with z | z
  · exact z
  · rw [e] at z; cases z
theorem Adv.trans (g : Adv σ Y env H Y1 env1 H1) (k : Adv σ Y1 env1 H1 Y2 env2 H2) : Adv σ Y env H Y2 env2 H2 := by
  refine ⟨fun a o h n => (g.keep a o h n).trans fun u q => k.keep a u q fun z => n (g.own z h), fun a h => (k.ky a (g.yu a h)).trans (g.ky a h), fun a h => k.yu a (g.yu a h), fun a h => ?_, fun i => (g.sh i).trans (k.sh i), fun a h => ?_, fun a o h => ?_⟩
  · rcases k.yn a h with z | z
    · exact g.yn a z
    · cases q : H a with
      | none => exact .inr rfl
      | some o =>
        obtain ⟨o', w⟩ := g.live a o q
        rw [w] at z; cases z
  · rcases k.ow a h with z | z
    · exact g.ow a z
    · exact .inr (g.gone z)
  · obtain ⟨o', w⟩ := g.live a o h
    exact k.live a o' w
theorem Adv.go (g : Adv σ Y env H Y1 env1 H1) : Go (Own σ env) (Pw Y σ env) (Pw Y1 σ env1) H H1 := by
  refine ⟨g.keep, fun a h => ?_⟩
  rcases h with h | h
  · exact (g.yn a h).imp .inl id
  · exact (g.ow a h).imp .inr id
theorem Adv.rd (g : Adv σ Y env H Y1 env1 H1) {v : V} {d : D} (h : RD K H (Pw Y σ env) v d) : RD K H1 (Pw Y1 σ env1) v d := h.go g.go fun _ z => .inr z
theorem Adv.rds (g : Adv σ Y env H Y1 env1 H1) {v : List V} {d : List D} (h : RDs K H (Pw Y σ env) v d) : RDs K H1 (Pw Y1 σ env1) v d := h.go g.go fun _ z => .inr z
/-- fewer borrowed addresses -/
theorem Rep.less (R : Rep K Y H σ env) (s : ∀ a, Y1 a → Y a) : Rep K Y1 H σ env := by
  have s2 : ∀ a, Pw Y1 σ env a → Pw Y σ env a := fun a h => h.imp (s a) id
  refine ⟨R.len, fun i d e => ?_, fun i d e => ?_, fun a h => R.yim a (s a h), R.inj, fun i d q e m z => R.ony i d q e m (s q z)⟩
  · obtain ⟨v, h, r⟩ := R.dat i d e
    exact ⟨v, h, r.less s2⟩
  · obtain ⟨p, h, n, r⟩ := R.own i d e
    exact ⟨p, h, fun z => n (s p z), r.less s2⟩

/-! ### what an expression gives -/
inductive RV where
  | dat (d : D) | at (i : Nat) | new (d : D) | nrg (ks : List Addr) (es : List D) (d : D)
def val (env : AEnv) : RV → Option D
  | .dat d => some d
  | .new d => some d
  | .nrg _ _ d => some d
  | .at i => match env[i]? with
    | some (.own d) => (match isRg d with | true => some (baseD d) | false => some d)
    | some (.dat d) => some d
    | _ => none
theorem val_own (d : D) : (match isRg d with | true => some (baseD d) | false => some d) = some (baseD d) := by cases d <;> rfl
def ResOk (K : Fg) (H : Hp) (Y Y' : Ad) (σ : St) (env : AEnv) (v : V) : RV → Prop
  | .dat d => Y' = Y ∧ RD K H (Pw Y σ env) v d
  | .at i => Y' = Y ∧ σ[i]? = some (some v) ∧ ∃ d, env[i]? = some (.own d) ∨ env[i]? = some (.dat d)
  | .new d => ∃ p, v = .ref p ∧ (Y' = fun a => Y a ∨ a = p) ∧ ¬ Pw Y σ env p ∧ RO0 K H (Pw Y' σ env) p d
  | .nrg ks es d => ∃ p, v = .ref p ∧ (Y' = fun a => Y a ∨ (a = p ∨ a ∈ ks)) ∧ (∀ a, a = p ∨ a ∈ ks → ¬ Pw Y σ env a) ∧ RO K H (Pw Y' σ env) p (.rg ks es d)
/-- the value as it is read now: its own node may be owned, its items are data -/
def RC (K : Fg) (H : Hp) (P : Ad) (v : V) (d : D) : Prop := RD K H P v d ∨ ∃ p, v = .ref p ∧ RO0 K H P p d
theorem RC.rd {P : Ad} {v : V} {d : D} (h : RC K H P v d) : RD K H (fun _ => False) v d := by
  rcases h with h | ⟨p, rfl, h⟩
  · exact h.less fun _ z => z.elim
  · exact (h.less (P' := fun _ => False) fun _ z => z.elim).rd fun z => z
theorem RC.less {P P' : Ad} {v : V} {d : D} (h : RC K H P v d) (s : ∀ a, P' a → P a) : RC K H P' v d := by
  rcases h with h | ⟨p, rfl, h⟩
  · exact .inl (h.less s)
  · exact .inr ⟨p, rfl, h.less s⟩
theorem ResOk.rc {v : V} (R : Rep K Y1 H σ env) : ∀ {r : RV}, ResOk K H Y Y1 σ env v r → ∃ d, val env r = some d ∧ RC K H (Pw Y1 σ env) v d
  | .dat d, ⟨e, h⟩ => by subst e; exact ⟨d, rfl, .inl h⟩
  | .new d, ⟨p, e, _, _, h⟩ => ⟨d, rfl, .inr ⟨p, e, h⟩⟩
  | .at i, ⟨e, h, d, q⟩ => by
    subst e
    rcases q with q | q
    · obtain ⟨p, h', _, r⟩ := R.own i d q
      rw [h] at h'; cases h'
      exact ⟨baseD d, by simp only [val, q]; exact val_own d, .inr ⟨p, rfl, r.base0⟩⟩
    · obtain ⟨p, h', r⟩ := R.dat i d q
      rw [h] at h'; cases h'
      exact ⟨d, by simp [val, q], .inl r⟩
  | .nrg ks es d, ⟨p, e, _, _, h⟩ => ⟨d, rfl, .inr ⟨p, e, h.1⟩⟩
/-- a result waits while another part is evaluated -/
theorem ResOk.later {v : V} (g : Adv σ Y1 env1 H1 Y2 env2 H2) (R : Rep K Y2 H2 σ env2) : ∀ {r : RV}, ResOk K H1 Y Y1 σ env1 v r → ∃ d, val env2 r = some d ∧ RC K H2 (Pw Y2 σ env2) v d
  | .dat d, ⟨e, h⟩ => by subst e; exact ⟨d, rfl, .inl (g.rd h)⟩
  | .new d, ⟨p, e, ey, n, h⟩ => by
    refine ⟨d, rfl, .inr ⟨p, e, h.go g.go (fun _ z => .inr z) ?_⟩⟩
    exact g.ky p (by rw [ey]; exact .inr rfl)
  | .at i, ⟨e, h, d, q⟩ => by
    have s := g.sh i
    have R' := R
    rcases q with q | q
    · rw [q] at s
      match w : env2[i]?, s with
      | some (.own d'), _ =>
        obtain ⟨p, h', _, r⟩ := R.own i d' w
        rw [h] at h'; cases h'
        exact ⟨baseD d', by simp only [val, w]; exact val_own d', .inr ⟨p, rfl, r.base0⟩⟩
      | some (.dat d'), _ =>
        obtain ⟨p, h', r⟩ := R.dat i d' w
        rw [h] at h'; cases h'
        exact ⟨d', by simp [val, w], .inl r⟩
    · rw [q] at s
      match w : env2[i]?, s with
      | some (.dat d'), _ =>
        obtain ⟨p, h', r⟩ := R.dat i d' w
        rw [h] at h'; cases h'
        exact ⟨d', by simp [val, w], .inl r⟩
  | .nrg ks es d, ⟨p, e, ey, n, h⟩ => by
    refine ⟨d, rfl, .inr ⟨p, e, h.1.go g.go (fun _ z => .inr z) ?_⟩⟩
    exact g.ky p (by rw [ey]; exact .inr (.inl rfl))
end
end AL
namespace AL
open PySem L2
/-! AL2: the judgements over data (AE, AT, AA), results, operators. -/
section
variable {K : Fg} {σ : St} {Y Y' Y1 Y2 : Ad} {env env1 env2 : AEnv} {H H' H1 H2 : Hp}
/-- a heap that only grew -/
theorem Rep.grow (R : Rep K Y H σ env) (y : ∀ a, Y' a → Y a ∨ H a = none) (k : ∀ a o, H a = some o → H' a = some o) (yi : ∀ a, Y' a → ∃ o, H' a = some o ∧ Mut (some o)) : Rep K Y' H' σ env := by
  have g : Go (fun _ => False) (Pw Y σ env) (Pw Y' σ env) H H' := ⟨fun a o h _ => .inl (k a o h), fun a h => by
    rcases h with h | h
    · exact (y a h).imp .inl id
    · exact .inl (.inr h)⟩
  have keepq : ∀ (i : Nat) (d : D) (q : Addr), env[i]? = some (.own d) → q ∈ regA d → H' q = H q := fun i d q e m => by
    obtain ⟨_, o, h, _⟩ := R.ownY e (.inr m)
    exact (k _ _ h).trans h.symm
  refine ⟨R.len, fun i d e => ?_, fun i d e => ?_, yi, R.inj, fun i d q e m z => ?_⟩
  · obtain ⟨v, h, r⟩ := R.dat i d e
    exact ⟨v, h, r.go g fun _ z => z.elim⟩
  · obtain ⟨p, h, n, r⟩ := R.own i d e
    obtain ⟨o, q, _⟩ := r.some
    refine ⟨p, h, fun z => ?_, r.go g (fun _ z => z.elim) ((k _ _ q).trans q.symm) fun q' m => keepq i d q' e m⟩
    rcases y p z with z | z
    · exact n z
    · rw [q] at z; cases z
  · rcases y q z with z | z
    · exact R.ony i d q e m z
    · obtain ⟨_, o, h, _⟩ := R.ownY e (.inr m)
      rw [h] at z; cases z
theorem Adv.grow (R : Rep K Y H σ env) (k : ∀ a o, H a = some o → H' a = some o) (yu : ∀ a, Y a → Y' a) (y : ∀ a, Y' a → Y a ∨ H a = none) : Adv σ Y env H Y' env H' :=
  ⟨fun a o h _ => .inl (k a o h), fun a z => let ⟨o, q⟩ := R.yin a z; (k a o q).trans q.symm, yu, y, fun i => Sh.refl _, fun _ h => .inl h, fun a o h => ⟨o, k a o h⟩⟩
theorem Adv.drop (g : Adv σ Y env H Y' env1 H') : Adv σ Y env H Y env1 H' := ⟨g.keep, g.ky, fun _ h => h, fun _ h => .inl h, g.sh, g.ow, g.live⟩
theorem Adv.less (g : Adv σ Y env H Y' env1 H') (s : ∀ a, Y1 a → Y' a) (u : ∀ a, Y a → Y1 a) : Adv σ Y env H Y1 env1 H' := ⟨g.keep, g.ky, u, fun a h => g.yn a (s a h), g.sh, g.ow, g.live⟩
theorem upd_keep {p : Addr} {o : HO} (n : H p = none) : ∀ a u, H a = some u → upd H p o a = some u := fun a u h => by
  rw [upd_ne (ne_of_none h n)]; exact h
theorem pw_less (s : ∀ a, Y1 a → Y a) : ∀ a, Pw Y1 σ env a → Pw Y σ env a := fun a h => h.imp (s a) id
end

abbrev AE' := AEnv → (RV → AEnv → Prop) → Prop
abbrev AT' := AEnv → (Bool → AEnv → Prop) → Prop
abbrev AA' := AEnv → (List RV → AEnv → Prop) → Prop
def Snd (K : Fg) (t : TE) (a : AE') : Prop := ∀ (Y : Ad) (H : Hp) (σ : St) (env : AEnv) (R : RV → AEnv → Prop) (Q : VK), Rep K Y H σ env → a env R →
  (∀ v H' env' r Y', Rep K Y' H' σ env' → Adv σ Y env H Y' env' H' → ResOk K H' Y Y' σ env' v r → R r env' → Q v H') → t σ H Q
def SndT (K : Fg) (t : TT) (a : AT') : Prop := ∀ (Y : Ad) (H : Hp) (σ : St) (env : AEnv) (R : Bool → AEnv → Prop) (Q : Bool → Hp → Prop), Rep K Y H σ env → a env R →
  (∀ b H' env', Rep K Y H' σ env' → Adv σ Y env H Y env' H' → R b env' → Q b H') → t σ H Q
/-- the arguments: data, or names of owned things that are lent -/
inductive ArgsOk (K : Fg) (H : Hp) (Y : Ad) (σ : St) (env : AEnv) : List V → List RV → Prop
  | nil : ArgsOk K H Y σ env [] []
  | cons {v : V} {vs : List V} {r : RV} {rs : List RV} : ResOk K H Y Y σ env v r → ArgsOk K H Y σ env vs rs → ArgsOk K H Y σ env (v :: vs) (r :: rs)
def SndA (K : Fg) (t : TA) (a : AA') : Prop := ∀ (Y : Ad) (H : Hp) (σ : St) (env : AEnv) (R : List RV → AEnv → Prop) (Q : List V → Hp → Prop), Rep K Y H σ env → a env R →
  (∀ vs H' env' rs, Rep K Y H' σ env' → Adv σ Y env H Y env' H' → ArgsOk K H' Y σ env' vs rs → R rs env' → Q vs H') → t σ H Q
def AE (X : Cx) (e : Expr) (a : AE') : Prop := ∃ t, PE X e t ∧ Snd X.K t a
def AT (X : Cx) (e : Expr) (a : AT') : Prop := ∃ t, PT X e t ∧ SndT X.K t a
def AW (X : Cx) (e : Expr) (a : AT') : Prop := ∃ t, PW X e t ∧ SndT X.K t a
def AA (X : Cx) (es : List Expr) (a : AA') : Prop := ∃ t, PA X es t ∧ SndA X.K t a
section
variable {K : Fg} {σ : St} {Y Y' Y1 Y2 : Ad} {env env1 env2 : AEnv} {H H' H1 H2 : Hp}
/-- no new thing: data or a lent name goes on -/
theorem ResOk.on {v : V} (g : Adv σ Y env1 H1 Y env2 H2) : ∀ {r : RV}, ResOk K H1 Y Y σ env1 v r → ResOk K H2 Y Y σ env2 v r
  | .dat d, ⟨e, h⟩ => ⟨rfl, g.rd h⟩
  | .at i, ⟨e, h, d, q⟩ => by
    refine ⟨rfl, h, ?_⟩
    have s := g.sh i
    rcases q with q | q
    · rw [q] at s
      match w : env2[i]?, s with
      | some (.own d'), _ => exact ⟨d', .inl rfl⟩
      | some (.dat d'), _ => exact ⟨d', .inr rfl⟩
    · rw [q] at s
      match w : env2[i]?, s with
      | some (.dat d'), _ => exact ⟨d', .inr rfl⟩
  | .new d, ⟨p, _, ey, n, _⟩ => by
    refine (n (.inl ?_)).elim
    rw [ey]
    exact .inr rfl
  | .nrg ks es d, ⟨p, _, ey, n, _⟩ => by
    refine (n p (.inl rfl) (.inl ?_)).elim
    rw [ey]
    exact .inr (.inl rfl)
theorem ArgsOk.on (g : Adv σ Y env1 H1 Y env2 H2) : ∀ {vs : List V} {rs : List RV}, ArgsOk K H1 Y σ env1 vs rs → ArgsOk K H2 Y σ env2 vs rs
  | _, _, .nil => .nil
  | _, _, .cons h r => .cons (h.on g) (r.on g)
end

/-! ### names, constants -/
def aVar (i : Nat) : AE' := fun env R => match env[i]? with
  | some (.dat d) => R (.dat d) env
  | some (.own _) => R (.at i) env
  | _ => False
def aC (d : D) : AE' := fun env R => R (.dat d) env
theorem snd_var {K : Fg} (i : Nat) : Snd K (tVar i) (aVar i) := by
  intro Y H σ env R Q rep a k
  unfold aVar at a
  match w : env[i]?, a with
  | some (.dat d), a =>
    obtain ⟨v, h, r⟩ := rep.dat i d w
    exact ⟨v, h, k v H env (.dat d) Y rep Adv.refl ⟨rfl, r⟩ a⟩
  | some (.own d), a =>
    obtain ⟨p, h, n, r⟩ := rep.own i d w
    exact ⟨_, h, k _ H env (.at i) Y rep Adv.refl ⟨rfl, h, d, .inl w⟩ a⟩
theorem snd_c {K : Fg} {v : V} {d : D} (h : ∀ H P, RD K H P v d) : Snd K (tC v) (aC d) := fun Y H σ env R Q rep a k => k v H env (.dat d) Y rep Adv.refl ⟨rfl, h _ _⟩ a
section
variable {X : Cx} {pos : Pos}
theorem av (i : Nat) {x : Str} (hN : X.N[i]? = some x := by rfl) (hv : Vis X.env.scope x := by first | exact Or.inl rfl | exact Or.inr (Or.inl rfl) | exact Or.inr (Or.inr rfl)) (hd : (x == ("__debug__" : Str)) = false := by decide)
    (hcd : (x == ("__classdict__" : Str)) = false := by decide) : AE X (.Name x pos) (aVar i) := ⟨_, pe_var hN hv hd hcd, snd_var i⟩
theorem ae_int {i : Int} {j} : AE X (.Constant (.int i) j pos) (aC (.int i)) := ⟨_, pe_int, snd_c fun _ _ => .int i⟩
theorem ae_bl {b : Bool} {j} : AE X (.Constant (.bool b) j pos) (aC (.bl b)) := ⟨_, pe_bl, snd_c fun _ _ => .bl b⟩
theorem ae_non {j} : AE X (.Constant .none j pos) (aC .non) := ⟨_, pe_non, snd_c fun _ _ => .non⟩
theorem ae_str {x : Str} {j} : AE X (.Constant (.str x) j pos) (aC (.str x)) := ⟨_, pe_str, snd_c fun _ _ => .str x⟩
theorem ae_globI {x : Str} {i : Int} {u : Value} (hg : Gl X x) (hm : X.mg x = some u) (r : RelV (.int i) u) (hd : (x == ("__debug__" : Str)) = false := by decide) : AE X (.Name x pos) (aC (.int i)) := ⟨_, pe_glob hg hm r hd, snd_c fun _ _ => .int i⟩
theorem ae_globS {x : Str} {i : Str} {u : Value} (hg : Gl X x) (hm : X.mg x = some u) (r : RelV (.str i) u) (hd : (x == ("__debug__" : Str)) = false := by decide) : AE X (.Name x pos) (aC (.str i)) := ⟨_, pe_glob hg hm r hd, snd_c fun _ _ => .str i⟩
end

/-! ### a result handed over as data -/
def frz (env : AEnv) (R : RV → AEnv → Prop) : RV → Prop
  | .dat d => R (.dat d) env
  | .new d => R (.dat d) env
  | .nrg ks es d => R (.dat (res (.rg ks es d))) env
  | .at i => match env[i]? with
    | some (.own d) => (match isRg d with | true => False | false => R (.dat d) (env.set i (.dat d)))
    | some (.dat d) => R (.dat d) env
    | _ => False
theorem frz_own {R : RV → AEnv → Prop} {env : AEnv} {i : Nat} {d : D} (h : match isRg d with | true => False | false => R (.dat d) (env.set i (.dat d))) : isRg d = false ∧ R (.dat d) (env.set i (.dat d)) := by
  cases d <;> first | exact ⟨rfl, h⟩ | exact h.elim
def aFrz (a : AE') : AE' := fun env R => a env fun r env1 => frz env1 R r
section
variable {K : Fg} {σ : St} {Y Y' Y1 Y2 : Ad} {env env1 env2 : AEnv} {H H' H1 H2 : Hp}
theorem Rep.freeze {i : Nat} {d : D} (R : Rep K Y H σ env) (h : env[i]? = some (.own d)) (hr : isRg d = false) : Rep K Y H σ (env.set i (.dat d)) ∧ Adv σ Y env H Y (env.set i (.dat d)) H ∧ ∃ v, σ[i]? = some (some v) ∧ RD K H (Pw Y σ (env.set i (.dat d))) v d := by
  have hi : i < env.length := (List.getElem?_eq_some_iff.mp h).1
  have back : ∀ (j : Nat) (e : D), (env.set i (.dat d))[j]? = some (.own e) → env[j]? = some (.own e) ∧ j ≠ i := fun j e q => by
    by_cases z : i = j
    · subst z
      rw [List.getElem?_set_self hi] at q; cases q
    · rw [List.getElem?_set_ne z] at q
      exact ⟨q, fun w => z w.symm⟩
  have ow : ∀ a, Own σ (env.set i (.dat d)) a → Own σ env a := fun a ⟨j, e, q, w⟩ => ⟨j, e, (back j e q).1, w⟩
  have pw : ∀ a, Pw Y σ (env.set i (.dat d)) a → Pw Y σ env a := fun a z => z.imp id (ow a)
  obtain ⟨p, hp, np, rp⟩ := R.own i d h
  have npw : ¬ Pw Y σ (env.set i (.dat d)) p := fun z => by
    rcases z with z | ⟨j, e, q, w⟩
    · exact np z
    · obtain ⟨q1, q2⟩ := back j e q
      exact q2 (R.inj j i e d p q1 h w (.inl hp))
  have rg0 : regA d = [] := (rp.base hr).2
  have rd : RD K H (Pw Y σ (env.set i (.dat d))) (.ref p) d := ((rp.less pw).base hr).1.rd npw
  refine ⟨⟨by rw [List.length_set]; exact R.len, fun j e q => ?_, fun j e q => ?_, R.yim, fun j k e f a q1 q2 w1 w2 => R.inj j k e f a (back j e q1).1 (back k f q2).1 w1 w2, fun j e q q1 m => R.ony j e q (back j e q1).1 m⟩, ⟨fun _ _ h _ => .inl h, fun _ _ => rfl, fun _ h => h, fun _ h => .inl h, fun j => ?_, fun a z => .inl (ow a z), fun _ o h => ⟨o, h⟩⟩, _, hp, rd⟩
  · by_cases z : i = j
    · subst z
      rw [List.getElem?_set_self hi] at q; cases q
      exact ⟨_, hp, rd⟩
    · rw [List.getElem?_set_ne z] at q
      obtain ⟨v, w, r⟩ := R.dat j e q
      exact ⟨v, w, r.less pw⟩
  · obtain ⟨q1, q2⟩ := back j e q
    obtain ⟨p', w, n, r⟩ := R.own j e q1
    exact ⟨p', w, n, r.less pw⟩
  · by_cases z : i = j
    · subst z
      rw [List.getElem?_set_self hi, h]
      have ab := (rp.base hr).1
      match d, ab, rg0 with
      | .lst _, _, e => exact ⟨rfl, e⟩
      | .dic _ _, _, e => exact ⟨rfl, e⟩
      | .dit _ _, _, e => exact ⟨rfl, e⟩
      | .obj _ _ _, _, e => exact ⟨rfl, e⟩
    · rw [List.getElem?_set_ne z]
      exact Sh.refl _
/-- the step of freezing -/
theorem frz_ok {v : V} {r : RV} {R : RV → AEnv → Prop} (rep : Rep K Y1 H σ env) (yu : ∀ a, Y a → Y1 a) (h : ResOk K H Y Y1 σ env v r) (q : frz env R r) :
    ∃ env2 d, Rep K Y H σ env2 ∧ Adv σ Y env H Y env2 H ∧ RD K H (Pw Y σ env2) v d ∧ R (.dat d) env2 := by
  cases r with
  | dat d =>
    obtain ⟨e, h1⟩ := h
    subst e
    exact ⟨env, d, rep, Adv.refl, h1, q⟩
  | new d =>
    obtain ⟨p, e, ey, n, h1⟩ := h
    subst e
    exact ⟨env, d, rep.less yu, Adv.refl, (h1.less (pw_less yu)).rd n, q⟩
  | nrg ks es d =>
    obtain ⟨p, e, ey, n, h1⟩ := h
    subst e
    exact ⟨env, _, rep.less yu, Adv.refl, (h1.less (pw_less yu)).rd (n p (.inl rfl)) (fun q m => n q (.inr m)), q⟩
  | «at» i =>
    obtain ⟨e, h1, d, w⟩ := h
    subst e
    rcases w with w | w
    · have q' : isRg d = false ∧ R (.dat d) (env.set i (.dat d)) := by
        have q : frz env R (.at i) := q
        simp only [frz, w] at q
        exact frz_own q
      obtain ⟨a, b, v', h', r⟩ := rep.freeze w q'.1
      rw [h1] at h'; cases h'
      exact ⟨_, d, a, b, r, q'.2⟩
    · have q' : R (.dat d) env := by simpa [frz, w] using q
      obtain ⟨v', h', r⟩ := rep.dat i d w
      rw [h1] at h'; cases h'
      exact ⟨_, d, rep, Adv.refl, r, q'⟩
theorem Snd.frz {t : TE} {a : AE'} (s : Snd K t a) : Snd K t (aFrz a) := by
  intro Y H σ env R Q rep h k
  refine s Y H σ env _ Q rep h fun v H' env' r Y' rep' g ok q => ?_
  obtain ⟨env2, d, rep2, g2, rd, q2⟩ := frz_ok rep' g.yu ok q
  exact k v H' env2 (.dat d) Y rep2 (g.drop.trans g2) ⟨rfl, rd⟩ q2
theorem AE.frz {X : Cx} {e : Expr} {a : AE'} (h : AE X e a) : AE X e (aFrz a) := let ⟨t, p, s⟩ := h; ⟨t, p, s.frz⟩
end

/-! ### arguments -/
def aNil : AA' := fun env R => R [] env
/-- an argument that is data (freeze first), or a lent name -/
def aCons (a : AE') (t : AA') : AA' := fun env R => a env fun r env1 => (match r with | .new _ => False | .nrg _ _ _ => False | _ => True) ∧ t env1 fun rs env2 => R (r :: rs) env2
def aConsD (a : AE') (t : AA') : AA' := aCons (aFrz a) t
section
variable {X : Cx} {e : Expr} {es : List Expr} {a : AE'} {t : AA'}
theorem aa_nil : AA X [] aNil := ⟨_, pa_nil, fun Y H σ env R Q rep h k => k [] H env [] rep Adv.refl .nil h⟩
theorem aa_cons (h1 : AE X e a) (h2 : AA X es t) (hs : starEach (e :: es) X.env = (false, eval e X.env) :: starEach es X.env := by rfl) : AA X (e :: es) (aCons a t) := by
  obtain ⟨u, p, s⟩ := h1
  obtain ⟨u2, p2, s2⟩ := h2
  refine ⟨_, pa_cons p p2 hs, fun Y H σ env R Q rep h k => ?_⟩
  refine s Y H σ env _ _ rep h fun v H' env' r Y' rep' g ok q => ?_
  obtain ⟨q1, q⟩ := q
  have ey : Y' = Y := by
    match r, ok, q1 with
    | .dat _, ok, _ => exact ok.1
    | .at _, ok, _ => exact ok.1
  subst ey
  refine s2 Y' H' σ env' _ _ rep' q fun vs H2 env2 rs rep2 g2 ok2 q2 => ?_
  exact k _ H2 env2 _ rep2 (g.trans g2) (.cons (ok.on g2) ok2) q2
theorem aa_consD (h1 : AE X e a) (h2 : AA X es t) (hs : starEach (e :: es) X.env = (false, eval e X.env) :: starEach es X.env := by rfl) : AA X (e :: es) (aConsD a t) := aa_cons h1.frz h2 hs
end

/-! ### operators by values -/
abbrev Op2 := D → D → (RV → Prop) → Prop
def OpS (K : Fg) (r : R2) (f : Op2) : Prop := ∀ (Y : Ad) (H : Hp) (σ : St) (env : AEnv) (x y : V) (d e : D) (F : RV → Prop) (Q : VK), Rep K Y H σ env → RC K H (Pw Y σ env) x d → RC K H (Pw Y σ env) y e → f d e F →
  (∀ v H' z Y', Rep K Y' H' σ env → Adv σ Y env H Y' env H' → ResOk K H' Y Y' σ env v z → F z → Q v H') → r x y H Q
def aOp (f : Op2) (a b : AE') : AE' := fun env R => a env fun r env1 => b env1 fun s env2 => match val env2 r, val env2 s with
  | some d, some e => f d e fun z => R z env2
  | _, _ => False
theorem snd_op {K : Fg} {r : R2} {f : Op2} {ta tb : TE} {a b : AE'} (o : OpS K r f) (ha : Snd K ta a) (hb : Snd K tb b) : Snd K (tOp r ta tb) (aOp f a b) := by
  intro Y H σ env R Q rep h k
  refine ha Y H σ env _ _ rep h fun v H1 env1 r1 Y1 rep1 g1 ok1 q1 => ?_
  refine hb Y1 H1 σ env1 _ _ rep1 q1 fun u H2 env2 r2 Y2 rep2 g2 ok2 q2 => ?_
  obtain ⟨d, e1, c1⟩ := ok1.later g2 rep2
  obtain ⟨e, e2, c2⟩ := ok2.rc rep2
  simp only [e1, e2] at q2
  have yu : ∀ a, Y a → Y2 a := fun a z => g2.yu a (g1.yu a z)
  refine o Y H2 σ env2 v u d e _ _ (rep2.less yu) (c1.less (pw_less yu)) (c2.less (pw_less yu)) q2 fun w H3 z Y3 rep3 g3 ok3 q3 => ?_
  exact k w H3 env2 z Y3 rep3 ((g1.trans g2).drop.trans g3) ok3 q3
theorem ae_op {X : Cx} {op : Operator} {r : R2} {f : Op2} {a b : Expr} {fa fb : AE'} {pos : Pos} (ho : OpR X (binaryOp op) r) (o : OpS X.K r f) (ha : AE X a fa) (hb : AE X b fb) : AE X (.BinOp a op b pos) (aOp f fa fb) := by
  obtain ⟨t, p, s⟩ := ha
  obtain ⟨t2, p2, s2⟩ := hb
  exact ⟨_, pe_op ho p p2, snd_op o s s2⟩
theorem ae_cmpR {X : Cx} {op : CmpOp} {r : R2} {f : Op2} {a b : Expr} {fa fb : AE'} {pos : Pos} (ho : OpR X (compareOp op) r) (o : OpS X.K r f) (ha : AE X a fa) (hb : AE X b fb) (hm : behindInMarks op b = false) : AE X (.Compare a [op] [b] pos) (aOp f fa fb) := by
  obtain ⟨t, p, s⟩ := ha
  obtain ⟨t2, p2, s2⟩ := hb
  exact ⟨_, pe_cmpR ho p p2 hm, snd_op o s s2⟩
end AL
namespace AL
open PySem L2
/-! AL3: operators. -/
section
variable {K : Fg} {σ : St} {Y Y' : Ad} {env : AEnv} {H H' : Hp}
theorem Rep.fresh (R : Rep K Y H σ env) {p : Addr} (n : H p = none) : ¬ Pw Y σ env p := fun z => by
  rcases z with z | ⟨i, d, e, w⟩
  · obtain ⟨o, q⟩ := R.yin p z
    rw [n] at q; cases q
  · obtain ⟨_, o, q, _⟩ := R.ownY e w
    rw [n] at q; cases q
theorem same_upd {p : Addr} {o : HO} (n : H p = none) : Same H (upd H p o) := upd_keep n
/-- what was data stays data in a heap that only grew -/
theorem RD.same {P : Ad} {v : V} {d : D} (h : RD K H P v d) (k : Same H H') : RD K H' P v d := h.go (P0 := fun _ => False) ⟨fun a o q _ => .inl (k a o q), fun a z => .inl z⟩ fun _ z => z.elim
theorem RDs.same {P : Ad} {v : List V} {d : List D} (h : RDs K H P v d) (k : Same H H') : RDs K H' P v d := h.go (P0 := fun _ => False) ⟨fun a o q _ => .inl (k a o q), fun a z => .inl z⟩ fun _ z => z.elim
abbrev Fin (K : Fg) (Y : Ad) (H : Hp) (σ : St) (env : AEnv) (F : RV → Prop) (Q : VK) : Prop := ∀ v H' z Y', Rep K Y' H' σ env → Adv σ Y env H Y' env H' → ResOk K H' Y Y' σ env v z → F z → Q v H'
variable {F : RV → Prop} {Q : VK}
theorem fin_dat {v : V} {d : D} (R : Rep K Y H σ env) (k : Fin K Y H σ env F Q) (r : RD K H (Pw Y σ env) v d) (f : F (.dat d)) : Q v H := k v H (.dat d) Y R Adv.refl ⟨rfl, r⟩ f
theorem Rep.same (R : Rep K Y H σ env) (k : Same H H') : Rep K Y H' σ env := R.grow (fun _ z => .inl z) k fun a z => let ⟨o, q, m⟩ := R.yim a z; ⟨o, k a o q, m⟩
theorem Adv.same (R : Rep K Y H σ env) (k : Same H H') : Adv σ Y env H Y env H' := Adv.grow R k (fun _ z => z) fun _ z => .inl z
theorem fin_tup {us : List V} {ds : List D} {p : Addr} (R : Rep K Y H σ env) (k : Fin K Y H σ env F Q) (r : RDs K H (Pw Y σ env) us ds) (hl : ds.length ≤ sizeLine) (f : F (.dat (.tup ds))) (n : H p = none) : Q (.ref p) (upd H p (.tup us)) :=
  k _ _ (.dat (.tup ds)) Y (R.same (same_upd n)) (Adv.same R (same_upd n)) ⟨rfl, .tup (.inl ⟨.inl upd_same, R.fresh n, by rw [r.length]; exact hl⟩) (r.same (same_upd n))⟩ f
theorem fin_hup {us : List V} {ds : List D} {p : Addr} (R : Rep K Y H σ env) (k : Fin K Y H σ env F Q) (r : RDs K H (Pw Y σ env) us ds) (hl : ds.length ≤ sizeLine) (f : F (.dat (.dit ds (.non :: ds)))) (n : H p = none) : Q (.ref p) (upd H p (.tup us)) :=
  k _ _ (.dat (.dit ds (.non :: ds))) Y (R.same (same_upd n)) (Adv.same R (same_upd n)) ⟨rfl, .hup upd_same (R.fresh n) (by rw [r.length]; exact hl) (r.same (same_upd n))⟩ f
/-- a new owned thing -/
theorem fin_new {o : HO} {d : D} {p : Addr} (R : Rep K Y H σ env) (k : Fin K Y H σ env F Q) (n : H p = none) (r : RO0 K (upd H p o) (fun a => Pw Y σ env a ∨ a = p) p d) (f : F (.new d)) : Q (.ref p) (upd H p o) := by
  have nf := R.fresh n
  have pe : ∀ a, Pw (fun a => Y a ∨ a = p) σ env a → Pw Y σ env a ∨ a = p := fun a z => by
    rcases z with (z | z) | z
    · exact .inl (.inl z)
    · exact .inr z
    · exact .inl (.inr z)
  refine k _ _ (.new d) (fun a => Y a ∨ a = p) (R.grow (fun a z => z.imp id fun e => by rw [e]; exact n) (same_upd n) fun a z => ?_) (Adv.grow R (same_upd n) (fun _ z => .inl z) fun a z => z.imp id fun e => by rw [e]; exact n) ⟨p, rfl, rfl, nf, r.less pe⟩ f
  rcases z with z | z
  · obtain ⟨u, q, m⟩ := R.yim a z
    exact ⟨u, same_upd n a u q, m⟩
  · subst z
    obtain ⟨o', h', m⟩ := r.some
    exact ⟨o', h', m⟩
theorem rds_new {us : List V} {ds : List D} {p : Addr} {o : HO} {P : Ad} (r : RDs K H P us ds) (n : H p = none) : RDs K (upd H p o) (fun a => P a ∨ a = p) us ds :=
  r.go (P0 := fun _ => False) ⟨fun a u q _ => .inl (same_upd n a u q), fun a z => z.imp id fun e => by rw [e]; exact n⟩ fun _ z => z.elim
theorem fin_lst {us : List V} {ds : List D} {p : Addr} (R : Rep K Y H σ env) (k : Fin K Y H σ env F Q) (r : RDs K H (Pw Y σ env) us ds) (hl : ds.length ≤ sizeLine) (f : F (.new (.lst ds))) (n : H p = none) : Q (.ref p) (upd H p (.lst us)) :=
  fin_new (d := .lst ds) R k n ⟨us, upd_same, rds_new r n, by rw [r.length]; exact hl⟩ f
/-! what a read thing is -/
theorem RC.int {P : Ad} {v : V} {i : Int} (h : RC K H P v (.int i)) : v = .int i := by
  rcases h with h | ⟨p, _, h⟩
  · cases h; rfl
  · exact h.elim
theorem RC.bl {P : Ad} {v : V} {i : Bool} (h : RC K H P v (.bl i)) : v = .bl i := by
  rcases h with h | ⟨p, _, h⟩
  · cases h; rfl
  · exact h.elim
theorem RC.str {P : Ad} {v : V} {i : Str} (h : RC K H P v (.str i)) : v = .str i := by
  rcases h with h | ⟨p, _, h⟩
  · cases h; rfl
  · exact h.elim
theorem RC.non {P : Ad} {v : V} (h : RC K H P v .non) : v = .non := by
  rcases h with h | ⟨p, _, h⟩
  · cases h; rfl
  · exact h.elim
theorem RC.lst {P : Ad} {v : V} {ds : List D} (h : RC K H P v (.lst ds)) : ∃ p us, v = .ref p ∧ H p = some (.lst us) ∧ RDs K H P us ds ∧ ds.length ≤ sizeLine := by
  rcases h with h | ⟨p, e, h⟩
  · cases h with
    | lst s r => exact ⟨_, _, rfl, s.1, r, by rw [← r.length]; exact s.2.2⟩
  · obtain ⟨us, q, r, l⟩ := h
    exact ⟨p, us, e, q, r, by rw [← r.length]; exact l⟩
theorem RC.tup {P : Ad} {v : V} {ds : List D} (h : RC K H P v (.tup ds)) : ∃ p us, v = .ref p ∧ SqT K H p us ∧ RDs K H P us ds ∧ RD K H P v (.tup ds) ∧ ds.length ≤ sizeLine := by
  rcases h with h | ⟨p, e, h⟩
  · have h' := h
    cases h with
    | tup s r => exact ⟨_, _, rfl, s.sq, r, h', by rw [← r.length]; exact s.len⟩
  · exact h.elim
theorem RC.scr {P : Ad} {v : V} {ds : List D} (h : RC K H P v (.scr ds)) : ∃ p us, v = .ref p ∧ SqL K H p us ∧ RDs K H P us ds ∧ ds.length ≤ sizeLine := by
  rcases h with h | ⟨p, e, h⟩
  · cases h with
    | scr s r => exact ⟨_, _, rfl, s.sq, r, by rw [← r.length]; exact s.1⟩
  · exact h.elim
theorem RC.nonOf {P : Ad} {d : D} (h : RC K H P .non d) : d = .non := by
  rcases h with h | ⟨p, e, h⟩
  · cases h; rfl
  · cases e
def isNonD : D → Bool
  | .non => true
  | _ => false
theorem RC.isNon {P : Ad} {v : V} {d : D} (h : RC K H P v d) : decide (v = .non) = isNonD d := by
  rcases h with h | ⟨p, e, h⟩
  · cases h <;> simp [isNonD]
  · subst e
    cases d <;> first | exact h.elim | simp [isNonD]
end

def fAdd : Op2 := fun d e F => match d, e with
  | .int i, .int j => F (.dat (.int (i + j)))
  | .str x, .str y => x.length + y.length ≤ sizeLine ∧ F (.dat (.str (x ++ y)))
  | .tup a, .tup b => a.length + b.length ≤ sizeLine ∧ F (.dat (.tup (a ++ b)))
  | .lst a, .lst b => a.length + b.length ≤ sizeLine ∧ F (.new (.lst (a ++ b)))
  | _, _ => False
def rStrAdd : R2 := fun x y H Q => ∃ i j, x = .str i ∧ y = .str j ∧ i.length + j.length ≤ sizeLine ∧ Q (.str (i ++ j)) H
abbrev rAdd4 (K : Fg) : R2 := fun x y H Q => rI0 (fun i j => .int (i + j)) x y H Q ∨ (rStrAdd x y H Q ∨ (rCatA K x y H Q ∨ rCat x y H Q))
theorem or_add {X : Cx} : OpR X (binaryOp .Add) (rAdd4 X.K) := OpR.or op_add (OpR.or op_add_str (OpR.or op_catA op_cat))
theorem os_add (K : Fg) : OpS K (rAdd4 K) fAdd := by
  intro Y H σ env x y d e F Q R cx cy f k
  match d, e, f with
  | .int i, .int j, f => exact .inl ⟨i, j, cx.int, cy.int, fin_dat R k (.int _) f⟩
  | .str i, .str j, f => exact .inr (.inl ⟨i, j, cx.str, cy.str, f.1, fin_dat R k (.str _) f.2⟩)
  | .tup a, .tup b, f =>
    obtain ⟨p, us, e1, s1, r1, d1, _⟩ := cx.tup
    obtain ⟨q, vs, e2, s2, r2, d2, _⟩ := cy.tup
    refine .inr (.inr (.inl ⟨p, q, us, vs, e1, e2, s1, s2, by rw [r1.length, r2.length]; exact f.1, fun z => ?_, fun _ z => ?_, fun _ _ l n => fin_tup R k (r1.append r2) (by rw [List.length_append]; exact f.1) f.2 n⟩))
    · subst z
      cases r1
      subst e2
      exact fin_dat R k d2 f.2
    · subst z
      cases r2
      subst e1
      have := f.2
      rw [List.append_nil] at this
      exact fin_dat R k d1 this
  | .lst a, .lst b, f =>
    obtain ⟨p, us, e1, s1, r1, _⟩ := cx.lst
    obtain ⟨q, vs, e2, s2, r2, _⟩ := cy.lst
    exact .inr (.inr (.inr ⟨p, q, us, vs, e1, e2, s1, s2, by rw [r1.length, r2.length]; exact f.1, fun l n => fin_lst R k (r1.append r2) (by rw [List.length_append]; exact f.1) f.2 n⟩))
/-- two ints, under C -/
def fII (C : Int → Int → Prop) (g : Int → Int → D) : Op2 := fun d e F => match d, e with
  | .int i, .int j => C i j ∧ F (.dat (g i j))
  | _, _ => False
theorem os_ii {K : Fg} {C : Int → Int → Prop} {g : Int → Int → Int} : OpS K (rI C fun i j => .int (g i j)) (fII C fun i j => .int (g i j)) := by
  intro Y H σ env x y d e F Q R cx cy f k
  match d, e, f with
  | .int i, .int j, f => exact ⟨i, j, cx.int, cy.int, f.1, fin_dat R k (.int _) f.2⟩
def fI0 (g : Int → Int → D) : Op2 := fun d e F => match d, e with
  | .int i, .int j => F (.dat (g i j))
  | _, _ => False
theorem os_i0 {K : Fg} {g : Int → Int → Int} : OpS K (rI0 fun i j => .int (g i j)) (fI0 fun i j => .int (g i j)) := by
  intro Y H σ env x y d e F Q R cx cy f k
  match d, e, f with
  | .int i, .int j, f => exact ⟨i, j, cx.int, cy.int, fin_dat R k (.int _) f⟩
theorem os_b0 {K : Fg} {g : Int → Int → Bool} : OpS K (rI0 fun i j => .bl (g i j)) (fI0 fun i j => .bl (g i j)) := by
  intro Y H σ env x y d e F Q R cx cy f k
  match d, e, f with
  | .int i, .int j, f => exact ⟨i, j, cx.int, cy.int, fin_dat R k (.bl _) f⟩

/-! ### data as PyData, equality -/
mutual
def D.pd : D → PyData
  | .non => .none
  | .bl b => .bool b
  | .int i => .int i
  | .str x => .str x
  | .tup l => .tuple (pds l)
  | .lst l => .list (pds l)
  | .dic _ _ => .dict []
  | .dit _ _ => .dict []
  | .obj _ _ _ => .dict []
  | .scr _ => .dict []
  | .ptr _ => .dict []
  | .rg _ _ _ => .dict []
def pds : List D → List PyData
  | [] => []
  | d :: ds => d.pd :: pds ds
end
mutual
theorem RD.dp {K : Fg} {H : Hp} {P : Ad} : ∀ {v : V} {d : D}, RD K H P v d → PyData.canLay0 d.pd = true → Dp K H v d.pd
  | _, _, .non, _ => by simp only [D.pd]; exact .non
  | _, _, .bl b, _ => by simp only [D.pd]; exact .bl b
  | _, _, .int i, _ => by simp only [D.pd]; exact .int i
  | _, _, .str x, _ => by simp only [D.pd]; exact .str x
  | _, _, .tup s r, c => by
    simp only [D.pd] at c ⊢
    exact .tup s.sq (r.dp (by simpa only [PyData.canLay0] using c))
  | _, _, .lst s r, c => by
    simp only [D.pd] at c ⊢
    exact .lst s.sq (r.dp (by simpa only [PyData.canLay0] using c))
  | _, _, .dK _ _ _ _, c => by simp [D.pd, PyData.canLay0] at c
  | _, _, .dT _ _ _ _, c => by simp [D.pd, PyData.canLay0] at c
  | _, _, .obj _ _ _ _, c => by simp [D.pd, PyData.canLay0] at c
  | _, _, .scr _ _, c => by simp [D.pd, PyData.canLay0] at c
  | _, _, .ptr _, c => by simp [D.pd, PyData.canLay0] at c
theorem RDs.dp {K : Fg} {H : Hp} {P : Ad} : ∀ {v : List V} {d : List D}, RDs K H P v d → PyData.canLayAll0 (pds d) = true → DpAll K H v (pds d)
  | _, _, .nil, _ => by simp only [pds]; exact .nil
  | _, _, .cons h r, c => by
    simp only [pds, PyData.canLayAll0, Bool.and_eq_true] at c ⊢
    exact .cons (h.dp c.1) (r.dp c.2)
end
/-- data that == looks at: depth, texts -/
def D.sh (d : D) : Prop := SeqAt.shaped d.pd = true
theorem RC.dp {K : Fg} {H : Hp} {P : Ad} {v : V} {d : D} (h : RC K H P v d) (s : d.sh) : Dp K H v d.pd := h.rd.dp (SeqAt.canLay_of_shaped s)
@[irreducible] def fEq : Op2 := fun d e F => d.sh ∧ e.sh ∧ F (.dat (.bl (PyData.eqv d.pd e.pd)))
@[irreducible] def fNe : Op2 := fun d e F => d.sh ∧ e.sh ∧ F (.dat (.bl (!PyData.eqv d.pd e.pd)))
theorem os_eq (K : Fg) : OpS K (rEqD K) fEq := fun Y H σ env x y d e F Q R cx cy f k => by
  unfold fEq at f
  exact ⟨d.pd, e.pd, cx.dp f.1, cy.dp f.2.1, f.1, f.2.1, fin_dat R k (.bl _) f.2.2⟩
theorem os_ne (K : Fg) : OpS K (rNeD K) fNe := fun Y H σ env x y d e F Q R cx cy f k => by
  unfold fNe at f
  exact ⟨d.pd, e.pd, cx.dp f.1, cy.dp f.2.1, f.1, f.2.1, fin_dat R k (.bl _) f.2.2⟩
def fIsN : Op2 := fun d e F => match e with
  | .non => F (.dat (.bl (isNonD d)))
  | _ => False
def fNotN : Op2 := fun d e F => match e with
  | .non => F (.dat (.bl (!isNonD d)))
  | _ => False
theorem os_isN (K : Fg) : OpS K (fun x y H Q => y = .non ∧ Q (.bl (decide (x = .non))) H) fIsN := by
  intro Y H σ env x y d e F Q R cx cy f k
  match e, f with
  | .non, f => exact ⟨cy.non, by rw [cx.isNon]; exact fin_dat R k (.bl _) f⟩
theorem os_notN (K : Fg) : OpS K (fun x y H Q => y = .non ∧ Q (.bl (!decide (x = .non))) H) fNotN := by
  intro Y H σ env x y d e F Q R cx cy f k
  match e, f with
  | .non, f => exact ⟨cy.non, by rw [cx.isNon]; exact fin_dat R k (.bl _) f⟩
end AL
namespace AL
open PySem L2 PyProof.Rows
/-! AL4: equality of data, membership, subscripts, slices, dicts that are read. -/
mutual
def decD : (a b : D) → Decidable (a = b)
  | .non, .non => .isTrue rfl
  | .non, .bl _ => .isFalse (fun h => by cases h)
  | .non, .int _ => .isFalse (fun h => by cases h)
  | .non, .str _ => .isFalse (fun h => by cases h)
  | .non, .tup _ => .isFalse (fun h => by cases h)
  | .non, .lst _ => .isFalse (fun h => by cases h)
  | .non, .dic _ _ => .isFalse (fun h => by cases h)
  | .non, .dit _ _ => .isFalse (fun h => by cases h)
  | .non, .obj _ _ _ => .isFalse (fun h => by cases h)
  | .non, .scr _ => .isFalse (fun h => by cases h)
  | .non, .ptr _ => .isFalse (fun h => by cases h)
  | .non, .rg _ _ _ => .isFalse (fun h => by cases h)
  | .bl _, .non => .isFalse (fun h => by cases h)
  | .bl a, .bl b => if h : a = b then .isTrue (h ▸ rfl) else .isFalse (fun e => by cases e; exact h rfl)
  | .bl _, .int _ => .isFalse (fun h => by cases h)
  | .bl _, .str _ => .isFalse (fun h => by cases h)
  | .bl _, .tup _ => .isFalse (fun h => by cases h)
  | .bl _, .lst _ => .isFalse (fun h => by cases h)
  | .bl _, .dic _ _ => .isFalse (fun h => by cases h)
  | .bl _, .dit _ _ => .isFalse (fun h => by cases h)
  | .bl _, .obj _ _ _ => .isFalse (fun h => by cases h)
  | .bl _, .scr _ => .isFalse (fun h => by cases h)
  | .bl _, .ptr _ => .isFalse (fun h => by cases h)
  | .bl _, .rg _ _ _ => .isFalse (fun h => by cases h)
  | .int _, .non => .isFalse (fun h => by cases h)
  | .int _, .bl _ => .isFalse (fun h => by cases h)
  | .int a, .int b => if h : a = b then .isTrue (h ▸ rfl) else .isFalse (fun e => by cases e; exact h rfl)
  | .int _, .str _ => .isFalse (fun h => by cases h)
  | .int _, .tup _ => .isFalse (fun h => by cases h)
  | .int _, .lst _ => .isFalse (fun h => by cases h)
  | .int _, .dic _ _ => .isFalse (fun h => by cases h)
  | .int _, .dit _ _ => .isFalse (fun h => by cases h)
  | .int _, .obj _ _ _ => .isFalse (fun h => by cases h)
  | .int _, .scr _ => .isFalse (fun h => by cases h)
  | .int _, .ptr _ => .isFalse (fun h => by cases h)
  | .int _, .rg _ _ _ => .isFalse (fun h => by cases h)
  | .str _, .non => .isFalse (fun h => by cases h)
  | .str _, .bl _ => .isFalse (fun h => by cases h)
  | .str _, .int _ => .isFalse (fun h => by cases h)
  | .str a, .str b => if h : a = b then .isTrue (h ▸ rfl) else .isFalse (fun e => by cases e; exact h rfl)
  | .str _, .tup _ => .isFalse (fun h => by cases h)
  | .str _, .lst _ => .isFalse (fun h => by cases h)
  | .str _, .dic _ _ => .isFalse (fun h => by cases h)
  | .str _, .dit _ _ => .isFalse (fun h => by cases h)
  | .str _, .obj _ _ _ => .isFalse (fun h => by cases h)
  | .str _, .scr _ => .isFalse (fun h => by cases h)
  | .str _, .ptr _ => .isFalse (fun h => by cases h)
  | .str _, .rg _ _ _ => .isFalse (fun h => by cases h)
  | .tup _, .non => .isFalse (fun h => by cases h)
  | .tup _, .bl _ => .isFalse (fun h => by cases h)
  | .tup _, .int _ => .isFalse (fun h => by cases h)
  | .tup _, .str _ => .isFalse (fun h => by cases h)
  | .tup a, .tup b => match decDs a b with
    | .isTrue h => .isTrue (h ▸ rfl)
    | .isFalse h => .isFalse (fun e => by cases e; exact h rfl)
  | .tup _, .lst _ => .isFalse (fun h => by cases h)
  | .tup _, .dic _ _ => .isFalse (fun h => by cases h)
  | .tup _, .dit _ _ => .isFalse (fun h => by cases h)
  | .tup _, .obj _ _ _ => .isFalse (fun h => by cases h)
  | .tup _, .scr _ => .isFalse (fun h => by cases h)
  | .tup _, .ptr _ => .isFalse (fun h => by cases h)
  | .tup _, .rg _ _ _ => .isFalse (fun h => by cases h)
  | .lst _, .non => .isFalse (fun h => by cases h)
  | .lst _, .bl _ => .isFalse (fun h => by cases h)
  | .lst _, .int _ => .isFalse (fun h => by cases h)
  | .lst _, .str _ => .isFalse (fun h => by cases h)
  | .lst _, .tup _ => .isFalse (fun h => by cases h)
  | .lst a, .lst b => match decDs a b with
    | .isTrue h => .isTrue (h ▸ rfl)
    | .isFalse h => .isFalse (fun e => by cases e; exact h rfl)
  | .lst _, .dic _ _ => .isFalse (fun h => by cases h)
  | .lst _, .dit _ _ => .isFalse (fun h => by cases h)
  | .lst _, .obj _ _ _ => .isFalse (fun h => by cases h)
  | .lst _, .scr _ => .isFalse (fun h => by cases h)
  | .lst _, .ptr _ => .isFalse (fun h => by cases h)
  | .lst _, .rg _ _ _ => .isFalse (fun h => by cases h)
  | .dic _ _, .non => .isFalse (fun h => by cases h)
  | .dic _ _, .bl _ => .isFalse (fun h => by cases h)
  | .dic _ _, .int _ => .isFalse (fun h => by cases h)
  | .dic _ _, .str _ => .isFalse (fun h => by cases h)
  | .dic _ _, .tup _ => .isFalse (fun h => by cases h)
  | .dic _ _, .lst _ => .isFalse (fun h => by cases h)
  | .dic a c, .dic b d => match decDs a b, decDs c d with
    | .isTrue h, .isTrue k => .isTrue (h ▸ k ▸ rfl)
    | .isFalse h, _ => .isFalse (fun e => by cases e; exact h rfl)
    | _, .isFalse h => .isFalse (fun e => by cases e; exact h rfl)
  | .dic _ _, .dit _ _ => .isFalse (fun h => by cases h)
  | .dic _ _, .obj _ _ _ => .isFalse (fun h => by cases h)
  | .dic _ _, .scr _ => .isFalse (fun h => by cases h)
  | .dic _ _, .ptr _ => .isFalse (fun h => by cases h)
  | .dic _ _, .rg _ _ _ => .isFalse (fun h => by cases h)
  | .dit _ _, .non => .isFalse (fun h => by cases h)
  | .dit _ _, .bl _ => .isFalse (fun h => by cases h)
  | .dit _ _, .int _ => .isFalse (fun h => by cases h)
  | .dit _ _, .str _ => .isFalse (fun h => by cases h)
  | .dit _ _, .tup _ => .isFalse (fun h => by cases h)
  | .dit _ _, .lst _ => .isFalse (fun h => by cases h)
  | .dit _ _, .dic _ _ => .isFalse (fun h => by cases h)
  | .dit a c, .dit b d => match decDs a b, decDs c d with
    | .isTrue h, .isTrue k => .isTrue (h ▸ k ▸ rfl)
    | .isFalse h, _ => .isFalse (fun e => by cases e; exact h rfl)
    | _, .isFalse h => .isFalse (fun e => by cases e; exact h rfl)
  | .dit _ _, .obj _ _ _ => .isFalse (fun h => by cases h)
  | .dit _ _, .scr _ => .isFalse (fun h => by cases h)
  | .dit _ _, .ptr _ => .isFalse (fun h => by cases h)
  | .dit _ _, .rg _ _ _ => .isFalse (fun h => by cases h)
  | .obj _ _ _, .non => .isFalse (fun h => by cases h)
  | .obj _ _ _, .bl _ => .isFalse (fun h => by cases h)
  | .obj _ _ _, .int _ => .isFalse (fun h => by cases h)
  | .obj _ _ _, .str _ => .isFalse (fun h => by cases h)
  | .obj _ _ _, .tup _ => .isFalse (fun h => by cases h)
  | .obj _ _ _, .lst _ => .isFalse (fun h => by cases h)
  | .obj _ _ _, .dic _ _ => .isFalse (fun h => by cases h)
  | .obj _ _ _, .dit _ _ => .isFalse (fun h => by cases h)
  | .obj A a c, .obj B b d => if hA : A = B then if ha : a = b then match decDs c d with
    | .isTrue h => .isTrue (hA ▸ ha ▸ h ▸ rfl)
    | .isFalse h => .isFalse (fun e => by cases e; exact h rfl)
    else .isFalse (fun e => by cases e; exact ha rfl) else .isFalse (fun e => by cases e; exact hA rfl)
  | .obj _ _ _, .scr _ => .isFalse (fun h => by cases h)
  | .obj _ _ _, .ptr _ => .isFalse (fun h => by cases h)
  | .obj _ _ _, .rg _ _ _ => .isFalse (fun h => by cases h)
  | .scr _, .non => .isFalse (fun h => by cases h)
  | .scr _, .bl _ => .isFalse (fun h => by cases h)
  | .scr _, .int _ => .isFalse (fun h => by cases h)
  | .scr _, .str _ => .isFalse (fun h => by cases h)
  | .scr _, .tup _ => .isFalse (fun h => by cases h)
  | .scr _, .lst _ => .isFalse (fun h => by cases h)
  | .scr _, .dic _ _ => .isFalse (fun h => by cases h)
  | .scr _, .dit _ _ => .isFalse (fun h => by cases h)
  | .scr _, .obj _ _ _ => .isFalse (fun h => by cases h)
  | .scr a, .scr b => match decDs a b with
    | .isTrue h => .isTrue (h ▸ rfl)
    | .isFalse h => .isFalse (fun e => by cases e; exact h rfl)
  | .scr _, .ptr _ => .isFalse (fun h => by cases h)
  | .scr _, .rg _ _ _ => .isFalse (fun h => by cases h)
  | .ptr _, .non => .isFalse (fun h => by cases h)
  | .ptr _, .bl _ => .isFalse (fun h => by cases h)
  | .ptr _, .int _ => .isFalse (fun h => by cases h)
  | .ptr _, .str _ => .isFalse (fun h => by cases h)
  | .ptr _, .tup _ => .isFalse (fun h => by cases h)
  | .ptr _, .lst _ => .isFalse (fun h => by cases h)
  | .ptr _, .dic _ _ => .isFalse (fun h => by cases h)
  | .ptr _, .dit _ _ => .isFalse (fun h => by cases h)
  | .ptr _, .obj _ _ _ => .isFalse (fun h => by cases h)
  | .ptr _, .scr _ => .isFalse (fun h => by cases h)
  | .ptr a, .ptr b => if h : a = b then .isTrue (h ▸ rfl) else .isFalse (fun e => by cases e; exact h rfl)
  | .ptr _, .rg _ _ _ => .isFalse (fun h => by cases h)
  | .rg _ _ _, .non => .isFalse (fun h => by cases h)
  | .rg _ _ _, .bl _ => .isFalse (fun h => by cases h)
  | .rg _ _ _, .int _ => .isFalse (fun h => by cases h)
  | .rg _ _ _, .str _ => .isFalse (fun h => by cases h)
  | .rg _ _ _, .tup _ => .isFalse (fun h => by cases h)
  | .rg _ _ _, .lst _ => .isFalse (fun h => by cases h)
  | .rg _ _ _, .dic _ _ => .isFalse (fun h => by cases h)
  | .rg _ _ _, .dit _ _ => .isFalse (fun h => by cases h)
  | .rg _ _ _, .obj _ _ _ => .isFalse (fun h => by cases h)
  | .rg _ _ _, .scr _ => .isFalse (fun h => by cases h)
  | .rg _ _ _, .ptr _ => .isFalse (fun h => by cases h)
  | .rg A a c, .rg B b d => if hA : A = B then match decDs a b, decD c d with
    | .isTrue h, .isTrue k => .isTrue (hA ▸ h ▸ k ▸ rfl)
    | .isFalse h, _ => .isFalse (fun e => by cases e; exact h rfl)
    | _, .isFalse h => .isFalse (fun e => by cases e; exact h rfl)
    else .isFalse (fun e => by cases e; exact hA rfl)
def decDs : (a b : List D) → Decidable (a = b)
  | [], [] => .isTrue rfl
  | [], _ :: _ => .isFalse (fun h => by cases h)
  | _ :: _, [] => .isFalse (fun h => by cases h)
  | a :: as, b :: bs => match decD a b, decDs as bs with
    | .isTrue h, .isTrue k => .isTrue (h ▸ k ▸ rfl)
    | .isFalse h, _ => .isFalse (fun e => by cases e; exact h rfl)
    | _, .isFalse h => .isFalse (fun e => by cases e; exact h rfl)
end
instance : DecidableEq D := decD

/-! ### dicts as data -/
def dGet : List D → List D → D → Option D
  | k' :: ks, v :: vs, k => if k' = k then some v else dGet ks vs k
  | _, _, _ => none
def dPutV : List D → List D → D → D → List D
  | k' :: ks, v' :: vs, k, v => (if k' = k then v else v') :: dPutV ks vs k v
  | _, vs, _, _ => vs
/-- the keys and values behind d[k] = v -/
def dPutK (ks : List D) (k : D) : List D := if k ∈ ks then ks else ks ++ [k]
def dPutW (ks vs : List D) (k v : D) : List D := if k ∈ ks then dPutV ks vs k v else vs ++ [v]
def dDropV : List D → List D → D → List D
  | k' :: ks, v' :: vs, k => if k' = k then dDropV ks vs k else v' :: dDropV ks vs k
  | _, _, _ => []
theorem kD_inj : ∀ {a b : Key}, kD a = kD b → a = b
  | .inl _, .inl _, h => by injection h with h; rw [h]
  | .inr _, .inr _, h => by injection h with h; rw [h]
  | .inl _, .inr _, h => by cases h
  | .inr _, .inl _, h => by cases h
theorem map_kD_inj : ∀ {a b : List Key}, a.map kD = b.map kD → a = b
  | [], [], _ => rfl
  | [], _ :: _, h => by cases h
  | _ :: _, [], h => by cases h
  | x :: a, y :: b, h => by
    rw [List.map_cons, List.map_cons] at h
    injection h with h1 h2
    rw [kD_inj h1, map_kD_inj h2]
section
variable {K : Fg} {H : Hp} {P : Ad} {κ : Type} [DecidableEq κ]
/-- look-up, by any keys that are data by an injection -/
theorem get_val {g : κ → D} (hg : ∀ {a b}, g a = g b → a = b) (k : κ) : ∀ {kvs : List (κ × V)} {vs : List D}, RDs K H P (kvs.map (·.2)) vs →
    (∃ d v, dGet (kvs.map fun kv => g kv.1) vs (g k) = some d ∧ valV kvs k = some v ∧ RD K H P v d) ∨ (dGet (kvs.map fun kv => g kv.1) vs (g k) = none ∧ valV kvs k = none)
  | [], _, .nil => .inr ⟨rfl, rfl⟩
  | (k', v') :: r, _, h => by
    cases h with
    | cons h1 h2 =>
      rename_i d ds
      by_cases e : k' = k
      · subst e
        exact .inl ⟨d, v', by simp [dGet], valV_pos rfl, h1⟩
      · have e' : ¬ g k' = g k := fun z => e (hg z)
        have ih := get_val hg k h2
        simp only [List.map_cons, dGet, if_neg e', valV_neg (p := (k', v')) (r := r) e]
        exact ih
theorem mem_key {g : κ → D} (hg : ∀ {a b}, g a = g b → a = b) (k : κ) (kvs : List (κ × V)) : g k ∈ (kvs.map fun kv => g kv.1) ↔ (kvs.any fun kv => decide (kv.1 = k)) = true := by
  rw [List.any_eq_true, List.mem_map]
  constructor
  · rintro ⟨p, hp, e⟩
    exact ⟨p, hp, by simp [hg e]⟩
  · rintro ⟨p, hp, e⟩
    exact ⟨p, hp, by rw [of_decide_eq_true e]⟩
theorem put_map {g : κ → D} (hg : ∀ {a b}, g a = g b → a = b) {k : κ} {v : V} {d : D} (hv : RD K H P v d) : ∀ {kvs : List (κ × V)} {vs : List D}, RDs K H P (kvs.map (·.2)) vs →
    RDs K H P ((kvs.map (fun kv => if kv.1 = k then (kv.1, v) else kv)).map (·.2)) (dPutV (kvs.map fun kv => g kv.1) vs (g k) d)
  | [], _, .nil => .nil
  | (k', v') :: r, _, h => by
    cases h with
    | cons h1 h2 =>
      have ih := put_map hg (k := k) hv h2
      by_cases e : k' = k
      · subst e
        simp only [List.map_cons, dPutV, if_true]
        exact .cons hv ih
      · have e' : ¬ g k' = g k := fun z => e (hg z)
        simp only [List.map_cons, dPutV, if_neg e, if_neg e']
        exact .cons h1 ih
theorem put_keys {g : κ → D} (k : κ) (v : V) (kvs : List (κ × V)) : (kvs.map (fun kv => if kv.1 = k then (kv.1, v) else kv)).map (fun kv => g kv.1) = kvs.map fun kv => g kv.1 := by
  rw [List.map_map]
  apply List.map_congr_left
  intro p _
  show g (if p.1 = k then (p.1, v) else p).1 = g p.1
  split <;> rfl
end
/-- a dict that is read -/
theorem RC.dic {K : Fg} {H : Hp} {P : Ad} {v : V} {ks vs : List D} (h : RC K H P v (.dic ks vs)) : ∃ p, v = .ref p ∧ ∃ kvs, Rd H p (.dK kvs) ∧ ks = (kvs.map fun kv => kD kv.1) ∧ RDs K H P (kvs.map (·.2)) vs := by
  rcases h with h | ⟨p, e, h⟩
  · cases h with
    | dK s n e r => exact ⟨_, rfl, _, s, e, r⟩
  · obtain ⟨kvs, q, r⟩ := h
    exact ⟨p, e, kvs, .inl q, r⟩
theorem RC.dit {K : Fg} {H : Hp} {P : Ad} {v : V} {ks vs : List D} (h : RC K H P v (.dit ks vs)) (hl : vs.length = ks.length) : ∃ p, v = .ref p ∧ ∃ kvs, Rd H p (.dT kvs) ∧ ks = (kvs.map fun kv => D.tup (kv.1.map kD)) ∧ RDs K H P (kvs.map (·.2)) vs := by
  rcases h with h | ⟨p, e, h⟩
  · cases h with
    | dT s n e r => exact ⟨_, rfl, _, s, e, r⟩
    | hup s n l r =>
      rw [List.length_cons] at hl
      omega
  · obtain ⟨kvs, q, r⟩ := h
    exact ⟨p, e, kvs, .inl q, r⟩
/-- a key as data: an int, a text; a tuple of such -/
def isKey : D → Bool
  | .int _ => true
  | .str _ => true
  | _ => false
def isKeyT : D → Bool
  | .tup l => l.all isKey
  | _ => false
theorem isKey_of : ∀ {d : D}, isKey d = true → ∃ k : Key, d = kD k
  | .int i, _ => ⟨.inl i, rfl⟩
  | .str x, _ => ⟨.inr x, rfl⟩
  | .non, h => by cases h
  | .bl _, h => by cases h
  | .tup _, h => by cases h
  | .lst _, h => by cases h
  | .dic _ _, h => by cases h
  | .dit _ _, h => by cases h
  | .obj _ _ _, h => by cases h
  | .scr _, h => by cases h
theorem keys_of : ∀ {l : List D}, l.all isKey = true → ∃ ks : List Key, l = ks.map kD
  | [], _ => ⟨[], rfl⟩
  | d :: l, h => by
    rw [List.all_cons, Bool.and_eq_true] at h
    obtain ⟨k, rfl⟩ := isKey_of h.1
    obtain ⟨ks, rfl⟩ := keys_of h.2
    exact ⟨k :: ks, rfl⟩
section
variable {K : Fg} {H : Hp} {P : Ad}
theorem RC.key {v : V} {k : Key} (h : RC K H P v (kD k)) : v = kV k := by
  cases k with
  | inl i => exact RC.int h
  | inr x => exact RC.str h
theorem RDs.keys : ∀ {us : List V} {ks : List Key}, RDs K H P us (ks.map kD) → us = ks.map kV
  | _, [], .nil => rfl
  | _, k :: ks, .cons r t => by
    rw [RDs.keys t, RC.key (.inl r)]
    rfl
theorem RC.tupKey {v : V} {ks : List Key} (h : RC K H P v (.tup (ks.map kD))) : ∃ b, v = .ref b ∧ SqT K H b (ks.map kV) := by
  obtain ⟨p, us, e, s, r, _, _⟩ := h.tup
  rw [r.keys] at s
  exact ⟨p, e, s⟩
end
end AL
namespace AL
open PySem L2
/-! AL5: membership, subscripts, slices, tests, bool operators, conditional expressions. -/
def rInT (K : Fg) (neg : Bool) : R2 := fun x y H Q => ∃ d ds, Dp K H x d ∧ Dp K H y (.tuple ds) ∧ SeqAt.shaped d = true ∧ SeqAt.shaped (.tuple ds) = true ∧ Q (.bl (if neg then !ds.any fun z => PyData.eqv z d else ds.any fun z => PyData.eqv z d)) H
def rInDc (neg : Bool) : R2 := fun x y H Q => ∃ a ov, y = .ref a ∧ DGet H a x ov ∧ Q (.bl (if neg then !ov.isSome else ov.isSome)) H
section
variable {X : Cx}
theorem op_inT (hu : X.A.units + 65 < cLine) : OpR X (compareOp .In) (rInT X.K false) := by
  intro pins s σ H x y v u Q I rx ry h
  obtain ⟨d, ds, hd, he, sd, se, q⟩ := h
  obtain ⟨as, r1⟩ := Dp.reads I d x v hd rx
  obtain ⟨bs, r2⟩ := Dp.reads I (.tuple ds) y u he ry
  exact SeqAt.in_tuple_reads r2 r1 (SeqAt.canLay_of_shaped se) (SeqAt.canLay_of_shaped sd) (PyProof.Rows.room_in_shaped sd hu) ⟨.bl _, H, I, rfl, q⟩
theorem op_notInT (hu : X.A.units + 65 < cLine) : OpR X (compareOp .NotIn) (rInT X.K true) := by
  intro pins s σ H x y v u Q I rx ry h
  obtain ⟨d, ds, hd, he, sd, se, q⟩ := h
  obtain ⟨as, r1⟩ := Dp.reads I d x v hd rx
  obtain ⟨bs, r2⟩ := Dp.reads I (.tuple ds) y u he ry
  exact SeqAt.notIn_tuple_reads r2 r1 (SeqAt.canLay_of_shaped se) (SeqAt.canLay_of_shaped sd) (PyProof.Rows.room_in_shaped sd hu) ⟨.bl _, H, I, rfl, q⟩
theorem op_inDc (hu : X.A.units + 1 < cLine) : OpR X (compareOp .In) (rInDc false) := by
  intro pins s σ H x y v u Q I rx ry h
  obtain ⟨a, ov, rfl, g, q⟩ := h
  obtain rfl : u = Value.ref a := ry
  exact d_in hu I g rx fun s3 I3 => ⟨.bl ov.isSome, H, I3, rfl, q⟩
theorem op_notInDc (hu : X.A.units + 1 < cLine) : OpR X (compareOp .NotIn) (rInDc true) := by
  intro pins s σ H x y v u Q I rx ry h
  obtain ⟨a, ov, rfl, g, q⟩ := h
  obtain rfl : u = Value.ref a := ry
  exact d_notIn hu I g rx fun s3 I3 => ⟨.bl (!ov.isSome), H, I3, rfl, q⟩
theorem ix_dict (hu : X.A.units + 1 < cLine) : IxR X (fun x y H Q => ∃ a v, x = .ref a ∧ DGet H a y (some v) ∧ Q v H) := by
  intro value slice pins s σ H x y v u Q I rx ry h hs
  obtain ⟨a, r, rfl, g, q⟩ := h
  obtain rfl : v = Value.ref a := rx
  exact PyProof.Rows.tail_any (dict_typeIs I g) PySem.F.slot_dict_getitem.lookup (d_getItem hu I g ry fun w' s3 I3 rw' => ⟨r, H, I3, rw', q⟩) hs
end
abbrev rIn4 (K : Fg) : R2 := fun x y H Q => rInD K x y H Q ∨ (rInT K false x y H Q ∨ (rInDc false x y H Q ∨ rInS x y H Q))
abbrev rNotIn4 (K : Fg) : R2 := fun x y H Q => rNotInD K x y H Q ∨ (rInT K true x y H Q ∨ (rInDc true x y H Q ∨ rNotInS x y H Q))
theorem or_in {X : Cx} {k : Nat} (hr : Room k X.A) : OpR X (compareOp .In) (rIn4 X.K) := OpR.or (op_inD (by have := hr.un; omega)) (OpR.or (op_inT (by have := hr.un; omega)) (OpR.or (op_inDc (by have := hr.un; omega)) op_inS))
theorem or_notIn {X : Cx} {k : Nat} (hr : Room k X.A) : OpR X (compareOp .NotIn) (rNotIn4 X.K) := OpR.or (op_notInD (by have := hr.un; omega)) (OpR.or (op_notInT (by have := hr.un; omega)) (OpR.or (op_notInDc (by have := hr.un; omega)) op_notInS))
/-- membership, and its not -/
@[irreducible] def fIn (neg : Bool) : Op2 := fun d e F => match e with
  | .lst l => d.sh ∧ (D.lst l).sh ∧ F (.dat (.bl (if neg then !(pds l).any fun z => PyData.eqv z d.pd else (pds l).any fun z => PyData.eqv z d.pd)))
  | .tup l => d.sh ∧ (D.tup l).sh ∧ F (.dat (.bl (if neg then !(pds l).any fun z => PyData.eqv z d.pd else (pds l).any fun z => PyData.eqv z d.pd)))
  | .dic ks _ => isKey d = true ∧ F (.dat (.bl (if neg then !decide (d ∈ ks) else decide (d ∈ ks))))
  | .str z => ∃ c, d = .str ⟨#[c]⟩ ∧ F (.dat (.bl (if neg then !decide (c ∈ z.cps.toList) else decide (c ∈ z.cps.toList))))
  | _ => False
theorem dic_get {K : Fg} {H : Hp} {P : Ad} {v : V} {ks vs : List D} {k : Key} {y : V} (h : RC K H P v (.dic ks vs)) (hy : RC K H P y (kD k)) :
    ∃ p ov, v = .ref p ∧ DGet H p y ov ∧ IsD H p ∧ (ov.isSome = decide (kD k ∈ ks)) ∧ (∀ d, dGet ks vs (kD k) = some d → ∃ w, ov = some w ∧ RD K H P w d) ∧ (dGet ks vs (kD k) = none → ov = none) := by
  obtain ⟨p, e, kvs, hp, rfl, r⟩ := h.dic
  refine ⟨p, valV kvs k, e, .inl ⟨kvs, k, hp, hy.key, rfl⟩, .inl ⟨kvs, hp⟩, ?_, ?_⟩
  · rw [← valV_any k kvs, Bool.eq_iff_iff, decide_eq_true_iff, mem_key kD_inj k kvs]
  · rcases get_val kD_inj k r with ⟨d, w, e1, e2, r1⟩ | ⟨e1, e2⟩
    · refine ⟨fun d' q => ?_, fun q => ?_⟩
      · rw [e1] at q; cases q
        exact ⟨w, e2, r1⟩
      · rw [e1] at q; cases q
    · refine ⟨fun d' q => ?_, fun q => e2⟩
      rw [e1] at q; cases q
theorem os_in (K : Fg) : OpS K (rIn4 K) (fIn false) := by
  intro Y H σ env x y d e F Q R cx cy f k
  unfold fIn at f
  match e, f with
  | .lst l, f =>
    obtain ⟨s1, s2, f⟩ := f
    have hp := cy.dp s2
    simp only [D.sh, D.pd] at s2 hp
    exact .inl ⟨d.pd, pds l, cx.dp s1, hp, s1, s2, fin_dat R k (.bl _) f⟩
  | .tup l, f =>
    obtain ⟨s1, s2, f⟩ := f
    have hp := cy.dp s2
    simp only [D.sh, D.pd] at s2 hp
    exact .inr (.inl ⟨d.pd, pds l, cx.dp s1, hp, s1, s2, fin_dat R k (.bl _) f⟩)
  | .dic ks vs, f =>
    obtain ⟨s1, f⟩ := f
    obtain ⟨ky, rfl⟩ := isKey_of s1
    obtain ⟨p, ov, e1, g, _, e2, _⟩ := dic_get cy cx
    refine .inr (.inr (.inl ⟨p, ov, e1, g, ?_⟩))
    show Q (.bl ov.isSome) H
    rw [e2]
    exact fin_dat R k (.bl _) f
  | .str z, f =>
    obtain ⟨c, e1, f'⟩ := f
    subst e1
    exact .inr (.inr (.inr ⟨c, z, cx.str, cy.str, fin_dat R k (.bl _) f'⟩))
theorem os_notIn (K : Fg) : OpS K (rNotIn4 K) (fIn true) := by
  intro Y H σ env x y d e F Q R cx cy f k
  unfold fIn at f
  match e, f with
  | .lst l, f =>
    obtain ⟨s1, s2, f⟩ := f
    have hp := cy.dp s2
    simp only [D.sh, D.pd] at s2 hp
    exact .inl ⟨d.pd, pds l, cx.dp s1, hp, s1, s2, fin_dat R k (.bl _) f⟩
  | .tup l, f =>
    obtain ⟨s1, s2, f⟩ := f
    have hp := cy.dp s2
    simp only [D.sh, D.pd] at s2 hp
    exact .inr (.inl ⟨d.pd, pds l, cx.dp s1, hp, s1, s2, fin_dat R k (.bl _) f⟩)
  | .dic ks vs, f =>
    obtain ⟨s1, f⟩ := f
    obtain ⟨ky, rfl⟩ := isKey_of s1
    obtain ⟨p, ov, e1, g, _, e2, _⟩ := dic_get cy cx
    refine .inr (.inr (.inl ⟨p, ov, e1, g, ?_⟩))
    show Q (.bl (!ov.isSome)) H
    rw [e2]
    exact fin_dat R k (.bl _) f
  | .str z, f =>
    obtain ⟨c, e1, f'⟩ := f
    subst e1
    exact .inr (.inr (.inr ⟨c, z, cx.str, cy.str, fin_dat R k (.bl _) f'⟩))

/-! ### subscripts -/
theorem RDs.atI {K : Fg} {H : Hp} {P : Ad} {us : List V} {ds : List D} {i : Int} {d : D} (r : RDs K H P us ds) (e : atI ds i = some d) : ∃ v, atI us i = some v ∧ RD K H P v d := by
  unfold L2.atI at e ⊢
  rw [r.length]
  cases w : ixN ds.length i with
  | none => rw [w] at e; cases e
  | some j =>
    rw [w] at e
    exact r.get e
@[irreducible] def fIx : Op2 := fun d e F => match d, e with
  | .lst l, .int i => ∃ z, atI l i = some z ∧ F (.dat z)
  | .tup l, .int i => ∃ z, atI l i = some z ∧ F (.dat z)
  | .str z, .int i => z.length ≤ sizeLine ∧ ∃ c, atI z.cps.toList i = some c ∧ F (.dat (.str ⟨#[c]⟩))
  | .dic ks vs, k => isKey k = true ∧ ∃ z, dGet ks vs k = some z ∧ F (.dat z)
  | _, _ => False
abbrev rIx4 (K : Fg) : R2 := fun x y H Q => rIx K x y H Q ∨ ∃ a v, x = .ref a ∧ DGet H a y (some v) ∧ Q v H
theorem os_ix (K : Fg) : OpS K (rIx4 K) fIx := by
  intro Y H σ env x y d e F Q R cx cy f k
  unfold fIx at f
  match d, e, f with
  | .lst l, .int i, f =>
    obtain ⟨z, e1, f⟩ := f
    obtain ⟨p, us, e2, q, r, _⟩ := cx.lst
    obtain ⟨v, e3, r3⟩ := r.atI e1
    exact .inl (.inl ⟨p, us, i, v, e2, cy.int, .of q, e3, fin_dat R k r3 f⟩)
  | .tup l, .int i, f =>
    obtain ⟨z, e1, f⟩ := f
    obtain ⟨p, us, e2, q, r, _, _⟩ := cx.tup
    obtain ⟨v, e3, r3⟩ := r.atI e1
    exact .inl (.inr (.inl ⟨p, us, i, v, e2, cy.int, q, e3, fin_dat R k r3 f⟩))
  | .str z, .int i, f =>
    obtain ⟨h, c, e1, f⟩ := f
    exact .inl (.inr (.inr ⟨z, i, c, cx.str, cy.int, h, e1, fin_dat R k (.str _) f⟩))
  | .dic ks vs, key, f =>
    obtain ⟨s1, z, e1, f⟩ := f
    obtain ⟨ky, rfl⟩ := isKey_of s1
    obtain ⟨p, ov, e2, g, _, _, h3, _⟩ := dic_get cx cy
    obtain ⟨w, rfl, r⟩ := h3 z e1
    exact .inr ⟨p, w, e2, g, fin_dat R k r f⟩
theorem ae_ix {X : Cx} {j : Nat} {a b : Expr} {fa fb : AE'} {pos : Pos} (hr : Room j X.A) (ha : AE X a fa) (hb : AE X b fb) (hs : PlainIx b := by exact fun _ _ => rfl) : AE X (.Subscript a b pos) (aOp fIx fa fb) := by
  obtain ⟨t, p, s⟩ := ha
  obtain ⟨t2, p2, s2⟩ := hb
  exact ⟨_, pe_ix (IxR.or ix_seq (ix_dict (by have := hr.un; omega))) p p2 hs, snd_op (os_ix X.K) s s2⟩

/-! ### slices -/
def cutD (xs : List D) (lo hi : Option Int) : List D := (xs.drop (HT.sIx xs.length 0 lo)).take (HT.sIx xs.length xs.length hi - HT.sIx xs.length 0 lo)
theorem cutD_len (xs : List D) (lo hi : Option Int) : (cutD xs lo hi).length ≤ xs.length := by
  unfold cutD
  rw [List.length_take, List.length_drop]
  omega
theorem RDs.cut {K : Fg} {H : Hp} {P : Ad} {us : List V} {ds : List D} (r : RDs K H P us ds) (lo hi : Option Int) : RDs K H P (cutV us lo hi) (cutD ds lo hi) := by
  unfold cutV cutD
  rw [r.length]
  exact (r.drop _).take _
abbrev AO' := AEnv → (Option Int → AEnv → Prop) → Prop
def aoNone : AO' := fun env R => R none env
def aoSome (a : AE') : AO' := fun env R => a env fun r env1 => match val env1 r with
  | some (.int i) => R (some i) env1
  | _ => False
def SndO (K : Fg) (t : TO) (a : AO') : Prop := ∀ (Y : Ad) (H : Hp) (σ : St) (env : AEnv) (R : Option Int → AEnv → Prop) (Q : Option Int → Hp → Prop), Rep K Y H σ env → a env R →
  (∀ o H' env', Rep K Y H' σ env' → Adv σ Y env H Y env' H' → R o env' → Q o H') → t σ H Q
def AO (X : Cx) (e : Option Expr) (a : AO') : Prop := ∃ t, PO X e t ∧ SndO X.K t a
theorem ao_none {X : Cx} : AO X none aoNone := ⟨_, po_none, fun Y H σ env R Q rep a k => k none H env rep Adv.refl a⟩
theorem ao_some {X : Cx} {e : Expr} {a : AE'} (h : AE X e a) : AO X (some e) (aoSome a) := by
  obtain ⟨t, p, s⟩ := h
  refine ⟨_, po_some p, fun Y H σ env R Q rep a k => ?_⟩
  refine s Y H σ env _ _ rep a fun v H' env' r Y' rep' g ok q => ?_
  obtain ⟨d, e1, c⟩ := ok.rc rep'
  simp only [e1] at q
  match d, c, q with
  | .int i, c, q => exact ⟨i, c.int, k (some i) H' env' (rep'.less g.yu) g.drop q⟩
def fSl (d : D) (lo hi : Option Int) (F : RV → Prop) : Prop := match d with
  | .lst l => F (.new (.lst (cutD l lo hi)))
  | .scr l => F (.new (.lst (cutD l lo hi)))
  | .tup l => F (.dat (.tup (cutD l lo hi)))
  | .str z => z.length ≤ sizeLine ∧ F (.dat (.str (cutS z lo hi)))
  | _ => False
def aSl (a : AE') (lo hi : AO') : AE' := fun env R => a env fun r env1 => lo env1 fun l env2 => hi env2 fun h env3 => match val env3 r with
  | some d => fSl d l h fun z => R z env3
  | none => False
theorem cutV_all {us : List V} {lo hi : Option Int} (h : HT.sIx us.length 0 lo = 0 ∧ HT.sIx us.length us.length hi = us.length) : cutV us lo hi = us := by
  unfold cutV
  rw [h.1, h.2]
  simp
theorem ae_sl {X : Cx} {e : Expr} {lo hi : Option Expr} {a : AE'} {l h : AO'} {p2 pos : Pos} (he : AE X e a) (hl : AO X lo l) (hh : AO X hi h) : AE X (.Subscript e (.Slice lo hi none p2) pos) (aSl a l h) := by
  obtain ⟨t, p, s⟩ := he
  obtain ⟨t1, p1, s1⟩ := hl
  obtain ⟨t2, p3, s2⟩ := hh
  refine ⟨_, pe_slice (SlR.or sl_list (SlR.or sl_tupA sl_str)) p p1 p3, fun Y H σ env R Q rep q k => ?_⟩
  refine s Y H σ env _ _ rep q fun v H1 env1 r Y1 rep1 g1 ok1 q1 => ?_
  refine s1 Y1 H1 σ env1 _ _ rep1 q1 fun o2 H2 env2 rep2 g2 q2 => ?_
  refine s2 Y1 H2 σ env2 _ _ rep2 q2 fun o3 H3 env3 rep3 g3 q3 => ?_
  have g23 := g2.trans g3
  obtain ⟨d, e1, c⟩ := ok1.later g23 rep3
  simp only [e1] at q3
  have repY := rep3.less g1.yu
  have c' := c.less (pw_less g1.yu)
  have gg := (g1.trans g23).drop
  have k' : Fin X.K Y H3 σ env3 (fun z => R z env3) Q := fun w H4 z Y4 rep4 g4 ok4 q4 => k w H4 env3 z Y4 rep4 (gg.trans g4) ok4 q4
  match d, c', q3 with
  | .lst l, c, q =>
    obtain ⟨p, us, e2, hq, r, hl⟩ := c.lst
    exact .inl ⟨p, us, e2, .of hq, fun l n => fin_lst repY k' (r.cut _ _) (Nat.le_trans (cutD_len _ _ _) hl) q n⟩
  | .scr l, c, q =>
    obtain ⟨p, us, e2, hq, r, hl⟩ := c.scr
    exact .inl ⟨p, us, e2, hq, fun l n => fin_lst repY k' (r.cut _ _) (Nat.le_trans (cutD_len _ _ _) hl) q n⟩
  | .tup l, c, q =>
    obtain ⟨p, us, e2, hq, r, rd, hl⟩ := c.tup
    refine .inr (.inl ⟨p, us, e2, hq, fun z => ?_, fun _ l n => fin_tup repY k' (r.cut _ _) (Nat.le_trans (cutD_len _ _ _) hl) q n⟩)
    have e3 : cutD l o2 o3 = l := by
      unfold cutD
      rw [← r.length, z.1, z.2, r.length]
      simp
    simp only [fSl] at q
    rw [e3] at q
    subst e2
    exact fin_dat repY k' rd q
  | .str z, c, q => exact .inr (.inr ⟨z, c.str, q.1, fin_dat repY k' (.str _) q.2⟩)
end AL
namespace AL
open PySem L2
/-! AL6: tests, bool operators, conditional expressions, chains, displays. -/
section
variable {X : Cx} {a b c : Expr} {pos : Pos}
/-- a way taken by a truth -/
@[irreducible] def brP (b : Bool) (t e : Prop) : Prop := if b = true then t else e
@[simp] theorem brP_true {t e : Prop} : brP true t e = t := by unfold brP; simp
@[simp] theorem brP_false {t e : Prop} : brP false t e = e := by unfold brP; simp
theorem brI {b : Bool} {t e : Prop} (h1 : b = true → t) (h2 : b = false → e) : brP b t e := by
  cases b
  · rw [brP_false]; exact h2 rfl
  · rw [brP_true]; exact h1 rfl
/-- a value that is a bool, as a test -/
def aB (a : AE') : AT' := fun env R => a env fun r env1 => match val env1 r with
  | some (.bl b) => R b env1
  | _ => False
theorem snd_test {K : Fg} {t : TE} {a : AE'} (s : Snd K t a) : SndT K (fun σ H Q => t σ H fun x H1 => ∃ c, x = .bl c ∧ Q c H1) (aB a) := by
  intro Y H σ env R Q rep q k
  refine s Y H σ env _ _ rep q fun v H' env' r Y' rep' g ok q => ?_
  obtain ⟨d, e1, c⟩ := ok.rc rep'
  simp only [e1] at q
  match d, c, q with
  | .bl b, c, q => exact ⟨b, c.bl, k b H' env' (rep'.less g.yu) g.drop q⟩
theorem at_cmp {op : CmpOp} {r : R2} {f : Op2} {fa fb : AE'} (ho : OpR X (compareOp op) r) (o : OpS X.K r f) (ha : AE X a fa) (hb : AE X b fb) (hm : behindInMarks op b = false) : AT X (.Compare a [op] [b] pos) (aB (aOp f fa fb)) := by
  obtain ⟨t, p, s⟩ := ha
  obtain ⟨t2, p2, s2⟩ := hb
  exact ⟨_, pt_cmpR ho p p2 hm, snd_test (snd_op o s s2)⟩
/-- a < b < c -/
def aChain (f g : Op2) (a b c : AE') : AE' := fun env R => a env fun r env1 => b env1 fun s env2 => match val env2 r, val env2 s with
  | some d, some e => f d e fun z => match z with
    | .dat (.bl true) => c env2 fun u env3 => match val env3 s, val env3 u with
      | some e', some w => g e' w fun z => R z env3
      | _, _ => False
    | .dat (.bl false) => R (.dat (.bl false)) env2
    | _ => False
  | _, _ => False
theorem ResOk.less' {K : Fg} {H : Hp} {Y Y1 : Ad} {σ : St} {env : AEnv} {v : V} {d : D} (h : ResOk K H Y Y1 σ env v (.dat d)) : Y1 = Y ∧ RD K H (Pw Y σ env) v d := h
/-- a value that waits: what it is, as it is read later -/
structure Wt (K : Fg) (Y : Ad) (H : Hp) (σ : St) (env : AEnv) (v : V) (r : RV) : Prop where
  rc : ∃ d, val env r = some d ∧ RC K H (Pw Y σ env) v d
theorem snd_chain {K : Fg} {r r' : R2} {f g : Op2} {ta tb tc : TE} {fa fb fc : AE'} (o : OpS K r f) (o' : OpS K r' g) (ha : Snd K ta fa) (hb : Snd K tb fb) (hc : Snd K tc fc) : Snd K (tChain r r' ta tb tc) (aChain f g fa fb fc) := by
  intro Y H σ env R Q rep h k
  refine ha Y H σ env _ _ rep h fun v H1 env1 r1 Y1 rep1 g1 ok1 q1 => ?_
  refine hb Y1 H1 σ env1 _ _ rep1 q1 fun u H2 env2 r2 Y2 rep2 g2 ok2 q2 => ?_
  obtain ⟨d, e1, c1⟩ := ok1.later g2 rep2
  obtain ⟨e, e2, c2⟩ := ok2.rc rep2
  simp only [e1, e2] at q2
  refine o Y2 H2 σ env2 v u d e _ _ rep2 c1 c2 q2 fun w H3 z Y3 rep3 g3 ok3 q3 => ?_
  match z, ok3, q3 with
  | .dat (.bl true), ok3, q3 =>
    obtain ⟨ey, rd⟩ := ok3.less'
    cases rd
    refine ⟨true, rfl, iteT ?_⟩
    subst ey
    refine hc Y3 H3 σ env2 _ _ rep3 q3 fun w H4 env4 r4 Y4 rep4 g4 ok4 q4 => ?_
    obtain ⟨e', e5, c5⟩ := ok2.later (g3.trans g4) rep4
    obtain ⟨w', e6, c6⟩ := ok4.rc rep4
    simp only [e5, e6] at q4
    have gg := (g1.trans g2).trans (g3.trans g4)
    refine o' Y H4 σ env4 u w e' w' _ _ (rep4.less gg.yu) (c5.less (pw_less gg.yu)) (c6.less (pw_less gg.yu)) q4 fun w2 H5 z5 Y5 rep5 g5 ok5 q5 => ?_
    exact k w2 H5 env4 z5 Y5 rep5 (gg.drop.trans g5) ok5 q5
  | .dat (.bl false), ok3, q3 =>
    obtain ⟨ey, rd⟩ := ok3.less'
    cases rd
    refine ⟨false, rfl, iteF ?_⟩
    subst ey
    have gg := (g1.trans g2).trans g3
    exact k _ H3 env2 (.dat (.bl false)) Y (rep3.less gg.yu) gg.drop ⟨rfl, .bl false⟩ q3
theorem ae_chain {op op' : CmpOp} {r r' : R2} {f g : Op2} {fa fb fc : AE'} (ho : OpR X (compareOp op) r) (o : OpS X.K r f) (ho' : OpR X (compareOp op') r') (o' : OpS X.K r' g) (ha : AE X a fa) (hb : AE X b fb) (hc : AE X c fc)
    (hm : lastMarks [op, op'] [b, c] = false := by with_unfolding_all rfl) : AE X (.Compare a [op, op'] [b, c] pos) (aChain f g fa fb fc) := by
  obtain ⟨t, p, s⟩ := ha
  obtain ⟨t2, p2, s2⟩ := hb
  obtain ⟨t3, p3, s3⟩ := hc
  exact ⟨_, pe_chain ho ho' p p2 p3 hm, snd_chain o o' s s2 s3⟩
theorem at_chain {op op' : CmpOp} {r r' : R2} {f g : Op2} {fa fb fc : AE'} (ho : OpR X (compareOp op) r) (o : OpS X.K r f) (ho' : OpR X (compareOp op') r') (o' : OpS X.K r' g) (ha : AE X a fa) (hb : AE X b fb) (hc : AE X c fc)
    (hm : lastMarks [op, op'] [b, c] = false := by with_unfolding_all rfl) : AT X (.Compare a [op, op'] [b, c] pos) (aB (aChain f g fa fb fc)) := by
  obtain ⟨t, p, s⟩ := ha
  obtain ⟨t2, p2, s2⟩ := hb
  obtain ⟨t3, p3, s3⟩ := hc
  exact ⟨_, pt_chain ho ho' p p2 p3 hm, snd_test (snd_chain o o' s s2 s3)⟩
/-- the truth of a value -/
def truD (d : D) (R : Bool → Prop) : Prop := match d with
  | .non => R false
  | .bl b => R b
  | .int i => R (i != 0)
  | .str x => x.length ≤ sizeLine ∧ R ((x.length : Int) != 0)
  | .lst l => R (!l.isEmpty)
  | .tup l => R (!l.isEmpty)
  | _ => False
def aTru (a : AE') : AT' := fun env R => a env fun r env1 => match val env1 r with
  | some d => truD d fun b => R b env1
  | none => False
theorem isEmpty_len {α β : Type} {l : List α} {m : List β} (h : l.length = m.length) : l.isEmpty = m.isEmpty := by
  cases l <;> cases m <;> simp_all
theorem snd_tru {K : Fg} {t : TE} {a : AE'} (s : Snd K t a) : SndT K (fun σ H Q => t σ H fun x H' => ∃ k, TruV K x H' k ∧ Q k H') (aTru a) := by
  intro Y H σ env R Q rep q k
  refine s Y H σ env _ _ rep q fun v H' env' r Y' rep' g ok q => ?_
  obtain ⟨d, e1, c⟩ := ok.rc rep'
  simp only [e1] at q
  have fin : ∀ b, R b env' → Q b H' := fun b q => k b H' env' (rep'.less g.yu) g.drop q
  match d, c, q with
  | .non, c, q => rw [c.non]; exact ⟨false, rfl, fin _ q⟩
  | .bl b, c, q => rw [c.bl]; exact ⟨b, rfl, fin _ q⟩
  | .int i, c, q => rw [c.int]; exact ⟨_, rfl, fin _ q⟩
  | .str x, c, q => rw [c.str]; exact ⟨_, ⟨q.1, rfl⟩, fin _ q.2⟩
  | .lst l, c, q =>
    obtain ⟨p, us, rfl, h, r, _⟩ := c.lst
    exact ⟨_, .inl ⟨us, .of h, rfl⟩, by rw [isEmpty_len r.length]; exact fin _ q⟩
  | .tup l, c, q =>
    obtain ⟨p, us, rfl, h, r, _, _⟩ := c.tup
    exact ⟨_, .inr (.inl ⟨us, h, rfl⟩), by rw [isEmpty_len r.length]; exact fin _ q⟩
theorem at_tru {fa : AE'} (ha : AE X a fa) (he : ∀ whole, isTrue a X.env whole = (do let v ← whole; standAt a.pos; holding [v] (truthy v)) := by intro _; rfl) : AT X a (aTru fa) := by
  obtain ⟨t, p, s⟩ := ha
  exact ⟨_, pt_truth p he, snd_tru s⟩
/-- not -/
def aNot (t : AT') : AT' := fun env R => t env fun b env1 => R (!b) env1
theorem at_not {t : AT'} (h : AT X a t) : AT X (.UnaryOp .Not a pos) (aNot t) := by
  obtain ⟨u, p, s⟩ := h
  exact ⟨_, pt_not p, fun Y H σ env R Q rep q k => s Y H σ env _ _ rep q fun b H' env' rep' g q' => k (!b) H' env' rep' g q'⟩
/-- not as a value, of any truth: by the test -/
def aNotV (t : AT') : AE' := fun env R => t env fun b env1 => R (.dat (.bl (!b))) env1
theorem ae_notB {fa : AE'} (h : AE X a fa) : AE X (.UnaryOp .Not a pos) (aNotV (aB fa)) := by
  obtain ⟨u, p, s⟩ := h
  refine ⟨_, pe_not p, fun Y H σ env R Q rep q k => ?_⟩
  refine s Y H σ env _ _ rep q fun v H' env' r Y' rep' g ok q => ?_
  obtain ⟨d, e1, c⟩ := ok.rc rep'
  simp only [e1] at q
  match d, c, q with
  | .bl b, c, q => exact ⟨b, c.bl, k _ H' env' (.dat (.bl (!b))) Y (rep'.less g.yu) g.drop ⟨rfl, .bl _⟩ q⟩
/-- and, or as tests -/
def aAnd (t u : AT') : AT' := fun env R => t env fun b env1 => brP b (u env1 R) (R false env1)
def aOr (t u : AT') : AT' := fun env R => t env fun b env1 => brP b (R true env1) (u env1 R)
theorem SndT.then {K : Fg} {t : TT} {a : AT'} (s : SndT K t a) {Y : Ad} {H : Hp} {σ : St} {env : AEnv} {R : Bool → AEnv → Prop} {Q : Bool → Hp → Prop} (rep : Rep K Y H σ env) (q : a env R) (k : ∀ b H' env', Rep K Y H' σ env' → Adv σ Y env H Y env' H' → R b env' → Q b H') : t σ H Q := s Y H σ env R Q rep q k
theorem aw_and1 {t : AT'} (h : AT X a t) : AW X (.BoolOp .And [a] pos) t := let ⟨u, p, s⟩ := h; ⟨u, pw_and1 p, s⟩
theorem aw_or1 {t : AT'} (h : AT X a t) : AW X (.BoolOp .Or [a] pos) t := let ⟨u, p, s⟩ := h; ⟨u, pw_or1 p, s⟩
theorem aw_and {t u : AT'} {rest : List Expr} (h : AT X a t) (h2 : AW X (.BoolOp .And (b :: rest) pos) u) : AW X (.BoolOp .And (a :: b :: rest) pos) (aAnd t u) := by
  obtain ⟨t1, p1, s1⟩ := h
  obtain ⟨t2, p2, s2⟩ := h2
  refine ⟨_, pw_and p1 p2, fun Y H σ env R Q rep q k => ?_⟩
  refine s1.then rep q fun b H' env' rep' g q' => ?_
  cases b with
  | true => exact iteT (s2.then rep' (by simpa using q') fun b2 H2 env2 rep2 g2 q2 => k b2 H2 env2 rep2 (g.trans g2) q2)
  | false => exact iteF (k false H' env' rep' g (by simpa using q'))
theorem aw_or {t u : AT'} {rest : List Expr} (h : AT X a t) (h2 : AW X (.BoolOp .Or (b :: rest) pos) u) : AW X (.BoolOp .Or (a :: b :: rest) pos) (aOr t u) := by
  obtain ⟨t1, p1, s1⟩ := h
  obtain ⟨t2, p2, s2⟩ := h2
  refine ⟨_, pw_or p1 p2, fun Y H σ env R Q rep q k => ?_⟩
  refine s1.then rep q fun b H' env' rep' g q' => ?_
  cases b with
  | true => exact iteT (k true H' env' rep' g (by simpa using q'))
  | false => exact iteF (s2.then rep' (by simpa using q') fun b2 H2 env2 rep2 g2 q2 => k b2 H2 env2 rep2 (g.trans g2) q2)
theorem AW.at' {t : AT'} (h : AW X a t) : AT X a t := let ⟨u, p, s⟩ := h; ⟨u, p.pt, s⟩
/-- and, or as values: all but the last are bools -/
def aAndV (t : AT') (u : AE') : AE' := fun env R => t env fun b env1 => brP b (u env1 R) (R (.dat (.bl false)) env1)
def aOrV (t : AT') (u : AE') : AE' := fun env R => t env fun b env1 => brP b (R (.dat (.bl true)) env1) (u env1 R)
theorem ae_one {op} {fa : AE'} (h : AE X a fa) : AE X (.BoolOp op [a] pos) fa := let ⟨u, p, s⟩ := h; ⟨u, pe_one p, s⟩
theorem snd_bl {K : Fg} {t : TE} {a : AE'} (s : Snd K t a) {Y : Ad} {H : Hp} {σ : St} {env : AEnv} {R : Bool → AEnv → Prop} {Q : VK} (rep : Rep K Y H σ env) (q : aB a env R)
    (k : ∀ b H' env', Rep K Y H' σ env' → Adv σ Y env H Y env' H' → R b env' → Q (.bl b) H') : t σ H Q := by
  refine s Y H σ env _ _ rep q fun v H' env' r Y' rep' g ok q => ?_
  obtain ⟨d, e1, c⟩ := ok.rc rep'
  simp only [e1] at q
  match d, c, q with
  | .bl b, c, q =>
    rw [c.bl]
    exact k b H' env' (rep'.less g.yu) g.drop q
theorem ae_and {fa u : AE'} {rest : List Expr} (h : AE X a fa) (h2 : AE X (.BoolOp .And (b :: rest) pos) u) : AE X (.BoolOp .And (a :: b :: rest) pos) (aAndV (aB fa) u) := by
  obtain ⟨t1, p1, s1⟩ := h
  obtain ⟨t2, p2, s2⟩ := h2
  refine ⟨_, L2.pe_and p1 p2, fun Y H σ env R Q rep q k => ?_⟩
  refine snd_bl s1 rep q fun b H' env' rep' g q' => ⟨b, rfl, ?_⟩
  cases b with
  | true => exact iteT (s2 Y H' σ env' _ _ rep' (by simpa using q') fun v H2 env2 r Y2 rep2 g2 ok q2 => k v H2 env2 r Y2 rep2 (g.trans g2) ok q2)
  | false => exact iteF (k _ H' env' (.dat (.bl false)) Y rep' g ⟨rfl, .bl _⟩ (by simpa using q'))
theorem ae_or {fa u : AE'} {rest : List Expr} (h : AE X a fa) (h2 : AE X (.BoolOp .Or (b :: rest) pos) u) : AE X (.BoolOp .Or (a :: b :: rest) pos) (aOrV (aB fa) u) := by
  obtain ⟨t1, p1, s1⟩ := h
  obtain ⟨t2, p2, s2⟩ := h2
  refine ⟨_, L2.pe_or p1 p2, fun Y H σ env R Q rep q k => ?_⟩
  refine snd_bl s1 rep q fun b H' env' rep' g q' => ⟨b, rfl, ?_⟩
  cases b with
  | true => exact iteT (k _ H' env' (.dat (.bl true)) Y rep' g ⟨rfl, .bl _⟩ (by simpa using q'))
  | false => exact iteF (s2 Y H' σ env' _ _ rep' (by simpa using q') fun v H2 env2 r Y2 rep2 g2 ok q2 => k v H2 env2 r Y2 rep2 (g.trans g2) ok q2)
/-- a if t else b -/
def aIf (t : AT') (a b : AE') : AE' := fun env R => t env fun c env1 => brP c (a env1 R) (b env1 R)
theorem ae_if {t : AT'} {fa fb : AE'} (hc : AT X c t) (ha : AE X a fa) (hb : AE X b fb) : AE X (.IfExp c a b pos) (aIf t fa fb) := by
  obtain ⟨t1, p1, s1⟩ := hc
  obtain ⟨t2, p2, s2⟩ := ha
  obtain ⟨t3, p3, s3⟩ := hb
  refine ⟨_, pe_ifExp p1 p2 p3, fun Y H σ env R Q rep q k => ?_⟩
  refine s1.then rep q fun b H' env' rep' g q' => ?_
  cases b with
  | true => exact iteT (s2 Y H' σ env' _ _ rep' (by simpa using q') fun v H2 env2 r Y2 rep2 g2 ok q2 => k v H2 env2 r Y2 rep2 (g.trans g2) ok q2)
  | false => exact iteF (s3 Y H' σ env' _ _ rep' (by simpa using q') fun v H2 env2 r Y2 rep2 g2 ok q2 => k v H2 env2 r Y2 rep2 (g.trans g2) ok q2)
/-- - a -/
def aNeg (a : AE') : AE' := fun env R => a env fun r env1 => match val env1 r with
  | some (.int i) => R (.dat (.int (-i))) env1
  | _ => False
theorem ae_neg {fa : AE'} (ha : AE X a fa) : AE X (.UnaryOp .USub a pos) (aNeg fa) := by
  obtain ⟨t, p, s⟩ := ha
  refine ⟨_, pe_un un_neg p, fun Y H σ env R Q rep q k => ?_⟩
  refine s Y H σ env _ _ rep q fun v H' env' r Y' rep' g ok q => ?_
  obtain ⟨d, e1, c⟩ := ok.rc rep'
  simp only [e1] at q
  match d, c, q with
  | .int i, c, q => exact ⟨i, c.int, k _ H' env' (.dat (.int (-i))) Y (rep'.less g.yu) g.drop ⟨rfl, .int _⟩ q⟩
end

/-! ### displays -/
def dats : List RV → Option (List D)
  | [] => some []
  | .dat d :: r => (dats r).map (d :: ·)
  | _ => none
def aTup (t : AA') : AE' := fun env R => t env fun rs env1 => match dats rs with
  | some ds => ds.length ≤ sizeLine ∧ R (.dat (.tup ds)) env1
  | none => False
def aLst (t : AA') : AE' := fun env R => t env fun rs env1 => match dats rs with
  | some ds => ds.length ≤ sizeLine ∧ R (.new (.lst ds)) env1
  | none => False
section
variable {K : Fg} {σ : St} {Y : Ad} {env : AEnv} {H : Hp}
theorem ArgsOk.dats : ∀ {vs : List V} {rs : List RV} {ds : List D}, ArgsOk K H Y σ env vs rs → dats rs = some ds → RDs K H (Pw Y σ env) vs ds
  | _, _, _, .nil, e => by
    simp only [AL.dats, Option.some.injEq] at e
    subst e
    exact .nil
  | _, .dat d :: rs, _, .cons h r, e => by
    simp only [AL.dats] at e
    cases w : AL.dats rs with
    | none => rw [w] at e; cases e
    | some l =>
      rw [w] at e
      cases e
      exact .cons h.2 (r.dats w)
  | _, .at _ :: rs, _, .cons h r, e => by cases e
  | _, .new _ :: rs, _, .cons h r, e => by cases e
end
section
variable {X : Cx} {es : List Expr} {pos : Pos}
theorem ae_tup {x1} {t : AA'} (h : AA X es t) : AE X (.Tuple es x1 pos) (aTup t) := by
  obtain ⟨u, p, s⟩ := h
  refine ⟨_, pe_tup p, fun Y H σ env R Q rep q k => ?_⟩
  refine s Y H σ env _ _ rep q fun vs H' env' rs rep' g ok q => ?_
  match w : dats rs, q with
  | some ds, q =>
    have r := ok.dats w
    refine ⟨by rw [r.length]; exact q.1, fun l n => ?_⟩
    exact fin_tup rep' (F := fun z => R z env') (fun w H4 z Y4 rep4 g4 ok4 q4 => k w H4 env' z Y4 rep4 (g.trans g4) ok4 q4) r q.1 q.2 n
theorem ae_lst {t : AA'} (h : AA X es t) : AE X (.List es pos) (aLst t) := by
  obtain ⟨u, p, s⟩ := h
  refine ⟨_, pe_lst p, fun Y H σ env R Q rep q k => ?_⟩
  refine s Y H σ env _ _ rep q fun vs H' env' rs rep' g ok q => ?_
  match w : dats rs, q with
  | some ds, q =>
    have r := ok.dats w
    refine ⟨by rw [r.length]; exact q.1, fun l n => ?_⟩
    exact fin_lst rep' (F := fun z => R z env') (fun w H4 z Y4 rep4 g4 ok4 q4 => k w H4 env' z Y4 rep4 (g.trans g4) ok4 q4) r q.1 q.2 n
def aNewK : AE' := fun env R => R (.new (.dic [] [])) env
def aNewT : AE' := fun env R => R (.new (.dit [] [])) env
theorem ae_newK : AE X (.Dict [] [] pos) aNewK := ⟨_, pe_dnewK, fun Y H σ env R Q rep q k p n => fin_new (d := .dic [] []) (F := fun z => R z env) rep (fun w H4 z Y4 rep4 g4 ok4 q4 => k w H4 env z Y4 rep4 g4 ok4 q4) n ⟨[], upd_same, rfl, .nil⟩ q⟩
theorem ae_newT : AE X (.Dict [] [] pos) aNewT := ⟨_, pe_dnewT, fun Y H σ env R Q rep q k p n => fin_new (d := .dit [] []) (F := fun z => R z env) rep (fun w H4 z Y4 rep4 g4 ok4 q4 => k w H4 env z Y4 rep4 g4 ok4 q4) n ⟨[], upd_same, rfl, .nil⟩ q⟩
end
end AL
namespace AL
open PySem L2
/-! AL7: statements. -/
structure AEnds where
  nx : AEnv → Prop
  rt : RV → AEnv → Prop
  bk : AEnv → Prop := fun _ => False
  ct : AEnv → Prop := fun _ => False
abbrev AS' := AEnds → AEnv → Prop
/-- how a state goes on: B the slots that are never stored -/
structure AdvS (B : Nat → Bool) (σ : L2.St) (Y : Ad) (env : AEnv) (H : Hp) (Y' : Ad) (σ' : L2.St) (env' : AEnv) (H' : Hp) : Prop where
  keep : ∀ a o, H a = some o → ¬ Own σ env a → KeepO o H' a
  ky : ∀ a, Y a → H' a = H a
  yu : ∀ a, Y a → Y' a
  yn : ∀ a, Y' a → Y a ∨ H a = none ∨ Own σ env a
  ow : ∀ a, Own σ' env' a → Own σ env a ∨ H a = none
  live : ∀ a o, H a = some o → ∃ o', H' a = some o'
  st : ∀ i, B i = true → σ'[i]? = σ[i]?
  pr : ∀ i : Nat, B i = true → Sh env[i]? env'[i]?
  len : σ'.length = σ.length
section
variable {K : Fg} {B : Nat → Bool} {σ σ1 σ2 : L2.St} {Y Y' Y1 Y2 : Ad} {env env1 env2 : AEnv} {H H' H1 H2 : Hp}
theorem AdvS.refl : AdvS B σ Y env H Y σ env H := ⟨fun _ _ h _ => .inl h, fun _ _ => rfl, fun _ h => h, fun _ h => .inl h, fun _ h => .inl h, fun _ o h => ⟨o, h⟩, fun _ _ => rfl, fun _ _ => Sh.refl _, rfl⟩
theorem Adv.toS (g : Adv σ Y env H Y1 env1 H1) : AdvS B σ Y env H Y1 σ env1 H1 := ⟨g.keep, g.ky, g.yu, fun a h => (g.yn a h).imp id .inl, g.ow, g.live, fun _ _ => rfl, fun i _ => g.sh i, rfl⟩
theorem AdvS.trans (R : Rep K Y H σ env) (g : AdvS B σ Y env H Y σ1 env1 H1) (k : AdvS B σ1 Y env1 H1 Y2 σ2 env2 H2) : AdvS B σ Y env H Y2 σ2 env2 H2 := by
  have nn : ∀ a, H1 a = none → H a = none := fun a z => by
    cases q : H a with
    | none => rfl
    | some o =>
      obtain ⟨o', w⟩ := g.live a o q
      rw [w] at z; cases z
  refine ⟨fun a o h n => (g.keep a o h n).trans fun u q => k.keep a u q fun z => ?_, fun a h => (k.ky a (g.yu a h)).trans (g.ky a h), fun a h => k.yu a (g.yu a h), fun a h => ?_, fun a h => ?_, fun a o h => ?_, fun i b => (k.st i b).trans (g.st i b), fun i b => (g.pr i b).trans (k.pr i b), k.len.trans g.len⟩
  · rcases g.ow a z with z | z
    · exact n z
    · rw [h] at z; cases z
  · rcases k.yn a h with z | z | z
    · exact .inl z
    · exact .inr (.inl (nn a z))
    · rcases g.ow a z with z | z
      · exact .inr (.inr z)
      · exact .inr (.inl z)
  · rcases k.ow a h with z | z
    · exact g.ow a z
    · exact .inr (nn a z)
  · obtain ⟨o', w⟩ := g.live a o h
    exact k.live a o' w
theorem AdvS.go (g : AdvS B σ Y env H Y1 σ1 env1 H1) (R : Rep K Y H σ env) : Go (Own σ env) (Pw Y σ env) (Pw Y1 σ1 env1) H H1 := by
  refine ⟨g.keep, fun a h => ?_⟩
  rcases h with h | h
  · rcases g.yn a h with z | z | z
    · exact .inl (.inl z)
    · exact .inr z
    · exact .inl (.inr z)
  · exact (g.ow a h).imp .inr id
theorem AdvS.rd (g : AdvS B σ Y env H Y1 σ1 env1 H1) (R : Rep K Y H σ env) {v : V} {d : D} (h : RD K H (Pw Y σ env) v d) : RD K H1 (Pw Y1 σ1 env1) v d := h.go (g.go R) fun _ z => .inr z
theorem AdvS.rds (g : AdvS B σ Y env H Y1 σ1 env1 H1) (R : Rep K Y H σ env) {v : List V} {d : List D} (h : RDs K H (Pw Y σ env) v d) : RDs K H1 (Pw Y1 σ1 env1) v d := h.go (g.go R) fun _ z => .inr z
end
structure EOk (K : Fg) (B : Nat → Bool) (Y : Ad) (H : Hp) (σ : L2.St) (env : AEnv) (D : Ends) (A : AEnds) : Prop where
  nx : ∀ H' σ' env', Rep K Y H' σ' env' → AdvS B σ Y env H Y σ' env' H' → A.nx env' → D.nx σ' H'
  rt : ∀ v H' σ' env' r Y', Rep K Y' H' σ' env' → AdvS B σ Y env H Y' σ' env' H' → ResOk K H' Y Y' σ' env' v r → A.rt r env' → D.rt v H'
  bk : ∀ H' σ' env', Rep K Y H' σ' env' → AdvS B σ Y env H Y σ' env' H' → A.bk env' → D.bk σ' H'
  ct : ∀ H' σ' env', Rep K Y H' σ' env' → AdvS B σ Y env H Y σ' env' H' → A.ct env' → D.ct σ' H'
def SndS (K : Fg) (B : Nat → Bool) (t : TS) (a : AS') : Prop := ∀ (Y : Ad) (H : Hp) (σ : L2.St) (env : AEnv) (D : Ends) (A : AEnds), Rep K Y H σ env → a A env → EOk K B Y H σ env D A → t D σ H
def AS (X : Cx) (B : Nat → Bool) (st : Stmt) (a : AS') : Prop := ∃ t, PS X st t ∧ SndS X.K B t a
def ASs (X : Cx) (B : Nat → Bool) (st : List Stmt) (a : AS') : Prop := ∃ t, PSs X st t ∧ SndS X.K B t a
section
variable {K : Fg} {B : Nat → Bool} {σ σ1 : L2.St} {Y : Ad} {env env1 : AEnv} {H H1 : Hp} {D : Ends} {A : AEnds}
theorem EOk.after (k : EOk K B Y H σ env D A) (R : Rep K Y H σ env) (g : AdvS B σ Y env H Y σ1 env1 H1) : EOk K B Y H1 σ1 env1 D A :=
  ⟨fun H' σ' env' r g' q => k.nx H' σ' env' r (g.trans R g') q, fun v H' σ' env' z Y' r g' ok q => k.rt v H' σ' env' z Y' r (g.trans R g') ok q,
    fun H' σ' env' r g' q => k.bk H' σ' env' r (g.trans R g') q, fun H' σ' env' r g' q => k.ct H' σ' env' r (g.trans R g') q⟩
end
/-! ### blocks -/
def aNext : AS' := fun A env => A.nx env
def aSeq (t u : AS') : AS' := fun A env => t { A with nx := u A } env
section
variable {X : Cx} {B : Nat → Bool} {st : Stmt} {rest : List Stmt} {e : Expr} {pos : Pos} {t u : AS'}
theorem ass_nil : ASs X B [] aNext := ⟨_, pss_nil, fun Y H σ env D A rep q k => k.nx H σ env rep AdvS.refl q⟩
theorem ass_one (h : AS X B st t) : ASs X B [st] t := let ⟨u, p, s⟩ := h; ⟨u, pss_one p, s⟩
theorem ass_cons (h : AS X B st t) (h2 : ASs X B rest u) : ASs X B (st :: rest) (aSeq t u) := by
  obtain ⟨t1, p1, s1⟩ := h
  obtain ⟨t2, p2, s2⟩ := h2
  refine ⟨_, pss_cons p1 p2, fun Y H σ env D A rep q k => ?_⟩
  refine s1 Y H σ env { D with nx := t2 D } { A with nx := u A } rep q ⟨fun H' σ' env' rep' g q' => ?_, k.rt, k.bk, k.ct⟩
  exact s2 Y H' σ' env' D A rep' q' (k.after rep g)
theorem as_pass : AS X B (.Pass pos) aNext := ⟨_, ps_pass, fun Y H σ env D A rep q k => k.nx H σ env rep AdvS.refl q⟩
theorem as_break : AS X B (.Break pos) (fun A env => A.bk env) := ⟨_, ps_break, fun Y H σ env D A rep q k => k.bk H σ env rep AdvS.refl q⟩
theorem as_continue : AS X B (.Continue pos) (fun A env => A.ct env) := ⟨_, ps_continue, fun Y H σ env D A rep q k => k.ct H σ env rep AdvS.refl q⟩
def aDrop (a : AE') : AS' := fun A env => a env fun _ env1 => A.nx env1
theorem as_expr {a : AE'} (h : AE X e a) (hs : swapsWith e none pos.line X.env = pure false := by rfl) : AS X B (.Expr e pos) (aDrop a) := by
  obtain ⟨t, p, s⟩ := h
  refine ⟨_, ps_expr p hs, fun Y H σ env D A rep q k => ?_⟩
  exact s Y H σ env _ _ rep q fun v H' env' r Y' rep' g ok q' => k.nx H' σ env' (rep'.less g.yu) g.drop.toS q'
def aIfS (c : AT') (t u : AS') : AS' := fun A env => c env fun b env1 => brP b (t A env1) (u A env1)
theorem as_if {c : Expr} {tc : AT'} {a b : List Stmt} (hc : AT X c tc) (ha : ASs X B a t) (hb : ASs X B b u) : AS X B (.If c a b pos) (aIfS tc t u) := by
  obtain ⟨t0, p0, s0⟩ := hc
  obtain ⟨t1, p1, s1⟩ := ha
  obtain ⟨t2, p2, s2⟩ := hb
  refine ⟨_, ps_if p0 p1 p2, fun Y H σ env D A rep q k => ?_⟩
  refine s0.then rep q fun b H' env' rep' g q' => ?_
  cases b with
  | true => exact iteT (s1 Y H' σ env' D A rep' (by simpa using q') (k.after rep g.toS))
  | false => exact iteF (s2 Y H' σ env' D A rep' (by simpa using q') (k.after rep g.toS))
theorem as_never : AS X B st (fun _ _ => False) := ⟨_, ps_never, fun Y H σ env D A rep q k => q.elim⟩
theorem ass_never {sts : List Stmt} : ASs X B sts (fun _ _ => False) := ⟨_, pss_never, fun Y H σ env D A rep q k => q.elim⟩
/-- an owned thing that is given away -/
def rvO : D → RV
  | .rg ks es d => .nrg ks es d
  | d => .new d
def NewA (p : Addr) (d : D) (a : Addr) : Prop := a = p ∨ a ∈ regA d
def NewOk (K : Fg) (H : Hp) (Y Y1 : Ad) (σ : L2.St) (env : AEnv) (v : V) (d : D) : Prop := ∃ p, v = .ref p ∧ (Y1 = fun a => Y a ∨ NewA p d a) ∧ (∀ a, NewA p d a → ¬ Pw Y σ env a) ∧ RO K H (Pw Y1 σ env) p d
theorem RO0.plain {K : Fg} {H : Hp} {P : Ad} {p : Addr} : ∀ {d : D}, RO0 K H P p d → isRg d = false ∧ regA d = [] ∧ RO K H P p d ∧ rvO d = .new d
  | .lst _, h => ⟨rfl, rfl, h, rfl⟩
  | .dic _ _, h => ⟨rfl, rfl, h, rfl⟩
  | .dit _ _, h => ⟨rfl, rfl, h, rfl⟩
  | .obj _ _ _, h => ⟨rfl, rfl, h, rfl⟩
theorem newA_plain {p : Addr} {d : D} (e : regA d = []) (Y : Ad) : (fun a => Y a ∨ NewA p d a) = fun a => Y a ∨ a = p := by
  funext a
  unfold NewA
  rw [e]
  simp
theorem ResOk.newOk {K : Fg} {H : Hp} {Y Y1 : Ad} {σ : L2.St} {env : AEnv} {v : V} {d : D} (h : ResOk K H Y Y1 σ env v (.new d)) : NewOk K H Y Y1 σ env v d := by
  obtain ⟨p, e, ey, n, ro⟩ := h
  obtain ⟨_, e2, ro2, _⟩ := ro.plain
  refine ⟨p, e, by rw [newA_plain e2, ey], fun a z => ?_, ro2⟩
  rcases z with z | z
  · rw [z]; exact n
  · rw [e2] at z; cases z
theorem NewOk.res {K : Fg} {H : Hp} {Y Y1 : Ad} {σ : L2.St} {env : AEnv} {v : V} : ∀ {d : D}, NewOk K H Y Y1 σ env v d → ResOk K H Y Y1 σ env v (rvO d)
  | .rg _ _ _, ⟨p, e, ey, n, ro⟩ => ⟨p, e, ey, n, ro⟩
  | .lst l, ⟨p, e, ey, n, ro⟩ => ⟨p, e, by rw [ey]; exact newA_plain (d := .lst l) rfl Y, n p (.inl rfl), ro⟩
  | .dic k l, ⟨p, e, ey, n, ro⟩ => ⟨p, e, by rw [ey]; exact newA_plain (d := .dic k l) rfl Y, n p (.inl rfl), ro⟩
  | .dit k l, ⟨p, e, ey, n, ro⟩ => ⟨p, e, by rw [ey]; exact newA_plain (d := .dit k l) rfl Y, n p (.inl rfl), ro⟩
  | .obj C ns l, ⟨p, e, ey, n, ro⟩ => ⟨p, e, by rw [ey]; exact newA_plain (d := .obj C ns l) rfl Y, n p (.inl rfl), ro⟩
theorem OwnA.ne {σ : L2.St} {i j : Nat} {x : Option V} {d : D} {a : Addr} (h : i ≠ j) (w : OwnA (σ.set i x) j d a) : OwnA σ j d a := w.imp (fun w => by rwa [List.getElem?_set_ne h] at w) id
theorem OwnA.ne' {σ : L2.St} {i j : Nat} {x : Option V} {d : D} {a : Addr} (h : i ≠ j) (w : OwnA σ j d a) : OwnA (σ.set i x) j d a := w.imp (fun w => by rwa [List.getElem?_set_ne h]) id
/-- return: an own thing goes to the caller -/
def retR (B : Nat → Bool) (A : AEnds) (env : AEnv) : RV → Prop
  | .at i => match env[i]? with
    | some (.own d) => B i = false ∧ (match isRg d with | true => A.rt (rvO d) (env.set i .un) | false => A.rt (.new d) (env.set i .un))
    | some (.dat d) => A.rt (.dat d) env
    | _ => False
  | r => A.rt r env
def aRet (B : Nat → Bool) (a : AE') : AS' := fun A env => a env fun r env1 => retR B A env1 r
end
section
variable {K : Fg} {B : Nat → Bool} {σ : L2.St} {Y Y1 : Ad} {env : AEnv} {H : Hp}
/-- an own thing is given away -/
theorem Rep.give {i : Nat} {d : D} {v : V} (R : Rep K Y H σ env) (hb : B i = false) (h : env[i]? = some (.own d)) (hv : σ[i]? = some (some v)) :
    ∃ Y', Rep K Y' H σ (env.set i .un) ∧ AdvS B σ Y env H Y' σ (env.set i .un) H ∧ NewOk K H Y Y' σ (env.set i .un) v d := by
  have hi : i < env.length := (List.getElem?_eq_some_iff.mp h).1
  have back : ∀ (j : Nat) (e : D), (env.set i .un)[j]? = some (.own e) → env[j]? = some (.own e) ∧ j ≠ i := fun j e q => by
    by_cases z : i = j
    · subst z
      rw [List.getElem?_set_self hi] at q; cases q
    · rw [List.getElem?_set_ne z] at q
      exact ⟨q, fun w => z w.symm⟩
  have backd : ∀ (j : Nat) (e : D), (env.set i .un)[j]? = some (.dat e) → env[j]? = some (.dat e) := fun j e q => by
    by_cases z : i = j
    · subst z
      rw [List.getElem?_set_self hi] at q; cases q
    · rwa [List.getElem?_set_ne z] at q
  have ow : ∀ a, Own σ (env.set i .un) a → Own σ env a := fun a ⟨j, e, q, w⟩ => ⟨j, e, (back j e q).1, w⟩
  obtain ⟨p, hp, np, rp⟩ := R.own i d h
  rw [hv] at hp; cases hp
  have oA : ∀ a, NewA p d a → OwnA σ i d a := fun a z => z.imp (fun z => by rw [z]; exact hv) id
  have pw : ∀ a, Pw (fun a => Y a ∨ NewA p d a) σ (env.set i .un) a → Pw Y σ env a := fun a z => by
    rcases z with (z | z) | z
    · exact .inl z
    · exact .inr ⟨i, d, h, oA a z⟩
    · exact .inr (ow a z)
  have nown : ∀ a, NewA p d a → ¬ Own σ (env.set i .un) a := fun a za ⟨j, e, q, w⟩ => by
    obtain ⟨q1, q2⟩ := back j e q
    exact q2 (R.inj j i e d a q1 h w (oA a za))
  have other : ∀ (j : Nat) (e : D) (a : Addr), (env.set i .un)[j]? = some (.own e) → OwnA σ j e a → ¬ NewA p d a := fun j e a q w z => nown a z ⟨j, e, q, w⟩
  refine ⟨fun a => Y a ∨ NewA p d a, ⟨by rw [List.length_set]; exact R.len, fun j e q => ?_, fun j e q => ?_, fun a z => ?_, fun j k e f a q1 q2 w1 w2 => R.inj j k e f a (back j e q1).1 (back k f q2).1 w1 w2, fun j e a q m z => ?_⟩,
    ⟨fun _ _ h _ => .inl h, fun _ _ => rfl, fun _ z => .inl z, fun a z => ?_, fun a z => .inl (ow a z), fun _ o h => ⟨o, h⟩, fun _ _ => rfl, fun j bj => by
      rw [List.getElem?_set_ne (fun e => by subst e; rw [hb] at bj; cases bj)]
      exact Sh.refl _, rfl⟩, p, rfl, rfl, fun a za z => ?_, rp.less pw⟩
  · obtain ⟨v, w, r⟩ := R.dat j e (backd j e q)
    exact ⟨v, w, r.less pw⟩
  · obtain ⟨q1, q2⟩ := back j e q
    obtain ⟨p', w, n, r⟩ := R.own j e q1
    refine ⟨p', w, fun z => ?_, r.less pw⟩
    rcases z with z | z
    · exact n z
    · exact other j e p' q (.inl w) z
  · rcases z with z | z
    · exact R.yim a z
    · exact (R.ownY h (oA a z)).2
  · rcases z with z | z
    · exact R.ony j e a (back j e q).1 m z
    · exact other j e a q (.inr m) z
  · rcases z with z | z
    · exact .inl z
    · exact .inr (.inr ⟨i, d, h, oA a z⟩)
  · rcases z with z | z
    · exact (R.ownY h (oA a za)).1 z
    · exact nown a za z
/-- data stored at a slot -/
theorem Rep.setDat {i : Nat} {v : V} {d : D} (R : Rep K Y H σ env) (hb : B i = false) (h : RD K H (Pw Y σ env) v d) : Rep K Y H (σ.set i (some v)) (env.set i (.dat d)) ∧ AdvS B σ Y env H Y (σ.set i (some v)) (env.set i (.dat d)) H := by
  have back : ∀ (j : Nat) (e : D), (env.set i (.dat d))[j]? = some (.own e) → env[j]? = some (.own e) ∧ i ≠ j := fun j e q => by
    by_cases z : i = j
    · subst z
      by_cases hi : i < env.length
      · rw [List.getElem?_set_self hi] at q; cases q
      · rw [List.getElem?_eq_none (by rw [List.length_set]; omega)] at q; cases q
    · rw [List.getElem?_set_ne z] at q
      exact ⟨q, z⟩
  have ow : ∀ a, Own (σ.set i (some v)) (env.set i (.dat d)) a → Own σ env a := fun a ⟨j, e, q, w⟩ => by
    obtain ⟨q1, q2⟩ := back j e q
    exact ⟨j, e, q1, w.ne q2⟩
  have pw : ∀ a, Pw Y (σ.set i (some v)) (env.set i (.dat d)) a → Pw Y σ env a := fun a z => z.imp id (ow a)
  refine ⟨⟨by rw [List.length_set, List.length_set]; exact R.len, fun j e q => ?_, fun j e q => ?_, R.yim, fun j k e f a q1 q2 w1 w2 => ?_, fun j e a q m => R.ony j e a (back j e q).1 m⟩, ⟨fun _ _ h _ => .inl h, fun _ _ => rfl, fun _ z => z, fun a z => .inl z, fun a z => .inl (ow a z), fun _ o h => ⟨o, h⟩, fun j bj => ?_, fun j bj => by
    rw [List.getElem?_set_ne (fun e => by subst e; rw [hb] at bj; cases bj)]
    exact Sh.refl _, List.length_set⟩⟩
  · by_cases z : i = j
    · subst z
      by_cases hi : i < env.length
      · rw [List.getElem?_set_self hi] at q; cases q
        exact ⟨v, List.getElem?_set_self (by rw [R.len]; exact hi), h.less pw⟩
      · rw [List.getElem?_eq_none (by rw [List.length_set]; omega)] at q; cases q
    · rw [List.getElem?_set_ne z] at q
      obtain ⟨u, w, r⟩ := R.dat j e q
      exact ⟨u, by rw [List.getElem?_set_ne z]; exact w, r.less pw⟩
  · obtain ⟨q1, q2⟩ := back j e q
    obtain ⟨p', w, n, r⟩ := R.own j e q1
    exact ⟨p', by rw [List.getElem?_set_ne q2]; exact w, n, r.less pw⟩
  · obtain ⟨q1, z1⟩ := back j e q1
    obtain ⟨q2, z2⟩ := back k f q2
    exact R.inj j k e f a q1 q2 (w1.ne z1) (w2.ne z2)
  · rw [List.getElem?_set_ne]
    intro z
    subst z
    rw [hb] at bj; cases bj
/-- a new thing stored at a slot: it is owned there -/
theorem Rep.setNew {i : Nat} {v : V} {d : D} (R : Rep K Y1 H σ env) (hb : B i = false) (yu : ∀ a, Y a → Y1 a) (h : NewOk K H Y Y1 σ env v d) : Rep K Y H (σ.set i (some v)) (env.set i (.own d)) ∧
    (AdvS B σ Y env H Y1 σ env H → ∀ p, v = .ref p → True) ∧ (∀ (H0 : Hp) (σ0 : L2.St) (env0 : AEnv), (∀ a, Y1 a → Y a ∨ H0 a = none) → AdvS B σ0 Y env0 H0 Y1 σ env H → AdvS B σ0 Y env0 H0 Y (σ.set i (some v)) (env.set i (.own d)) H) := by
  obtain ⟨p, rfl, ey, np, ro⟩ := h
  have back : ∀ (j : Nat) (e : D), (env.set i (.own d))[j]? = some (.own e) → (i = j ∧ e = d) ∨ (env[j]? = some (.own e) ∧ i ≠ j) := fun j e q => by
    by_cases z : i = j
    · subst z
      by_cases hi : i < env.length
      · rw [List.getElem?_set_self hi] at q; cases q
        exact .inl ⟨rfl, rfl⟩
      · rw [List.getElem?_eq_none (by rw [List.length_set]; omega)] at q; cases q
    · rw [List.getElem?_set_ne z] at q
      exact .inr ⟨q, z⟩
  have backd : ∀ (j : Nat) (e : D), (env.set i (.own d))[j]? = some (.dat e) → env[j]? = some (.dat e) ∧ i ≠ j := fun j e q => by
    by_cases z : i = j
    · subst z
      by_cases hi : i < env.length
      · rw [List.getElem?_set_self hi] at q; cases q
      · rw [List.getElem?_eq_none (by rw [List.length_set]; omega)] at q; cases q
    · rw [List.getElem?_set_ne z] at q
      exact ⟨q, z⟩
  have atA : ∀ a, OwnA (σ.set i (some (.ref p))) i d a → NewA p d a := fun a w => by
    rcases w with w | w
    · by_cases hi : i < σ.length
      · rw [List.getElem?_set_self hi] at w; cases w
        exact .inl rfl
      · rw [List.getElem?_eq_none (by rw [List.length_set]; omega)] at w; cases w
    · exact .inr w
  have ow : ∀ a, Own (σ.set i (some (.ref p))) (env.set i (.own d)) a → Own σ env a ∨ NewA p d a := fun a ⟨j, e, q, w⟩ => by
    rcases back j e q with ⟨z, ed⟩ | ⟨q1, q2⟩
    · subst z ed
      exact .inr (atA a w)
    · exact .inl ⟨j, e, q1, w.ne q2⟩
  have pw : ∀ a, Pw Y (σ.set i (some (.ref p))) (env.set i (.own d)) a → Pw Y1 σ env a := fun a z => by
    rcases z with z | z
    · exact .inl (yu a z)
    · rcases ow a z with z | z
      · exact .inr z
      · exact .inl (by rw [ey]; exact .inr z)
  have newY : ∀ a, NewA p d a → ∃ o, H a = some o ∧ Mut (some o) := fun a z => R.yim a (by rw [ey]; exact .inr z)
  refine ⟨⟨by rw [List.length_set, List.length_set]; exact R.len, fun j e q => ?_, fun j e q => ?_, fun a z => R.yim a (yu a z), fun j k e f a q1 q2 w1 w2 => ?_, fun j e a q m z => ?_⟩, fun _ _ _ => trivial, fun H0 σ0 env0 yn g => ⟨g.keep, g.ky, fun _ z => z, fun a z => .inl z, fun a z => ?_, g.live, fun j bj => ?_, fun j bj => by
    rw [List.getElem?_set_ne (fun e => by subst e; rw [hb] at bj; cases bj)]
    exact g.pr j bj, by rw [List.length_set]; exact g.len⟩⟩
  · obtain ⟨q1, z⟩ := backd j e q
    obtain ⟨u, w, r⟩ := R.dat j e q1
    exact ⟨u, by rw [List.getElem?_set_ne z]; exact w, r.less pw⟩
  · rcases back j e q with ⟨z, e1⟩ | ⟨q1, z⟩
    · subst z e1
      have hi : i < env.length := by
        by_cases hi : i < env.length
        · exact hi
        · rw [List.getElem?_eq_none (by rw [List.length_set]; omega)] at q; cases q
      exact ⟨p, List.getElem?_set_self (by rw [R.len]; exact hi), fun z => np p (.inl rfl) (.inl z), ro.less pw⟩
    · obtain ⟨p', w, n, r⟩ := R.own j e q1
      exact ⟨p', by rw [List.getElem?_set_ne z]; exact w, fun z => n (yu p' z), r.less pw⟩
  · have key : ∀ (j : Nat) (e : D), env[j]? = some (.own e) → OwnA σ j e a → ¬ NewA p d a := fun j e q w z => np a z (.inr ⟨j, e, q, w⟩)
    rcases back j e q1 with ⟨z, ed⟩ | ⟨r1, z1⟩
    · rcases back k f q2 with ⟨z', _⟩ | ⟨r2, z2⟩
      · rw [← z, ← z']
      · rw [← z, ed] at w1
        exact (key k f r2 (w2.ne z2) (atA a w1)).elim
    · rcases back k f q2 with ⟨z', ed⟩ | ⟨r2, z2⟩
      · rw [← z', ed] at w2
        exact (key j e r1 (w1.ne z1) (atA a w2)).elim
      · exact R.inj j k e f a r1 r2 (w1.ne z1) (w2.ne z2)
  · rcases back j e q with ⟨_, ed⟩ | ⟨q1, _⟩
    · subst ed
      exact np a (.inr m) (.inl z)
    · exact R.ony j e a q1 m (yu a z)
  · rcases ow a z with z | z
    · exact g.ow a z
    · have : Y1 a := by rw [ey]; exact .inr z
      rcases yn a this with w | w
      · exact (np a z (.inl w)).elim
      · exact .inr w
  · rw [List.getElem?_set_ne]
    · exact g.st j bj
    · intro z
      subst z
      rw [hb] at bj; cases bj
end
section
variable {X : Cx} {B : Nat → Bool} {e : Expr} {pos : Pos}
theorem ret_own {N : RV → AEnv → Prop} {env : AEnv} {d : D} (h : match isRg d with | true => N (rvO d) env | false => N (.new d) env) : N (rvO d) env := by
  cases d <;> exact h
theorem as_ret {a : AE'} (h : AE X e a) : AS X B (.Return (some e) pos) (aRet B a) := by
  obtain ⟨t, p, s⟩ := h
  refine ⟨_, ps_ret p, fun Y H σ env D A rep q k => ?_⟩
  refine s Y H σ env _ _ rep q fun v H' env' r Y' rep' g ok q' => ?_
  match r, ok, q' with
  | .dat d, ok, q' => exact k.rt v H' σ env' (.dat d) Y' rep' g.toS ok q'
  | .new d, ok, q' => exact k.rt v H' σ env' (.new d) Y' rep' g.toS ok q'
  | .nrg ks es d, ok, q' => exact k.rt v H' σ env' (.nrg ks es d) Y' rep' g.toS ok q'
  | .at i, ok, q' =>
    obtain ⟨ey, hv, d, w⟩ := ok
    subst ey
    rcases w with w | w
    · have q2 : B i = false ∧ A.rt (rvO d) (env'.set i .un) := by
        have q : retR B A env' (.at i) := q'
        simp only [retR, w] at q
        exact ⟨q.1, ret_own q.2⟩
      obtain ⟨Y2, r2, g2, ok2⟩ := rep'.give (B := B) q2.1 w hv
      exact k.rt v H' σ _ (rvO d) Y2 r2 (g.toS.trans rep g2) ok2.res q2.2
    · have q2 : A.rt (.dat d) env' := by simpa [retR, w] using q'
      obtain ⟨u, hu, r⟩ := rep'.dat i d w
      rw [hv] at hu; cases hu
      exact k.rt v H' σ env' (.dat d) Y' rep' g.toS ⟨rfl, r⟩ q2
theorem as_retN : AS X B (.Return none pos) (fun A env => A.rt (.dat .non) env) := ⟨_, ps_retN, fun Y H σ env D A rep q k => k.rt .non H σ env (.dat .non) Y rep AdvS.refl ⟨rfl, .non⟩ q⟩
/-- name = value -/
def setR (i : Nat) (N : AEnv → Prop) (env : AEnv) : RV → Prop
  | .dat d => N (env.set i (.dat d))
  | .new d => N (env.set i (.own d))
  | .nrg ks es d => N (env.set i (.own (.rg ks es d)))
  | .at j => match env[j]? with
    | some (.own d) => (match isRg d with | true => False | false => N ((env.set j (.dat d)).set i (.dat d)))
    | some (.dat d) => N (env.set i (.dat d))
    | _ => False
def aSet (i : Nat) (a : AE') : AS' := fun A env => a env fun r env1 => setR i A.nx env1 r
theorem set_own {N : AEnv → Prop} {env : AEnv} {i j : Nat} {d : D} (h : match isRg d with | true => False | false => N ((env.set j (.dat d)).set i (.dat d))) : isRg d = false ∧ N ((env.set j (.dat d)).set i (.dat d)) := by
  cases d <;> first | exact ⟨rfl, h⟩ | exact h.elim
theorem set_ok {K : Fg} {i : Nat} {σ : L2.St} {Y Y1 : Ad} {env env1 : AEnv} {H H1 : Hp} {v : V} {r : RV} {N : AEnv → Prop} {Q : Prop} (hb : B i = false) (rep : Rep K Y H σ env) (g : Adv σ Y env H Y1 env1 H1) (rep1 : Rep K Y1 H1 σ env1) (ok : ResOk K H1 Y Y1 σ env1 v r)
    (q : setR i N env1 r) (k : ∀ env2, Rep K Y H1 (σ.set i (some v)) env2 → AdvS B σ Y env H Y (σ.set i (some v)) env2 H1 → N env2 → Q) : Q := by
  match r, ok, q with
  | .dat d, ok, q =>
    obtain ⟨ey, rd⟩ := ok
    subst ey
    obtain ⟨a, b⟩ := rep1.setDat (B := B) hb rd
    exact k _ a (g.toS.trans rep b) q
  | .new d, ok, q =>
    obtain ⟨a, _, b⟩ := rep1.setNew (B := B) hb g.yu ok.newOk
    exact k _ a (b H σ env g.yn g.toS) q
  | .nrg ks es d, ok, q =>
    obtain ⟨a, _, b⟩ := rep1.setNew (B := B) (d := .rg ks es d) hb g.yu ok
    exact k _ a (b H σ env g.yn g.toS) q
  | .at j, ok, q =>
    obtain ⟨ey, hv, d, w⟩ := ok
    subst ey
    rcases w with w | w
    · have q2 : isRg d = false ∧ N ((env1.set j (.dat d)).set i (.dat d)) := by
        have q : setR i N env1 (.at j) := q
        simp only [setR, w] at q
        exact set_own q
      obtain ⟨r1, g1, u, hu, rd⟩ := rep1.freeze w q2.1
      rw [hv] at hu; cases hu
      obtain ⟨a, b⟩ := r1.setDat (B := B) hb rd
      exact k _ a ((g.trans g1).toS.trans rep b) q2.2
    · have q2 : N (env1.set i (.dat d)) := by simpa [setR, w] using q
      obtain ⟨u, hu, rd⟩ := rep1.dat j d w
      rw [hv] at hu; cases hu
      obtain ⟨a, b⟩ := rep1.setDat (B := B) hb rd
      exact k _ a (g.toS.trans rep b) q2
theorem as_set {i : Nat} {x : Str} {pos' : Pos} {a : AE'} (hN : X.N.Nodup) (hi : X.N[i]? = some x) (hx : Loc X.env.scope x) (he : AE X e a) (hb : B i = false := by rfl) (hs : swapsWith e (some (.Name x pos')) pos.line X.env = pure false := by rfl) (hf : X.fn x = true ∨ X.env.scope.names.lookup x = some .local := by first | exact .inl rfl | exact .inr rfl | assumption) :
    AS X B (.Assign [.Name x pos'] e pos) (aSet i a) := by
  obtain ⟨t, p, s⟩ := he
  refine ⟨_, ps_set hN hi hx p hs hf, fun Y H σ env D A rep q k => ?_⟩
  refine s Y H σ env _ _ rep q fun v H' env' r Y' rep' g ok q' => ?_
  exact set_ok hb rep g rep' ok q' fun env2 r2 g2 q2 => k.nx H' _ env2 r2 g2 q2
end
end AL
namespace AL
open PySem L2
/-! AL8: targets, stores, what a for walks, for, comprehensions. -/
abbrev AG' := D → AEnv → (AEnv → Prop) → Prop
abbrev AGs' := List D → AEnv → (AEnv → Prop) → Prop
def SndG (K : Fg) (B : Nat → Bool) (g : TG) (a : AG') : Prop := ∀ (Y : Ad) (H : Hp) (σ : L2.St) (env : AEnv) (v : V) (d : D) (N : AEnv → Prop) (Q : L2.St → Hp → Prop), Rep K Y H σ env → RD K H (Pw Y σ env) v d → a d env N →
  (∀ H' σ' env', Rep K Y H' σ' env' → AdvS B σ Y env H Y σ' env' H' → N env' → Q σ' H') → g v σ H Q
def SndGs (K : Fg) (B : Nat → Bool) (g : TGs) (a : AGs') : Prop := ∀ (Y : Ad) (H : Hp) (σ : L2.St) (env : AEnv) (v : List V) (d : List D) (N : AEnv → Prop) (Q : L2.St → Hp → Prop), Rep K Y H σ env → RDs K H (Pw Y σ env) v d → a d env N →
  (∀ H' σ' env', Rep K Y H' σ' env' → AdvS B σ Y env H Y σ' env' H' → N env' → Q σ' H') → g v σ H Q
def AG (X : Cx) (B : Nat → Bool) (tg : Expr) (a : AG') : Prop := ∃ t, PG X tg t ∧ SndG X.K B t a
def AGs (X : Cx) (B : Nat → Bool) (tg : List Expr) (a : AGs') : Prop := ∃ t, PGs X tg t ∧ SndGs X.K B t a
def agName (i : Nat) : AG' := fun d env N => N (env.set i (.dat d))
def agNil : AGs' := fun ds env N => ds = [] ∧ N env
def agCons (a : AG') (b : AGs') : AGs' := fun ds env N => match ds with
  | d :: r => a d env fun env1 => b r env1 N
  | [] => False
def agTup (n : Nat) (a : AGs') : AG' := fun d env N => match d with
  | .tup ds => ds.length = n ∧ a ds env N
  | .lst ds => ds.length = n ∧ a ds env N
  | _ => False
theorem PG.or {X : Cx} {tg : Expr} {g g' : TG} (h : PG X tg g) (h' : PG X tg g') : PG X tg (fun v σ H Q => g v σ H Q ∨ g' v σ H Q) := ⟨fun pins s σ H v u Q I r q => q.elim (h.run pins s σ H v u Q I r) (h'.run pins s σ H v u Q I r)⟩
section
variable {X : Cx} {B : Nat → Bool} {pos : Pos}
theorem ag_name (i : Nat) {x : Str} (hN : X.N.Nodup) (hi : X.N[i]? = some x) (hx : Loc X.env.scope x) (hb : B i = false := by rfl) (hf : X.fn x = true ∨ X.env.scope.names.lookup x = some .local := by first | exact .inl rfl | exact .inr rfl | assumption) : AG X B (.Name x pos) (agName i) := by
  refine ⟨_, pg_name (i := i) hN hi hx hf, fun Y H σ env v d N Q rep rd q k => ?_⟩
  obtain ⟨a, b⟩ := rep.setDat (B := B) hb rd
  exact k H _ _ a b q
theorem ags_nil : AGs X B [] agNil := ⟨_, pgs_nil, fun Y H σ env v d N Q rep rd q k => by
  obtain ⟨rfl, q⟩ := q
  cases rd
  exact ⟨rfl, k H σ env rep AdvS.refl q⟩⟩
theorem ags_cons {e : Expr} {es : List Expr} {a : AG'} {b : AGs'} (h1 : AG X B e a) (h2 : AGs X B es b) (hs : (assignEach (e :: es) X.env).map (·.2) = assign e X.env :: (assignEach es X.env).map (·.2) := by rfl) : AGs X B (e :: es) (agCons a b) := by
  obtain ⟨t1, p1, s1⟩ := h1
  obtain ⟨t2, p2, s2⟩ := h2
  refine ⟨_, pgs_cons p1 p2 hs, fun Y H σ env v d N Q rep rd q k => ?_⟩
  cases rd with
  | nil => exact q.elim
  | cons r rr =>
    refine ⟨_, _, rfl, s1 Y H σ env _ _ _ _ rep r q fun H1 σ1 env1 rep1 g1 q1 => ?_⟩
    exact s2 Y H1 σ1 env1 _ _ _ _ rep1 (g1.rds rep rr) q1 fun H2 σ2 env2 rep2 g2 q2 => k H2 σ2 env2 rep2 (g1.trans rep g2) q2
theorem ag_tup {es : List Expr} {k n : Nat} {a : AGs'} (hc : X.calm = true) (h : AGs X B es a)
    (hn : (assignEach es X.env).length = n := by rfl) (hst : (assignEach es X.env).findIdx? (·.1) = none := by rfl) : AG X B (.Tuple es k pos) (agTup n a) := by
  obtain ⟨t1, p1, s1⟩ := h
  refine ⟨_, PG.or (pg_tup hc p1 hn hst) (pg_unl hc p1 hn hst), fun Y H σ env v d N Q rep rd q k => ?_⟩
  match d, rd, q with
  | .tup ds, .tup s r, q => exact .inl ⟨_, _, rfl, s.sq, by rw [r.length]; exact q.1, s1 Y H σ env _ _ _ _ rep r q.2 k⟩
  | .lst ds, .lst s r, q => exact .inr ⟨_, _, rfl, s.sq, by rw [r.length]; exact q.1, s1 Y H σ env _ _ _ _ rep r q.2 k⟩
end
/-! ### an owned thing changes -/
section
variable {K : Fg} {B : Nat → Bool} {σ : L2.St} {Y : Ad} {env : AEnv} {H : Hp}
/-- an owned thing, or a thing within it, changes -/
theorem Rep.mutA {i : Nat} {d d1 : D} {p x : Addr} {o : HO} (R : Rep K Y H σ env) (h : env[i]? = some (.own d)) (hp : σ[i]? = some (some (.ref p))) (hx : OwnA σ i d x) (hreg : regA d1 = regA d)
    (ro : ∀ P : Ad, (∀ a, P a ↔ Pw Y σ env a) → Go (fun a => a = x) (Pw Y σ env) P H (upd H x o) → RO K (upd H x o) P p d1) (mo : Mut (some o)) :
    Rep K Y (upd H x o) σ (env.set i (.own d1)) ∧ AdvS B σ Y env H Y σ (env.set i (.own d1)) (upd H x o) := by
  have hi : i < env.length := (List.getElem?_eq_some_iff.mp h).1
  have oA : ∀ a, OwnA σ i d1 a ↔ OwnA σ i d a := fun a => by unfold OwnA; rw [hreg]
  have back : ∀ (j : Nat) (e : D), (env.set i (.own d1))[j]? = some (.own e) → (i = j ∧ e = d1) ∨ (env[j]? = some (.own e) ∧ i ≠ j) := fun j e q => by
    by_cases z : i = j
    · subst z
      rw [List.getElem?_set_self hi] at q; cases q
      exact .inl ⟨rfl, rfl⟩
    · rw [List.getElem?_set_ne z] at q
      exact .inr ⟨q, z⟩
  have bk : ∀ (j : Nat) (e : D) (a : Addr), (env.set i (.own d1))[j]? = some (.own e) → OwnA σ j e a → ∃ e', env[j]? = some (.own e') ∧ OwnA σ j e' a := fun j e a q w => by
    rcases back j e q with ⟨z, ed⟩ | ⟨q1, _⟩
    · subst z ed
      exact ⟨d, h, (oA a).mp w⟩
    · exact ⟨e, q1, w⟩
  have ow : ∀ a, Own σ (env.set i (.own d1)) a ↔ Own σ env a := fun a => by
    constructor
    · rintro ⟨j, e, q, w⟩
      obtain ⟨e', q', w'⟩ := bk j e a q w
      exact ⟨j, e', q', w'⟩
    · rintro ⟨j, e, q, w⟩
      by_cases z : i = j
      · subst z
        rw [h] at q; cases q
        exact ⟨_, d1, List.getElem?_set_self hi, (oA a).mpr w⟩
      · exact ⟨j, e, by rw [List.getElem?_set_ne z]; exact q, w⟩
  have pw : ∀ a, Pw Y σ (env.set i (.own d1)) a ↔ Pw Y σ env a := fun a => or_congr Iff.rfl (ow a)
  obtain ⟨nx, _⟩ := R.ownY h hx
  obtain ⟨p', hp', np, rp⟩ := R.own i d h
  rw [hp] at hp'; cases hp'
  have g : Go (fun a => a = x) (Pw Y σ env) (Pw Y σ (env.set i (.own d1))) H (upd H x o) := ⟨fun a u q n => .inl (by rw [upd_ne n]; exact q), fun a z => .inl ((pw a).mp z)⟩
  have sub : ∀ a, a = x → Pw Y σ env a := fun a z => by subst z; exact .inr ⟨i, d, h, hx⟩
  refine ⟨⟨by rw [List.length_set]; exact R.len, fun j e q => ?_, fun j e q => ?_, fun a z => ?_, fun j k e f a q1 q2 w1 w2 => ?_, fun j e a q m => ?_⟩, ⟨fun a u q n => .inl ?_, fun a z => ?_, fun _ z => z, fun a z => .inl z, fun a z => .inl ((ow a).mp z), fun a u q => ?_, fun _ _ => rfl, fun j _ => ?_, rfl⟩⟩
  · by_cases z : i = j
    · subst z
      rw [List.getElem?_set_self hi] at q; cases q
    · rw [List.getElem?_set_ne z] at q
      obtain ⟨v, w, r⟩ := R.dat j e q
      exact ⟨v, w, r.go g sub⟩
  · rcases back j e q with ⟨z, e1⟩ | ⟨q1, z⟩
    · subst z e1
      exact ⟨p, hp, np, ro _ pw g⟩
    · obtain ⟨p', w, n, r⟩ := R.own j e q1
      have ne : ∀ a, OwnA σ j e a → a ≠ x := fun a wa e' => by
        subst e'
        exact z (R.inj i j d e a h q1 hx wa)
      exact ⟨p', w, n, RO.go g sub (upd_ne (ne p' (.inl w))) (fun q m => upd_ne (ne q (.inr m))) r⟩
  · by_cases e : a = x
    · subst e; exact absurd z nx
    · obtain ⟨u, q, m⟩ := R.yim a z
      exact ⟨u, by rw [upd_ne e]; exact q, m⟩
  · obtain ⟨e', q1, w1⟩ := bk j e a q1 w1
    obtain ⟨f', q2, w2⟩ := bk k f a q2 w2
    exact R.inj j k e' f' a q1 q2 w1 w2
  · obtain ⟨e', q', w'⟩ := bk j e a q (.inr m)
    exact (R.ownY q' w').1
  · rw [upd_ne]
    · exact q
    · intro e
      subst e
      exact n ⟨i, d, h, hx⟩
  · rw [upd_ne]
    intro e
    subst e
    exact nx z
  · by_cases e : a = x
    · subst e; exact ⟨o, upd_same⟩
    · exact ⟨u, by rw [upd_ne e]; exact q⟩
  · by_cases e : i = j
    · subst e
      rw [List.getElem?_set_self hi, h]
      show ∀ q ∈ regA d, q ∈ regA d1
      rw [hreg]
      exact fun _ m => m
    · rw [List.getElem?_set_ne e]
      exact Sh.refl _
theorem Rep.mut {i : Nat} {d d1 : D} {p : Addr} {o : HO} (R : Rep K Y H σ env) (h : env[i]? = some (.own d)) (hp : σ[i]? = some (some (.ref p)))
    (ro : ∀ P : Ad, (∀ a, P a ↔ Pw Y σ env a) → Go (fun a => a = p) (Pw Y σ env) P H (upd H p o) → RO K (upd H p o) P p d1) (hreg : regA d1 = regA d := by rfl) (mo : Mut (some o) := by trivial) :
    Rep K Y (upd H p o) σ (env.set i (.own d1)) ∧ AdvS B σ Y env H Y σ (env.set i (.own d1)) (upd H p o) := R.mutA h hp (.inl hp) hreg ro mo
end
/-! ### o[i] = v -/
@[irreducible] def setAt (j : Nat) (k d : D) (env : AEnv) (N : AEnv → Prop) : Prop := match env[j]?, k with
  | some (.own (.lst l)), .int i => ∃ m, ixN l.length i = some m ∧ N (env.set j (.own (.lst (l.set m d))))
  | some (.own (.dic ks vs)), k => isKey k = true ∧ ks.length < sizeLine ∧ N (env.set j (.own (.dic (dPutK ks k) (dPutW ks vs k d))))
  | _, _ => False
def agSub (o i : AE') : AG' := fun d env N => o env fun r env1 => i env1 fun s env2 => match r, val env2 s with
  | .at j, some k => setAt j k d env2 N
  | _, _ => False
theorem dput_ok {K : Fg} {H : Hp} {P : Ad} {kvs : List (Key × V)} {vs : List D} {k : Key} {v : V} {d : D} (r : RDs K H P (kvs.map (·.2)) vs) (hv : RD K H P v d) :
    dPutK (kvs.map fun kv => kD kv.1) (kD k) = (putK kvs k v).map (fun kv => kD kv.1) ∧ RDs K H P ((putK kvs k v).map (·.2)) (dPutW (kvs.map fun kv => kD kv.1) vs (kD k) d) := by
  unfold dPutK dPutW putK
  by_cases h : (kvs.any fun kv => decide (kv.1 = k)) = true
  · have h' : kD k ∈ (kvs.map fun kv => kD kv.1) := (mem_key kD_inj k kvs).mpr h
    rw [if_pos h', if_pos h', if_pos h]
    exact ⟨(put_keys (g := kD) k v kvs).symm, put_map kD_inj hv r⟩
  · have h' : ¬ kD k ∈ (kvs.map fun kv => kD kv.1) := fun z => h ((mem_key kD_inj k kvs).mp z)
    rw [if_neg h', if_neg h', if_neg h]
    rw [List.map_append, List.map_append]
    exact ⟨rfl, r.append (.cons hv .nil)⟩
theorem Go.rds {K : Fg} {P0 P1 P2 : Ad} {H H' : Hp} (g : Go P0 P1 P2 H H') (s : ∀ a, P0 a → P1 a) {vs : List V} {ds : List D} (h : RDs K H P1 vs ds) : RDs K H' P2 vs ds := h.go g s
theorem set_at_ok {K : Fg} {B : Nat → Bool} {Y : Ad} {H : Hp} {σ : L2.St} {env : AEnv} {o i v : V} {d k : D} {j : Nat} {N : AEnv → Prop} {Q : Hp → Prop} (rep : Rep K Y H σ env) (ho : σ[j]? = some (some o)) (hk : RC K H (Pw Y σ env) i k) (hv : RD K H (Pw Y σ env) v d)
    (q : setAt j k d env N) (fin : ∀ H' env', Rep K Y H' σ env' → AdvS B σ Y env H Y σ env' H' → N env' → Q H') : rSetL o i v H Q ∨ rSetD o i v H Q := by
  unfold setAt at q
  match w : env[j]?, k, hk, q with
  | some (.own (.lst l)), .int z, hk, q =>
    obtain ⟨m, hm, q⟩ := q
    obtain ⟨p, hp, np, us, hu, r, hl⟩ := rep.own j _ w
    rw [ho] at hp; cases hp
    obtain ⟨a, b⟩ := rep.mut (B := B) (o := .lst (us.set m v)) (d1 := .lst (l.set m d)) w ho fun P pw g => ⟨_, upd_same, Go.rds g (fun a e => by subst e; exact .inr ⟨j, _, w, .inl ho⟩) (r.set hv m), by rw [List.length_set]; exact hl⟩
    exact .inl ⟨p, us, z, m, rfl, hk.int, hu, by rw [r.length]; exact hm, fin _ _ a b q⟩
  | some (.own (.dic ks vs)), k, hk, q =>
    obtain ⟨hkey, hz, q⟩ := q
    obtain ⟨ky, rfl⟩ := isKey_of hkey
    obtain ⟨p, hp, np, kvs, hu, ek, r⟩ := rep.own j _ w
    rw [ho] at hp; cases hp
    subst ek
    obtain ⟨e1, r2⟩ := dput_ok (k := ky) r hv
    obtain ⟨a, b⟩ := rep.mut (B := B) (o := .dK (putK kvs ky v)) (d1 := .dic (dPutK (kvs.map fun kv => kD kv.1) (kD ky)) (dPutW (kvs.map fun kv => kD kv.1) vs (kD ky) d)) w ho fun P pw g => ⟨_, upd_same, e1, Go.rds g (fun a e => by subst e; exact .inr ⟨j, _, w, .inl ho⟩) r2⟩
    refine .inr ⟨p, _, rfl, .inl ⟨kvs, ky, hu, hk.key, by simpa using hz, rfl⟩, fin _ _ a b q⟩
theorem PSet.or {X : Cx} {r r' : V → V → V → Hp → (Hp → Prop) → Prop} (h : PSet X r) (h' : PSet X r') : PSet X (fun o i v H Q => r o i v H Q ∨ r' o i v H Q) := fun pins s σ H o i v ov iv u Q I ro ri rv q => q.elim (h pins s σ H o i v ov iv u Q I ro ri rv) (h' pins s σ H o i v ov iv u Q I ro ri rv)
section
variable {X : Cx} {B : Nat → Bool} {pos : Pos}
theorem ag_sub {o i : Expr} {fo fi : AE'} {k : Nat} (hr : Room k X.A) (ho : AE X o fo) (hi : AE X i fi)
    (ha : ∀ v, assign (.Subscript o i pos) X.env v = (do
      let ov ← holding [v] (eval o X.env)
      let iv ← holding [v, ov] (eval i X.env)
      standAt pos
      holding [v, ov, iv] (setItem ov iv v)
      release [v, ov, iv] []) := by intro _; rfl) : AG X B (.Subscript o i pos) (agSub fo fi) := by
  obtain ⟨t1, p1, s1⟩ := ho
  obtain ⟨t2, p2, s2⟩ := hi
  refine ⟨_, pg_sub p1 p2 (PSet.or set_list (set_dict (by have := hr.un; omega))) ha, fun Y H σ env v d N Q rep rd q k => ?_⟩
  refine s1 Y H σ env _ _ rep q fun ov H1 env1 r1 Y1 rep1 g1 ok1 q1 => ?_
  refine s2 Y1 H1 σ env1 _ _ rep1 q1 fun iv H2 env2 r2 Y2 rep2 g2 ok2 q2 => ?_
  obtain ⟨ky, e2, c2⟩ := ok2.rc rep2
  have gg := g1.trans g2
  have repY := rep2.less gg.yu
  simp only [e2] at q2
  match r1, ok1, q2 with
  | .at j, ok1, q2 =>
    refine set_at_ok (B := B) repY ok1.2.1 (c2.less (pw_less gg.yu)) (gg.drop.rd rd) q2 fun H' env' rep' g' q' => k H' σ env' rep' (gg.drop.toS.trans rep g') q'
/-- target = value, the value as data -/
def aAsg (a : AE') (g : AG') : AS' := fun A env => aFrz a env fun r env1 => match r with
  | .dat d => g d env1 A.nx
  | _ => False
theorem as_asg {tg e : Expr} {a : AE'} {g : AG'} (he : AE X e a) (hg : AG X B tg g) (hs : swapsWithSole [tg] e pos.line X.env = pure false := by rfl) (hw : swappedStores [tg] e X.env = pure none := by rfl)
    (h1 : (assignEach [tg] X.env).map (·.2) = [assign tg X.env] := by rfl) : AS X B (.Assign [tg] e pos) (aAsg a g) := by
  obtain ⟨t1, p1, s1⟩ := he.frz
  obtain ⟨t2, p2, s2⟩ := hg
  refine ⟨_, ps_asg p1 p2 hs hw h1, fun Y H σ env D A rep q k => ?_⟩
  refine s1 Y H σ env _ _ rep q fun v H1 env1 r1 Y1 rep1 g1 ok1 q1 => ?_
  match r1, ok1, q1 with
  | .dat d, ok1, q1 =>
    obtain ⟨ey, rd⟩ := ok1
    subst ey
    exact s2 Y1 H1 σ env1 v d _ _ rep1 rd q1 fun H2 σ2 env2 rep2 g2 q2 => k.nx H2 σ2 env2 rep2 (g1.toS.trans rep g2) q2
end
end AL
namespace AL
open PySem L2
/-! AL9: what a for walks, for, comprehensions. -/
/-- a walk yields these items as long as what stayed data stays data -/
def WalkOk (K : Fg) (J : It) (H : Hp) (P : Ad) (items : List D) : Prop := ∀ (P0 P2 : Ad) (H2 : Hp), (∀ a, P0 a → P a) → Go P0 P P2 H H2 → (∀ a, P2 a → ∃ o, H2 a = some o ∧ Mut (some o)) →
  (∀ i, i < items.length → J.go i H2 ∧ ∀ x H3, J.yld i H2 x H3 → Same H2 H3 ∧ ∃ d, items[i]? = some d ∧ RD K H3 P2 x d) ∧ J.stop items.length H2
abbrev AI' := AEnv → (List D → AEnv → Prop) → Prop
def SndI (K : Fg) (wi : TI) (a : AI') : Prop := ∀ (Y : Ad) (H : Hp) (σ : L2.St) (env : AEnv) (R : List D → AEnv → Prop) (Q : It → Hp → Prop), Rep K Y H σ env → a env R →
  (∀ J H' env' items, Rep K Y H' σ env' → Adv σ Y env H Y env' H' → WalkOk K J H' (Pw Y σ env') items → R items env' → Q J H') → wi σ H Q
def AI (X : Cx) (tg e : Expr) (a : AI') : Prop := ∃ t, PI X tg e t ∧ SndI X.K t a
theorem PI.or {X : Cx} {tg e : Expr} {w w' : TI} (h : PI X tg e w) (h' : PI X tg e w') : PI X tg e (fun σ H R => w σ H R ∨ w' σ H R) := ⟨fun pins s σ H R I q => q.elim (h.run pins s σ H R I) (h'.run pins s σ H R I)⟩
/-- an expression's dict locked behind its evaluation -/
theorem pe_lockv {X : Cx} {e : Expr} {t : TE} (h : PE X e t) : PE X e (fun σ H Q => t σ H fun x H1 => (∃ o kvs d, x = .ref d ∧ H1 d = some (.frz o (.dK kvs)) ∧ Q x H1) ∨ ∃ d kvs, x = .ref d ∧ H1 d = some (.dK kvs) ∧ ∀ od, Q x (upd H1 d (.frz od (.dK kvs)))) := by
  refine ⟨fun pins s σ H Q I q => ?_⟩
  refine thn (h.run pins s σ H _ I q) fun v s1 ⟨x, H1, I1, r1, q1⟩ => ?_
  rcases q1 with ⟨o, kvs, d, e1, _, q1⟩ | ⟨d, kvs, e1, hd, q1⟩
  · exact ⟨x, H1, I1, r1, q1⟩
  · obtain ⟨od, I2⟩ := I1.lock hd trivial
    exact ⟨x, _, I2, r1, q1 od⟩
def itemsR (d : D) (R : List D → Prop) : Prop := match d with
  | .lst l => l.length ≤ sizeLine → R l
  | .tup l => l.length ≤ sizeLine → R l
  | .str z => z.cps.toList.length ≤ sizeLine ∧ R (z.cps.toList.map fun c => D.str ⟨#[c]⟩)
  | .dic ks _ => ks.length ≤ sizeLine ∧ R ks
  | _ => False
/-- over a list, a tuple, a text, a dict's keys -/
def aiSeq (a : AE') : AI' := fun env R => aFrz a env fun r env1 => match r with
  | .dat d => itemsR d fun l => R l env1
  | _ => False
section
variable {K : Fg} {H : Hp} {P : Ad}
theorem walk_lst {a : Addr} {us : List V} {ds : List D} (h : SL H P a us) (r : RDs K H P us ds) : WalkOk K (Itl K a) H P ds := by
  intro P0 P2 H2 s g _
  have h2 := g.sl s h
  have r2 := g.rds s r
  refine ⟨fun i hi => ?_, us, h2.sq, by rw [r.length]; exact Nat.le_refl _⟩
  have e : ds[i]? = some ds[i] := by simp [hi]
  obtain ⟨v, hv, rv⟩ := r2.get e
  refine ⟨⟨us, v, h2.sq, hv⟩, fun x H3 y => ?_⟩
  obtain ⟨e3, y⟩ := y
  subst e3
  have hx := y us h2.sq
  rw [hv] at hx; cases hx
  exact ⟨Same.refl _, _, e, rv⟩
theorem walk_tup {a : Addr} {us : List V} {ds : List D} (h : ST K H P a us) (r : RDs K H P us ds) : WalkOk K (Itt K a) H P ds := by
  intro P0 P2 H2 s g _
  have h2 := g.st s h
  have r2 := g.rds s r
  refine ⟨fun i hi => ?_, us, h2.sq, by rw [r.length]; exact Nat.le_refl _⟩
  have e : ds[i]? = some ds[i] := by simp [hi]
  obtain ⟨v, hv, rv⟩ := r2.get e
  refine ⟨⟨us, v, h2.sq, hv⟩, fun x H3 y => ?_⟩
  obtain ⟨e3, y⟩ := y
  subst e3
  have hx := y us h2.sq
  rw [hv] at hx; cases hx
  exact ⟨Same.refl _, _, e, rv⟩
theorem walk_str (z : Str) : WalkOk K (Its z) H P (z.cps.toList.map fun c => D.str ⟨#[c]⟩) := by
  intro P0 P2 H2 s g _
  refine ⟨fun i hi => ?_, by show z.cps.size ≤ _; simp⟩
  have hi' : i < z.cps.size := by simpa using hi
  refine ⟨hi', fun x H3 y => ?_⟩
  obtain ⟨e3, c, hc, rfl⟩ := y
  subst e3
  refine ⟨Same.refl _, .str ⟨#[c]⟩, ?_, .str _⟩
  rw [List.getElem?_map, Array.getElem?_toList, hc]
  rfl
theorem walk_keys {d : Addr} {od : Obj} {kvs : List (Key × V)} (h : H d = some (.frz od (.dK kvs))) (n : ¬ P d) : WalkOk K (Itk d od kvs) H P (kvs.map fun kv => kD kv.1) := by
  intro P0 P2 H2 s g _
  have h2 := (g.at s h n rfl).1
  refine ⟨fun i hi => ?_, h2, by rw [List.length_map]; exact Nat.le_refl _⟩
  have hi' : i < kvs.length := by simpa using hi
  refine ⟨⟨h2, hi'⟩, fun x H3 y => ?_⟩
  obtain ⟨e3, k, v, hk, e⟩ := y
  subst e3
  refine ⟨Same.refl _, kD k, by rw [List.getElem?_map, hk]; rfl, ?_⟩
  subst e
  cases k with
  | inl i => exact .int i
  | inr z => exact .str z
end
/-- a dict that is data is locked -/
theorem Rep.lock {K : Fg} {Y : Ad} {H : Hp} {σ : L2.St} {env : AEnv} {d : Addr} {kvs : List (Key × V)} {od : Obj} (R : Rep K Y H σ env) (h : H d = some (.dK kvs)) (n : ¬ Pw Y σ env d) :
    Rep K Y (upd H d (.frz od (.dK kvs))) σ env ∧ Adv σ Y env H Y env (upd H d (.frz od (.dK kvs))) := by
  have kp : ∀ a u, H a = some u → KeepO u (upd H d (.frz od (.dK kvs))) a := fun a u q => by
    by_cases e : a = d
    · subst e
      rw [h] at q; cases q
      exact .inr ⟨od, rfl, upd_same⟩
    · exact .inl (by rw [upd_ne e]; exact q)
  have g : Go (fun _ => False) (Pw Y σ env) (Pw Y σ env) H (upd H d (.frz od (.dK kvs))) := ⟨fun a u q _ => kp a u q, fun a z => .inl z⟩
  refine ⟨⟨R.len, fun i e q => ?_, fun i e q => ?_, fun a z => ?_, R.inj, R.ony⟩, ⟨fun a u q _ => kp a u q, fun a z => ?_, fun _ z => z, fun _ z => .inl z, fun i => Sh.refl _, fun _ z => .inl z, fun a u q => (kp a u q).some⟩⟩
  · obtain ⟨v, w, r⟩ := R.dat i e q
    exact ⟨v, w, r.go g fun _ z => z.elim⟩
  · obtain ⟨p, w, np, r⟩ := R.own i e q
    exact ⟨p, w, np, RO.go g (fun _ z => z.elim) (upd_ne fun e' => n (by subst e'; exact .inr ⟨i, e, q, .inl w⟩)) (fun q' m => upd_ne fun e' => n (by subst e'; exact .inr ⟨i, e, q, .inr m⟩)) r⟩
  · obtain ⟨u, q, m⟩ := R.yim a z
    exact ⟨u, (upd_ne fun e' => n (by subst e'; exact .inl z)).trans q, m⟩
  · exact upd_ne fun e' => n (by subst e'; exact .inl z)
/-- one with tuples as keys -/
theorem Rep.lockT {K : Fg} {Y : Ad} {H : Hp} {σ : L2.St} {env : AEnv} {d : Addr} {kvs : List (List Key × V)} {od : Obj} (R : Rep K Y H σ env) (h : H d = some (.dT kvs)) (n : ¬ Pw Y σ env d) :
    Rep K Y (upd H d (.frz od (.dT kvs))) σ env ∧ Adv σ Y env H Y env (upd H d (.frz od (.dT kvs))) := by
  have kp : ∀ a u, H a = some u → KeepO u (upd H d (.frz od (.dT kvs))) a := fun a u q => by
    by_cases e : a = d
    · subst e
      rw [h] at q; cases q
      exact .inr ⟨od, rfl, upd_same⟩
    · exact .inl (by rw [upd_ne e]; exact q)
  have g : Go (fun _ => False) (Pw Y σ env) (Pw Y σ env) H (upd H d (.frz od (.dT kvs))) := ⟨fun a u q _ => kp a u q, fun a z => .inl z⟩
  refine ⟨⟨R.len, fun i e q => ?_, fun i e q => ?_, fun a z => ?_, R.inj, R.ony⟩, ⟨fun a u q _ => kp a u q, fun a z => ?_, fun _ z => z, fun _ z => .inl z, fun i => Sh.refl _, fun _ z => .inl z, fun a u q => (kp a u q).some⟩⟩
  · obtain ⟨v, w, r⟩ := R.dat i e q
    exact ⟨v, w, r.go g fun _ z => z.elim⟩
  · obtain ⟨p, w, np, r⟩ := R.own i e q
    exact ⟨p, w, np, RO.go g (fun _ z => z.elim) (upd_ne fun e' => n (by subst e'; exact .inr ⟨i, e, q, .inl w⟩)) (fun q' m => upd_ne fun e' => n (by subst e'; exact .inr ⟨i, e, q, .inr m⟩)) r⟩
  · obtain ⟨u, q, m⟩ := R.yim a z
    exact ⟨u, (upd_ne fun e' => n (by subst e'; exact .inl z)).trans q, m⟩
  · exact upd_ne fun e' => n (by subst e'; exact .inl z)
theorem RDs.keysOf {K : Fg} {H : Hp} {P : Ad} : ∀ ks : List Key, RDs K H P (ks.map kV) (ks.map kD)
  | [] => .nil
  | .inl i :: ks => .cons (.int i) (RDs.keysOf ks)
  | .inr x :: ks => .cons (.str x) (RDs.keysOf ks)
theorem walk_keysT {K : Fg} {H : Hp} {P : Ad} {d : Addr} {od : Obj} {kvs : List (List Key × V)} (h : H d = some (.frz od (.dT kvs))) (n : ¬ P d) (sz : ∀ kv ∈ kvs, kv.1.length ≤ sizeLine) : WalkOk K (Itkt d od kvs) H P (kvs.map fun kv => D.dit (kv.1.map kD) (.non :: kv.1.map kD)) := by
  intro P0 P2 H2 s g yi
  have h2 := (g.at s h n rfl).1
  refine ⟨fun i hi => ?_, h2, by rw [List.length_map]; exact Nat.le_refl _⟩
  have hi' : i < kvs.length := by simpa using hi
  refine ⟨⟨h2, hi'⟩, fun x H3 y => ?_⟩
  obtain ⟨e3, k, v, q, hk, e, hq⟩ := y
  subst e3
  refine ⟨Same.refl _, D.dit (k.map kD) (.non :: k.map kD), by rw [List.getElem?_map, hk]; rfl, ?_⟩
  subst e
  refine .hup hq (fun z => ?_) (by rw [List.length_map]; exact sz _ (List.mem_of_getElem? hk)) (RDs.keysOf k)
  obtain ⟨o, w, m⟩ := yi q z
  rw [hq] at w
  cases w
  exact m
section
variable {X : Cx} {tg e : Expr}
/-- a value that comes is walked: a list, a tuple, a text, a locked dict -/
inductive Seq4 (X : Cx) (H : Hp) : V → It → Prop
  | lst {a : Addr} {us : List V} : SqL X.K H a us → Seq4 X H (.ref a) (Itl X.K a)
  | tup {a : Addr} {us : List V} : SqT X.K H a us → Seq4 X H (.ref a) (Itt X.K a)
  | str (z : Str) : Seq4 X H (.str z) (Its z)
  | dic {a : Addr} {o : Obj} {kvs : List (Key × V)} : H a = some (.frz o (.dK kvs)) → Seq4 X H (.ref a) (Itk a o kvs)
theorem seq4_iter {pins : List (Addr × Obj)} {s : Shared} {σ : L2.St} {H : Hp} {v : V} {u : Value} {J : It} {R : It → Hp → Prop} {E : Value → Shared → Prop} (I : Inv X pins σ H s) (r : RelV v u) (q : Seq4 X H v J) (k : R J H) :
    wpAny (model X.prog X.w) X.A (pyIter u) (PIE X pins σ tg R) E s := by
  cases q with
  | lst h =>
    cases r
    obtain ⟨its, rv, pl, _⟩ := I.list h
    exact wpAny_pyIter_list pl.isList (pi_one I _ (turn_list _ _) ⟨_, Heap.get?_push_size _ rfl, rfl, rfl⟩ k)
  | tup h =>
    cases r
    obtain ⟨its, rv, pl, _⟩ := I.tuple h
    exact wpAny_pyIter_tuple (show s.heap.IsTuple _ its.toArray from pl) (pi_one I _ (turn_tuple _ _) ⟨_, Heap.get?_push_size _ rfl, rfl, rfl⟩ k)
  | str z =>
    obtain ⟨t, rfl⟩ := r
    by_cases asc : z.cps.all (· < 128) = true
    · exact wpAny_pyIter_ascii asc (pi_one I _ (turn_str _ z t _ (.inl rfl)) ⟨_, Heap.get?_push_size _ rfl, rfl, rfl⟩ k)
    · exact wpAny_pyIter_wide (by simpa using asc) (pi_one I _ (turn_str _ z t _ (.inr rfl)) ⟨_, Heap.get?_push_size _ rfl, rfl, rfl⟩ k)
  | dic h =>
    cases r
    obtain ⟨f1, f2, f3, es, ep, vs, f4, f5, f6, f7⟩ := I.frzK h
    refine iter_keys f1 f2 f3 f4 (pi_one I _ (turn_keys _ f4) ⟨_, Heap.get?_push_size _ rfl, rfl, ?_⟩ k)
    rw [f5] <;> rfl
def iSeq4 (X : Cx) (te : TE) : TI := fun σ H R => te σ H fun v H1 => ∃ J H2, ((H2 = H1 ∧ Seq4 X H1 v J ∧ R J H1) ∨ ∃ d kvs, v = .ref d ∧ H1 d = some (.dK kvs) ∧ ∀ od, R (Itk d od kvs) (upd H1 d (.frz od (.dK kvs))))
theorem pi_seq4 {te : TE} (h : PE X e te) : PI X tg e (iSeq4 X te) := by
  refine ⟨fun pins s σ H R I q => ?_⟩
  refine thn (h.run pins s σ H _ I q) fun v s1 ⟨x, H1, I1, r1, J, H2, q1⟩ => ?_
  rcases q1 with ⟨_, sq, k⟩ | ⟨d, kvs, e1, hd, k⟩
  · exact seq4_iter I1 r1 sq k
  · subst e1
    obtain ⟨od, I2⟩ := I1.lock hd trivial
    exact seq4_iter I2 r1 (.dic upd_same) (k od)
theorem ai_seq {a : AE'} (h : AE X e a) : AI X tg e (aiSeq a) := by
  obtain ⟨t, p, s⟩ := h.frz
  refine ⟨_, pi_seq4 p, fun Y H σ env R Q rep q k => ?_⟩
  refine s Y H σ env _ _ rep q fun v H1 env1 r1 Y1 rep1 g1 ok1 q1 => ?_
  match r1, ok1, q1 with
  | .dat d, ok1, q1 =>
    obtain ⟨ey, rd⟩ := ok1
    subst ey
    match d, rd, q1 with
    | .lst l, rd, q1 =>
      cases rd with
      | lst sl r => exact ⟨_, H1, .inl ⟨rfl, .lst sl.sq, k _ H1 env1 l rep1 g1 (walk_lst sl r) (q1 (by rw [← r.length]; exact sl.2.2))⟩⟩
    | .tup l, rd, q1 =>
      cases rd with
      | tup sl r => exact ⟨_, H1, .inl ⟨rfl, .tup sl.sq, k _ H1 env1 l rep1 g1 (walk_tup sl r) (q1 (by rw [← r.length]; exact sl.len))⟩⟩
    | .str z, rd, q1 =>
      cases rd
      exact ⟨_, H1, .inl ⟨rfl, .str z, k _ H1 env1 _ rep1 g1 (walk_str z) q1.2⟩⟩
    | .dic ks vs, rd, q1 =>
      cases rd with
      | dK hr n e1 r =>
        subst e1
        rcases hr with hr | ⟨o, hr⟩
        · refine ⟨Its ⟨#[]⟩, H1, .inr ⟨_, _, rfl, hr, fun od => ?_⟩⟩
          obtain ⟨rep2, g2⟩ := rep1.lock (od := od) hr n
          exact k _ _ env1 _ rep2 (g1.trans g2) (walk_keys upd_same n) q1.2
        · exact ⟨_, H1, .inl ⟨rfl, .dic hr, k _ H1 env1 _ rep1 g1 (walk_keys hr n) q1.2⟩⟩
end

/-! ### ranges -/
def rangeD (lo : Int) (n : Nat) : List D := (List.range n).map fun (i : Nat) => D.int (lo + (i : Int))
theorem walk_range {K : Fg} {H : Hp} {P : Ad} (lo : Int) (n : Nat) : WalkOk K (Itr lo n) H P (rangeD lo n) := by
  intro P0 P2 H2 s g _
  refine ⟨fun i hi => ?_, by show n ≤ _; simp [rangeD]⟩
  have hi' : i < n := by simpa [rangeD] using hi
  refine ⟨hi', fun x H3 y => ?_⟩
  obtain ⟨e3, rfl⟩ := y
  subst e3
  exact ⟨Same.refl _, .int (lo + i), by simp [rangeD, hi'], .int _⟩
def small62 (j : Int) : Prop := -(2 ^ 62) ≤ j ∧ j < 2 ^ 62
def aiRange1 (t : AA') : AI' := fun env R => t env fun rs env1 => match rs with
  | [.dat (.int j)] => small62 j ∧ R (rangeD 0 j.toNat) env1
  | _ => False
def aiRange2 (t : AA') : AI' := fun env R => t env fun rs env1 => match rs with
  | [.dat (.int i), .dat (.int j)] => small62 i ∧ small62 j ∧ R (rangeD i (j - i).toNat) env1
  | _ => False
section
variable {X : Cx} {tg : Expr}
theorem ai_range1 {a : Expr} {t : AA'} {p pos : Pos} (hg : Gl X "range") (hm : X.mg "range" = none) (ha : AA X [a] t) (hs : starEach [a] X.env = [(false, eval a X.env)] := by rfl) : AI X tg (.Call (.Name "range" p) [a] [] pos) (aiRange1 t) := by
  obtain ⟨u, pa, s⟩ := ha
  refine ⟨_, pi_range1 hg hm pa hs, fun Y H σ env R Q rep q k => ?_⟩
  refine s Y H σ env _ _ rep q fun vs H1 env1 rs rep1 g1 ok q1 => ?_
  match rs, ok, q1 with
  | [.dat (.int j)], .cons h .nil, q1 =>
    obtain ⟨_, rd⟩ := h
    cases rd
    exact ⟨j, rfl, q1.1.1, q1.1.2, k _ H1 env1 _ rep1 g1 (walk_range 0 _) q1.2⟩
theorem ai_range2 {a b : Expr} {t : AA'} {p pos : Pos} (hg : Gl X "range") (hm : X.mg "range" = none) (ha : AA X [a, b] t) (hs : starEach [a, b] X.env = [(false, eval a X.env), (false, eval b X.env)] := by rfl) (hs2 : starEach [b] X.env = [(false, eval b X.env)] := by rfl) : AI X tg (.Call (.Name "range" p) [a, b] [] pos) (aiRange2 t) := by
  obtain ⟨u, pa, s⟩ := ha
  refine ⟨_, pi_range2 hg hm pa hs hs2, fun Y H σ env R Q rep q k => ?_⟩
  refine s Y H σ env _ _ rep q fun vs H1 env1 rs rep1 g1 ok q1 => ?_
  match rs, ok, q1 with
  | [.dat (.int i), .dat (.int j)], .cons h (.cons h2 .nil), q1 =>
    obtain ⟨_, rd⟩ := h
    obtain ⟨_, rd2⟩ := h2
    cases rd
    cases rd2
    exact ⟨i, j, rfl, ⟨q1.1.1, q1.1.2, q1.2.1.1, q1.2.1.2⟩, k _ H1 env1 _ rep1 g1 (walk_range i _) q1.2.2⟩
end

/-! ### for -/
def forL (g : AG') (b : AS') (A : AEnds) : List D → AEnv → Prop
  | [], env => A.nx env
  | d :: ds, env => g d env fun env1 => b { nx := forL g b A ds, ct := forL g b A ds, bk := A.nx, rt := A.rt } env1
def aFor (ai : AI') (g : AG') (b : AS') : AS' := fun A env => ai env fun items env1 => forL g b A items env1
theorem as_for {X : Cx} {B : Nat → Bool} {tg iter : Expr} {body : List Stmt} {ai : AI'} {g : AG'} {b : AS'} {pos : Pos} (hp : PassesOwn (model X.prog X.w) X.A X.env X.xe) (hc : X.calm = true) (hi : AI X tg iter ai) (hg : AG X B tg g) (hb : ASs X B body b)
    (hs : ∀ x, foldedSetIterable iter X.env x = pure x := by intro _; rfl) : AS X B (.For tg iter body [] pos) (aFor ai g b) := by
  obtain ⟨wi, pI, sI⟩ := hi
  obtain ⟨tg', pG, sG⟩ := hg
  obtain ⟨tb, pB, sB⟩ := hb
  refine ⟨_, ps_for hp hc pI pG pB hs, fun Y H0 σ0 env0 D A rep0 q k => ?_⟩
  refine sI Y H0 σ0 env0 _ _ rep0 q fun J H1 env1 items rep1 g1 walk q1 => ?_
  -- the base of the loop: (σ0, env1, H1)
  have kb := k.after rep0 g1.toS
  refine ⟨fun i m σ H => ∃ env, m = items.length - i ∧ i ≤ items.length ∧ Rep X.K Y H σ env ∧ AdvS B σ0 Y env1 H1 Y σ env H ∧ forL g b A (items.drop i) env, ⟨_, env1, rfl, Nat.zero_le _, rep1, AdvS.refl, q1⟩, ?_⟩
  rintro i m σ H ⟨env, rfl, hi, rep, adv, q⟩
  have wk := walk (Own σ0 env1) (Pw Y σ env) H (fun a z => .inr z) (adv.go rep1) fun a z => by
    rcases z with z | ⟨j, d, e, w⟩
    · exact rep.yim a z
    · exact (rep.ownY e w).2
  by_cases hlt : i < items.length
  · obtain ⟨hgo, hy⟩ := wk.1 i hlt
    refine .inr ⟨hgo, fun σ' H' => ∃ env', Rep X.K Y H' σ' env' ∧ AdvS B σ0 Y env1 H1 Y σ' env' H' ∧ forL g b A (items.drop (i + 1)) env', fun σ' H' ⟨env', r', a', q'⟩ => ⟨_, by omega, env', rfl, hlt, r', a', q'⟩, fun x H3 y => ?_⟩
    obtain ⟨same, d, hd, rd⟩ := hy x H3 y
    have e : items.drop i = d :: items.drop (i + 1) := by
      rw [List.drop_eq_getElem_cons hlt]
      rw [List.getElem?_eq_getElem hlt] at hd
      rw [Option.some.inj hd]
    rw [e] at q
    have rep3 : Rep X.K Y H3 σ env := rep.same same
    have adv3 : AdvS B σ0 Y env1 H1 Y σ env H3 := adv.trans rep1 (Adv.same rep same).toS
    refine sG Y H3 σ env x d _ _ rep3 rd q fun H4 σ4 env4 rep4 g4 q4 => ?_
    have adv4 := adv3.trans rep1 g4
    refine sB Y H4 σ4 env4 _ _ rep4 q4 ⟨fun H5 σ5 env5 r5 a5 q5 => ⟨env5, r5, adv4.trans rep1 a5, q5⟩, fun v H5 σ5 env5 r Y5 r5 a5 ok5 q5 => kb.rt v H5 σ5 env5 r Y5 r5 (adv4.trans rep1 a5) ok5 q5,
      fun H5 σ5 env5 r5 a5 q5 => kb.nx H5 σ5 env5 r5 (adv4.trans rep1 a5) q5, fun H5 σ5 env5 r5 a5 q5 => ⟨env5, r5, adv4.trans rep1 a5, q5⟩⟩
  · have e : i = items.length := by omega
    subst e
    rw [List.drop_length] at q
    exact .inl ⟨wk.2, kb.nx H σ env rep adv q⟩
end AL
namespace AL
open PySem L2
/-! AL10: comprehensions. -/
def wipeE (env : AEnv) : List Nat → AEnv
  | [] => env
  | v :: vs => (wipeE env vs).set v .un
theorem wipeE_len (env : AEnv) : ∀ vs : List Nat, (wipeE env vs).length = env.length
  | [] => rfl
  | v :: vs => by unfold wipeE; rw [List.length_set, wipeE_len env vs]
theorem wipeE_out {env : AEnv} {i : Nat} : ∀ {vs : List Nat}, i ∉ vs → (wipeE env vs)[i]? = env[i]?
  | [], _ => rfl
  | v :: vs, h => by
    unfold wipeE
    rw [List.getElem?_set_ne (fun e => h (by simp [e])), wipeE_out (fun z => h (by simp [z]))]
theorem wipeE_in {env : AEnv} {i : Nat} : ∀ {vs : List Nat} {a : AV}, i ∈ vs → (wipeE env vs)[i]? = some a → a = .un
  | v :: vs, a, h, e => by
    unfold wipeE at e
    by_cases z : v = i
    · subst z
      by_cases hl : v < (wipeE env vs).length
      · rw [List.getElem?_set_self hl] at e
        exact (Option.some.inj e).symm
      · rw [List.getElem?_eq_none (by rw [List.length_set]; omega)] at e; cases e
    · rw [List.getElem?_set_ne z] at e
      exact wipeE_in (by rcases List.mem_cons.mp h with y | y; exact absurd y.symm z; exact y) e
theorem wipe_out {σ : L2.St} {i : Nat} : ∀ {vs : List Nat}, i ∉ vs → (wipe σ vs)[i]? = σ[i]?
  | [], _ => rfl
  | v :: vs, h => by
    unfold wipe
    rw [List.getElem?_set_ne (fun e => h (by simp [e])), wipe_out (fun z => h (by simp [z]))]
theorem wipe_in {σ : L2.St} {i : Nat} : ∀ {vs : List Nat}, i ∈ vs → (wipe σ vs)[i]? = if i < σ.length then some none else none
  | v :: vs, h => by
    unfold wipe
    by_cases z : v = i
    · subst z
      by_cases hl : v < σ.length
      · rw [if_pos hl, List.getElem?_set_self (by rw [wipe_length]; exact hl)]
      · rw [if_neg hl, List.getElem?_eq_none (by rw [List.length_set, wipe_length]; omega)]
    · rw [List.getElem?_set_ne z]
      exact wipe_in (by rcases List.mem_cons.mp h with y | y; exact absurd y.symm z; exact y)
theorem wipe_eq {σ σ2 : L2.St} {vs : List Nat} (hl : σ2.length = σ.length) (h : ∀ i, i ∉ vs → σ2[i]? = σ[i]?) : wipe σ2 vs = wipe σ vs := by
  apply List.ext_getElem?
  intro i
  by_cases m : i ∈ vs
  · rw [wipe_in m, wipe_in m, hl]
  · rw [wipe_out m, wipe_out m, h i m]
theorem wipe_wipe (σ : L2.St) (vs : List Nat) : wipe (wipe σ vs) vs = wipe σ vs := wipe_eq (wipe_length σ vs) fun i h => wipe_out h
def noOwn (env : AEnv) (vs : List Nat) : Prop := ∀ v ∈ vs, ∀ d, env[v]? ≠ some (.own d)
/-- a target that stores at these slots alone -/
def GLoc (vs : List Nat) (g : AG') : Prop := ∀ d env N, noOwn env vs → g d env N → g d env (fun env' => N env' ∧ (∀ i, i ∉ vs → env'[i]? = env[i]?) ∧ noOwn env' vs)
def GLocs (vs : List Nat) (g : AGs') : Prop := ∀ d env N, noOwn env vs → g d env N → g d env (fun env' => N env' ∧ (∀ i, i ∉ vs → env'[i]? = env[i]?) ∧ noOwn env' vs)
theorem gloc_name {vs : List Nat} {j : Nat} (h : j ∈ vs := by decide) : GLoc vs (agName j) := fun d env N no q => ⟨q, fun i hi => List.getElem?_set_ne (fun (e : j = i) => hi (by rw [← e]; exact h)), fun v hv d' => by
  by_cases e : j = v
  · subst e
    by_cases hl : j < env.length
    · rw [List.getElem?_set_self hl]
      intro z; cases z
    · rw [List.getElem?_eq_none (by rw [List.length_set]; omega)]
      intro z; cases z
  · rw [List.getElem?_set_ne e]
    exact no v hv d'⟩
theorem gloc_nil {vs : List Nat} : GLocs vs agNil := fun d env N no q => ⟨q.1, q.2, fun _ _ => rfl, no⟩
theorem AGmono {X : Cx} {B : Nat → Bool} {tg : Expr} {a : AG'} (h : AG X B tg a) : True := trivial
/-- targets are monotone -/
def GMono (g : AG') : Prop := ∀ d env (N N' : AEnv → Prop), (∀ e, N e → N' e) → g d env N → g d env N'
def GMonos (g : AGs') : Prop := ∀ d env (N N' : AEnv → Prop), (∀ e, N e → N' e) → g d env N → g d env N'
theorem gmono_name (j : Nat) : GMono (agName j) := fun d env N N' h q => h _ q
theorem gmono_nil : GMonos agNil := fun d env N N' h q => ⟨q.1, h _ q.2⟩
theorem gmono_cons {a : AG'} {b : AGs'} (ha : GMono a) (hb : GMonos b) : GMonos (agCons a b) := fun d env N N' h q => by
  match d, q with
  | d :: r, q => exact ha d env _ _ (fun e q' => hb r e _ _ h q') q
theorem gmono_tup {n : Nat} {a : AGs'} (ha : GMonos a) : GMono (agTup n a) := fun d env N N' h q => by
  match d, q with
  | .tup ds, q => exact ⟨q.1, ha ds env _ _ h q.2⟩
  | .lst ds, q => exact ⟨q.1, ha ds env _ _ h q.2⟩
theorem gloc_cons {vs : List Nat} {a : AG'} {b : AGs'} (ha : GLoc vs a) (hb : GLocs vs b) (ma : GMono a) (mb : GMonos b) : GLocs vs (agCons a b) := fun d env N no q => by
  match d, q with
  | d :: r, q =>
    refine ma d env _ _ (fun e q' => ?_) (ha d env _ no q)
    exact mb r e _ _ (fun e2 q2 => ⟨q2.1, fun i hi => (q2.2.1 i hi).trans (q'.2.1 i hi), q2.2.2⟩) (hb r e _ q'.2.2 q'.1)
theorem gloc_tup {vs : List Nat} {n : Nat} {a : AGs'} (h : GLocs vs a) : GLoc vs (agTup n a) := fun d env N no q => by
  match d, q with
  | .tup ds, q => exact ⟨q.1, h ds env N no q.2⟩
  | .lst ds, q => exact ⟨q.1, h ds env N no q.2⟩
/-! ### tests of a clause -/
def atYes : AT' := fun env R => R true env
def ATs (X : Cx) (ifs : List Expr) (a : AT') : Prop := ∃ t, PTs X ifs t ∧ SndT X.K t a
theorem ats_nil {X : Cx} : ATs X [] atYes := ⟨_, pts_nil, fun Y H σ env R Q rep q k => k true H env rep Adv.refl q⟩
theorem ats_one {X : Cx} {c : Expr} {t : AT'} (h : AT X c t) : ATs X [c] t := let ⟨u, p, s⟩ := h; ⟨u, pts_one p, s⟩
/-! ### the reading -/
def lcL (g : AG') (t : AT') (e : AE') (vs : List Nat) : List D → (List D → AEnv → Prop) → AEnv → Prop
  | [], R, env => R [] env
  | d :: ds, R, env => g d env fun env1 => t env1 fun b env2 => brP b (aFrz e env2 (fun r env3 => match r with
      | .dat z => lcL g t e vs ds (fun zs env4 => R (z :: zs) env4) (wipeE env3 vs)
      | _ => False)) (lcL g t e vs ds R (wipeE env2 vs))
/-- the block's names stand as they stood ahead -/
def restoreE (env1 : AEnv) (env : AEnv) : List Nat → AEnv
  | [] => env
  | v :: vs => match env1[v]? with
    | some a => (restoreE env1 env vs).set v a
    | none => restoreE env1 env vs
def aLc (ai : AI') (g : AG') (t : AT') (e : AE') (vs : List Nat) : AE' := fun env R => ai env fun items env1 => noOwn env1 vs ∧ items.length ≤ sizeLine ∧ lcL g t e vs items (fun zs env2 => R (.new (.lst zs)) (restoreE env1 env2 vs)) (wipeE env1 vs)
theorem restoreE_len (env1 env : AEnv) : ∀ vs : List Nat, (restoreE env1 env vs).length = env.length
  | [] => rfl
  | v :: vs => by
    unfold restoreE
    split
    · rw [List.length_set, restoreE_len env1 env vs]
    · exact restoreE_len env1 env vs
theorem restoreE_out {env1 env : AEnv} {i : Nat} : ∀ {vs : List Nat}, i ∉ vs → (restoreE env1 env vs)[i]? = env[i]?
  | [], _ => rfl
  | v :: vs, h => by
    have hv : v ≠ i := fun e => h (by simp [e])
    have hi : i ∉ vs := fun z => h (by simp [z])
    unfold restoreE
    split
    · rw [List.getElem?_set_ne hv, restoreE_out hi]
    · exact restoreE_out hi
theorem restoreE_in {env1 env : AEnv} (hl : env.length = env1.length) {i : Nat} : ∀ {vs : List Nat}, i ∈ vs → (restoreE env1 env vs)[i]? = env1[i]?
  | v :: vs, h => by
    unfold restoreE
    by_cases z : v = i
    · subst z
      cases w : env1[v]? with
      | none =>
        simp only
        have : env1.length ≤ v := List.getElem?_eq_none_iff.mp w
        exact List.getElem?_eq_none (by rw [restoreE_len]; omega)
      | some a =>
        simp only
        have : v < env1.length := (List.getElem?_eq_some_iff.mp w).1
        rw [List.getElem?_set_self (by rw [restoreE_len]; omega)]
    · have hi : i ∈ vs := by
        rcases List.mem_cons.mp h with y | y
        · exact absurd y.symm z
        · exact y
      cases w : env1[v]? with
      | none => exact restoreE_in hl hi
      | some a =>
        simp only
        rw [List.getElem?_set_ne z]
        exact restoreE_in hl hi
section
variable {K : Fg} {B : Nat → Bool} {σ σ2 : L2.St} {Y : Ad} {env : AEnv} {H : Hp} {vs : List Nat}
theorem OwnA.congr {σ σ2 : L2.St} {j : Nat} {d : D} {a : Addr} (h : σ[j]? = σ2[j]?) (w : OwnA σ j d a) : OwnA σ2 j d a := w.imp (fun w => by rwa [h] at w) id
/-- some slots forgotten -/
theorem Rep.wipe (R : Rep K Y H σ2 env) (hl : σ.length = σ2.length) (h : ∀ i, i ∉ vs → σ[i]? = σ2[i]?) : Rep K Y H σ (wipeE env vs) ∧ (∀ a, Own σ (wipeE env vs) a → Own σ2 env a) := by
  have back : ∀ (j : Nat) (e : AV), (wipeE env vs)[j]? = some e → e ≠ .un → j ∉ vs ∧ env[j]? = some e := fun j e q n => by
    by_cases m : j ∈ vs
    · exact absurd (wipeE_in m q) n
    · exact ⟨m, by rw [wipeE_out m] at q; exact q⟩
  have ow : ∀ a, Own σ (wipeE env vs) a → Own σ2 env a := fun a ⟨j, e, q, w⟩ => by
    obtain ⟨m, q'⟩ := back j _ q (fun z => by cases z)
    exact ⟨j, e, q', w.congr (h j m)⟩
  have pw : ∀ a, Pw Y σ (wipeE env vs) a → Pw Y σ2 env a := fun a z => z.imp id (ow a)
  refine ⟨⟨by rw [wipeE_len, hl]; exact R.len, fun j e q => ?_, fun j e q => ?_, R.yim, fun j k e f a q1 q2 w1 w2 => ?_, fun j e a q m => R.ony j e a (back j _ q (fun z => by cases z)).2 m⟩, ow⟩
  · obtain ⟨m, q'⟩ := back j _ q (fun z => by cases z)
    obtain ⟨v, w, r⟩ := R.dat j e q'
    exact ⟨v, by rw [h j m]; exact w, r.less pw⟩
  · obtain ⟨m, q'⟩ := back j _ q (fun z => by cases z)
    obtain ⟨p, w, n, r⟩ := R.own j e q'
    exact ⟨p, by rw [h j m]; exact w, n, r.less pw⟩
  · obtain ⟨m1, q1'⟩ := back j _ q1 (fun z => by cases z)
    obtain ⟨m2, q2'⟩ := back k _ q2 (fun z => by cases z)
    exact R.inj j k e f a q1' q2' (w1.congr (h j m1)) (w2.congr (h k m2))
/-- a borrowed thing of the caller's changes: nothing here speaks of it -/
theorem Rep.updY {p : Addr} {o : HO} (R : Rep K Y H σ env) (hp : Y p) (mo : Mut (some o) := by trivial) : Rep K Y (upd H p o) σ env := by
  have g : Go (fun a => a = p) (Pw Y σ env) (Pw Y σ env) H (upd H p o) := ⟨fun a u q n => .inl (by rw [upd_ne n]; exact q), fun a z => .inl z⟩
  have sub : ∀ a, a = p → Pw Y σ env a := fun a e => by subst e; exact .inl hp
  refine ⟨R.len, fun j e q => ?_, fun j e q => ?_, fun a z => ?_, R.inj, R.ony⟩
  · obtain ⟨v, w, r⟩ := R.dat j e q
    exact ⟨v, w, r.go g sub⟩
  · obtain ⟨p', w, n, r⟩ := R.own j e q
    exact ⟨p', w, n, RO.go g sub (upd_ne fun e' => n (by rw [e']; exact hp)) (fun q' m => upd_ne fun e' => R.ony j e q' q m (by rw [e']; exact hp)) r⟩
  · by_cases e : a = p
    · subst e; exact ⟨o, upd_same, mo⟩
    · obtain ⟨u, q, m⟩ := R.yim a z
      exact ⟨u, by rw [upd_ne e]; exact q, m⟩
end

/-- the relation to the base of a block, which the new list does not touch -/
structure Bk (σ : L2.St) (Y : Ad) (env1 : AEnv) (H1 : Hp) (σw : L2.St) (vs : List Nat) (env : AEnv) (H : Hp) : Prop where
  keep : ∀ a o, H1 a = some o → ¬ Own σ env1 a → KeepO o H a
  ky : ∀ a, Y a → H a = H1 a
  ow : ∀ a, Own σw env a → Own σ env1 a ∨ H1 a = none
  live : ∀ a o, H1 a = some o → ∃ o', H a = some o'
  sh : ∀ i, i ∉ vs → Sh env1[i]? env[i]?
section
variable {K : Fg} {σ σw σ2 : L2.St} {Y : Ad} {env1 env env2 : AEnv} {H1 H H2 : Hp} {vs : List Nat} {L : Addr}
theorem Bk.step {B : Nat → Bool} (b : Bk σ Y env1 H1 σw vs env H) (R : Rep K (fun a => Y a ∨ a = L) H σw env) (g : AdvS B σw (fun a => Y a ∨ a = L) env H (fun a => Y a ∨ a = L) σ2 env2 H2) (ow2 : ∀ a, Own σ2 env2 a → Own σw env a ∨ H a = none) (sh2 : ∀ i, i ∉ vs → Sh env[i]? env2[i]?) : Bk σ Y env1 H1 σ2 vs env2 H2 := by
  refine ⟨fun a o h n => (b.keep a o h n).trans fun u q => g.keep a u q fun z => (b.ow a z).elim n (fun z => by rw [h] at z; cases z), fun a z => (g.ky a (.inl z)).trans (b.ky a z), fun a z => ?_, fun a o h => ?_, fun i hi => (b.sh i hi).trans (sh2 i hi)⟩
  · rcases ow2 a z with z | z
    · exact b.ow a z
    · right
      cases q : H1 a with
      | none => rfl
      | some o =>
        obtain ⟨o', w⟩ := b.live a o q
        rw [w] at z; cases z
  · obtain ⟨o', w⟩ := b.live a o h
    exact g.live a o' w
theorem Bk.upd {o : HO} (b : Bk σ Y env1 H1 σw vs env H) (n : H1 L = none) (R1 : Rep K Y H1 σ env1) : Bk σ Y env1 H1 σw vs env (upd H L o) := by
  have ne : ∀ a u, H1 a = some u → a ≠ L := fun a u q e => by subst e; rw [n] at q; cases q
  refine ⟨fun a u h w => ?_, fun a z => ?_, b.ow, fun a u h => ?_, b.sh⟩
  · rcases b.keep a u h w with q | ⟨od, d, q⟩
    · exact .inl (by rw [upd_ne (ne a u h)]; exact q)
    · exact .inr ⟨od, d, by rw [upd_ne (ne a u h)]; exact q⟩
  · obtain ⟨u, q⟩ := R1.yin a z
    rw [upd_ne (ne a u q)]
    exact b.ky a z
  · obtain ⟨o', w⟩ := b.live a u h
    exact ⟨o', by rw [upd_ne (ne a u h)]; exact w⟩
theorem Bk.go (b : Bk σ Y env1 H1 σw vs env H) (n : H1 L = none) : Go (Own σ env1) (Pw Y σ env1) (Pw (fun a => Y a ∨ a = L) σw env) H1 H := by
  refine ⟨b.keep, fun a z => ?_⟩
  rcases z with (z | z) | z
  · exact .inl (.inl z)
  · subst z; exact .inr n
  · exact (b.ow a z).imp .inr id
end
theorem adv_at {X : Cx} : True := trivial
theorem snd_lc {K : Fg} {wi : TI} {g : TG} {tt : TT} {te : TE} {ai : AI'} {ag : AG'} {at' : AT'} {e : AE'} {vs : List Nat} (hi : SndI K wi ai) (hg : SndG K (fun i => !decide (i ∈ vs)) g ag) (hl : GLoc vs ag) (ht : SndT K tt at') (he : Snd K te e) :
    Snd K (tLc wi g tt te vs) (aLc ai ag at' e vs) := by
  intro Y H0 σ env0 R Q rep0 q k
  refine hi Y H0 σ env0 _ _ rep0 q fun J H1 env1 items rep1 g1 walk q1 => ?_
  obtain ⟨no, hlen, q1⟩ := q1
  intro L nL
  have R0 := rep1.wipe (σ := wipe σ vs) (vs := vs) (by rw [wipe_length]) (fun i h => wipe_out h)
  have b0 : Bk σ Y env1 H1 (wipe σ vs) vs (wipeE env1 vs) (upd H1 L (.lst [])) := Bk.upd (K := K) ⟨fun a o h _ => .inl h, fun _ _ => rfl, fun a z => .inl (R0.2 a z), fun a o h => ⟨o, h⟩, fun i h => by rw [wipeE_out h]; exact Sh.refl _⟩ nL rep1
  have repL0 : Rep K (fun a => Y a ∨ a = L) (upd H1 L (.lst [])) (wipe σ vs) (wipeE env1 vs) := R0.1.grow (fun a z => z.imp id fun e => by rw [e]; exact nL) (upd_keep nL) fun a z => by
    rcases z with z | z
    · obtain ⟨u, q, m⟩ := R0.1.yim a z
      exact ⟨u, upd_keep nL a u q, m⟩
    · subst z; exact ⟨_, upd_same, trivial⟩
  refine ⟨fun i m H => ∃ env zs acc, m = items.length - i ∧ i ≤ items.length ∧ Rep K (fun a => Y a ∨ a = L) H (wipe σ vs) env ∧ Bk σ Y env1 H1 (wipe σ vs) vs env H ∧ (H L = some (.lst acc) ∧ RDs K H (Pw (fun a => Y a ∨ a = L) (wipe σ vs) env) acc zs ∧ zs.length ≤ i) ∧ (∀ v ∈ vs, ∀ a, env[v]? = some a → a = .un) ∧
    lcL ag at' e vs (items.drop i) (fun ds env2 => R (.new (.lst (zs ++ ds))) (restoreE env1 env2 vs)) env, ⟨_, wipeE env1 vs, [], [], rfl, Nat.zero_le _, repL0, b0, ⟨upd_same, .nil, Nat.le_refl _⟩, fun v hv a z => wipeE_in hv z, q1⟩, ?_⟩
  rintro i m H ⟨env, zs, acc, rfl, hi', rep, bk, ⟨hL, rz, lz⟩, bk0, q⟩
  have wk := walk (Own σ env1) (Pw (fun a => Y a ∨ a = L) (wipe σ vs) env) H (fun a z => .inr z) (bk.go nL) fun a z => by
    rcases z with z | ⟨j, d, e, w⟩
    · exact rep.yim a z
    · exact (rep.ownY e w).2
  by_cases hlt : i < items.length
  · obtain ⟨hgo, hy⟩ := wk.1 i hlt
    refine .inr ⟨hgo, fun H' => ∃ env zs acc, Rep K (fun a => Y a ∨ a = L) H' (wipe σ vs) env ∧ Bk σ Y env1 H1 (wipe σ vs) vs env H' ∧ (H' L = some (.lst acc) ∧ RDs K H' (Pw (fun a => Y a ∨ a = L) (wipe σ vs) env) acc zs ∧ zs.length ≤ i + 1) ∧ (∀ v ∈ vs, ∀ a, env[v]? = some a → a = .un) ∧
      lcL ag at' e vs (items.drop (i + 1)) (fun ds env2 => R (.new (.lst (zs ++ ds))) (restoreE env1 env2 vs)) env, fun H' ⟨env, zs, acc, r, b, c, u, q⟩ => ⟨_, by omega, env, zs, acc, rfl, hlt, r, b, c, u, q⟩, fun x H3 y => ?_⟩
    obtain ⟨same, d, hd, rd⟩ := hy x H3 y
    have ed : items.drop i = d :: items.drop (i + 1) := by
      rw [List.drop_eq_getElem_cons hlt]
      rw [List.getElem?_eq_getElem hlt] at hd
      rw [Option.some.inj hd]
    rw [ed] at q
    have rep3 := rep.same same
    have bk3 : Bk σ Y env1 H1 (wipe σ vs) vs env H3 := bk.step (B := fun _ => true) rep (Adv.same rep same).toS (fun _ z => .inl z) fun _ _ => Sh.refl _
    have no0 : noOwn env vs := fun v hv d' z => by
      have := bk0 v hv (.own d') z
      cases this
    refine hg _ H3 (wipe σ vs) env x d _ _ rep3 rd (hl _ _ _ no0 q) fun H4 σ4 env4 rep4 g4 q4 => ?_
    obtain ⟨q4, eq4, no4⟩ := q4
    have st4 : ∀ j, j ∉ vs → σ4[j]? = (wipe σ vs)[j]? := fun j hj => g4.st j (by simp [hj])
    have l4 : σ4.length = (wipe σ vs).length := g4.len
    have w4 : wipe σ4 vs = wipe σ vs := by
      rw [wipe_eq l4 st4, wipe_wipe]
    refine ⟨w4, ?_⟩
    have own4 : ∀ a, Own σ4 env4 a → Own (wipe σ vs) env a := fun a ⟨j, e', q', w'⟩ => by
      by_cases hj : j ∈ vs
      · exact (no4 j hj e' q').elim
      · rw [eq4 j hj] at q'
        exact ⟨j, e', q', w'.congr (st4 j hj)⟩
    have bk4 : Bk σ Y env1 H1 σ4 vs env4 H4 := bk3.step rep3 g4 (fun a z => .inl (own4 a z)) fun i hi => by rw [eq4 i hi]; exact Sh.refl _
    have hL4 : H4 L = some (.lst acc) := (g4.ky L (.inr rfl)).trans (same _ _ hL)
    have rz4 := g4.rds rep3 (rz.same same)
    refine ht _ H4 σ4 env4 _ _ rep4 q4 fun b H5 env5 rep5 g5 q5 => ?_
    have bk5 : Bk σ Y env1 H1 σ4 vs env5 H5 := bk4.step (B := fun _ => true) rep4 g5.toS g5.ow fun i _ => g5.sh i
    have hL5 : H5 L = some (.lst acc) := (g5.ky L (.inr rfl)).trans hL4
    have rz5 := g5.rds rz4
    have back : ∀ {env6 : AEnv} {H6 : Hp}, Rep K (fun a => Y a ∨ a = L) H6 σ4 env6 → Bk σ Y env1 H1 σ4 vs env6 H6 → Rep K (fun a => Y a ∨ a = L) H6 (wipe σ vs) (wipeE env6 vs) ∧ Bk σ Y env1 H1 (wipe σ vs) vs (wipeE env6 vs) H6 ∧ ∀ a, Pw (fun a => Y a ∨ a = L) (wipe σ vs) (wipeE env6 vs) a → Pw (fun a => Y a ∨ a = L) σ4 env6 a := fun {env6 H6} r b => by
      obtain ⟨r', o'⟩ := r.wipe (σ := wipe σ vs) (vs := vs) l4.symm fun i hi => (st4 i hi).symm
      exact ⟨r', ⟨b.keep, b.ky, fun a z => b.ow a (o' a z), b.live, fun i hi => by rw [wipeE_out hi]; exact b.sh i hi⟩, fun a z => z.imp id (o' a)⟩
    cases b with
    | false =>
      refine iteF ?_
      obtain ⟨r6, b6, p6⟩ := back rep5 bk5
      have q5' : lcL ag at' e vs (items.drop (i + 1)) (fun ds env2 => R (.new (.lst (zs ++ ds))) (restoreE env1 env2 vs)) (wipeE env5 vs) := by simpa using q5
      exact ⟨_, zs, acc, r6, b6, ⟨hL5, rz5.less p6, by omega⟩, fun v hv a z => wipeE_in hv z, q5'⟩
    | true =>
      refine iteT ?_
      have q5' := q5
      simp only [brP_true] at q5'
      refine he.frz _ H5 σ4 env5 _ _ rep5 q5' fun v H6 env6 r6 Y6 rep6 g6 ok6 q6 => ?_
      match r6, ok6, q6 with
      | .dat z, ok6, q6 =>
        obtain ⟨ey, rd6⟩ := ok6
        subst ey
        have bk6 : Bk σ Y env1 H1 σ4 vs env6 H6 := bk5.step (B := fun _ => true) rep5 g6.toS g6.ow fun i _ => g6.sh i
        have hL6 : H6 L = some (.lst acc) := (g6.ky L (.inr rfl)).trans hL5
        have rz6 := g6.rds rz5
        obtain ⟨r7, b7, p7⟩ := back rep6 bk6
        have gu : Go (fun a => a = L) (Pw (fun a => Y a ∨ a = L) (wipe σ vs) (wipeE env6 vs)) (Pw (fun a => Y a ∨ a = L) (wipe σ vs) (wipeE env6 vs)) H6 (upd H6 L (.lst (acc ++ [v]))) := ⟨fun a u q n => .inl (by rw [upd_ne n]; exact q), fun a z => .inl z⟩
        have su : ∀ a, a = L → Pw (fun a => Y a ∨ a = L) (wipe σ vs) (wipeE env6 vs) a := fun a z => .inl (.inr z)
        have la : acc.length = zs.length := rz.length
        refine ⟨acc, hL6, by omega, wipeE env6 vs, zs ++ [z], acc ++ [v], r7.updY (.inr rfl), b7.upd nL rep1, ⟨upd_same, (((rz6.less p7).append (.cons (rd6.less p7) .nil)).go gu su), by rw [List.length_append]; exact Nat.succ_le_succ lz⟩, fun w hv a z => wipeE_in hv z, ?_⟩
        simpa using q6
  · have ei : i = items.length := by omega
    subst ei
    rw [List.drop_length] at q
    refine .inl ⟨wk.2, ?_⟩
    have q' : R (.new (.lst (zs ++ []))) (restoreE env1 env vs) := q
    rw [List.append_nil] at q'
    have lenE : env.length = env1.length := by rw [← rep.len, wipe_length, rep1.len]
    have backO : ∀ (j : Nat) (d : D), (restoreE env1 env vs)[j]? = some (.own d) → j ∉ vs ∧ env[j]? = some (.own d) := fun j d z => by
      by_cases hj : j ∈ vs
      · rw [restoreE_in lenE hj] at z
        exact (no j hj d z).elim
      · exact ⟨hj, by rw [restoreE_out hj] at z; exact z⟩
    have owf : ∀ a, Own σ (restoreE env1 env vs) a → Own (wipe σ vs) env a := fun a ⟨j, d, z, w⟩ => by
      obtain ⟨hj, z'⟩ := backO j d z
      exact ⟨j, d, z', w.congr (wipe_out hj).symm⟩
    have pwf : ∀ a, Pw (fun a => Y a ∨ a = L) σ (restoreE env1 env vs) a → Pw (fun a => Y a ∨ a = L) (wipe σ vs) env a := fun a z => z.imp id (owf a)
    have repF : Rep K (fun a => Y a ∨ a = L) H σ (restoreE env1 env vs) := by
      refine ⟨by rw [restoreE_len, lenE]; exact rep1.len, fun j d z => ?_, fun j d z => ?_, rep.yim, fun j k d f a z1 z2 w1 w2 => ?_, fun j d a z m => rep.ony j d a (backO j d z).2 m⟩
      · by_cases hj : j ∈ vs
        · rw [restoreE_in lenE hj] at z
          obtain ⟨v, w, r⟩ := rep1.dat j d z
          exact ⟨v, w, (r.go (bk.go nL) fun a z => .inr z).less pwf⟩
        · rw [restoreE_out hj] at z
          obtain ⟨v, w, r⟩ := rep.dat j d z
          rw [wipe_out hj] at w
          exact ⟨v, w, r.less pwf⟩
      · obtain ⟨hj, z'⟩ := backO j d z
        obtain ⟨p, w, n, r⟩ := rep.own j d z'
        rw [wipe_out hj] at w
        exact ⟨p, w, n, r.less pwf⟩
      · obtain ⟨h1, z1'⟩ := backO j d z1
        obtain ⟨h2, z2'⟩ := backO k f z2
        exact rep.inj j k d f a z1' z2' (w1.congr (wipe_out h1).symm) (w2.congr (wipe_out h2).symm)
    have advF : Adv σ Y env1 H1 (fun a => Y a ∨ a = L) (restoreE env1 env vs) H := ⟨bk.keep, bk.ky, fun _ z => .inl z, fun a z => z.imp id fun e => by rw [e]; exact nL, fun j => by
      by_cases hj : j ∈ vs
      · rw [restoreE_in lenE hj]; exact Sh.refl _
      · rw [restoreE_out hj]; exact bk.sh j hj, fun a z => bk.ow a (owf a z), bk.live⟩
    refine k (.ref L) H (restoreE env1 env vs) (.new (.lst zs)) _ repF (g1.trans advF) ⟨L, rfl, rfl, fun z => ?_, acc, hL, rz.less pwf, ?_⟩ q'
    · rcases z with z | z
      · obtain ⟨u, w⟩ := rep1.yin L z
        rw [nL] at w; cases w
      · obtain ⟨j, d, e', w'⟩ := owf L z
        exact (rep.ownY e' w').1 (.inr rfl)
    · have la : acc.length = zs.length := rz.length
      omega
end AL
namespace AL
open PySem L2
/-! AL11: comprehensions as expressions; built-in calls and methods by data. -/
def canE (K : Fg) (a : AE') : TE := fun σ H Q => ∃ Y env R, Rep K Y H σ env ∧ a env R ∧ ∀ v H' env' r Y', Rep K Y' H' σ env' → Adv σ Y env H Y' env' H' → ResOk K H' Y Y' σ env' v r → R r env' → Q v H'
def canT (K : Fg) (a : AT') : TT := fun σ H Q => ∃ Y env R, Rep K Y H σ env ∧ a env R ∧ ∀ b H' env', Rep K Y H' σ env' → Adv σ Y env H Y env' H' → R b env' → Q b H'
def canG (K : Fg) (B : Nat → Bool) (a : AG') : TG := fun v σ H Q => ∃ Y env d N, Rep K Y H σ env ∧ RD K H (Pw Y σ env) v d ∧ a d env N ∧ ∀ H' σ' env', Rep K Y H' σ' env' → AdvS B σ Y env H Y σ' env' H' → N env' → Q σ' H'
section
variable {K : Fg} {X : Cx}
theorem snd_canE {a : AE'} : Snd K (canE K a) a := fun Y H σ env R Q rep h k => ⟨Y, env, R, rep, h, k⟩
theorem snd_canT {a : AT'} : SndT K (canT K a) a := fun Y H σ env R Q rep h k => ⟨Y, env, R, rep, h, k⟩
theorem snd_canG {B : Nat → Bool} {a : AG'} : SndG K B (canG K B a) a := fun Y H σ env v d N Q rep rd h k => ⟨Y, env, d, N, rep, rd, h, k⟩
theorem AE.can {e : Expr} {a : AE'} (h : AE X e a) : PE X e (canE X.K a) := by
  obtain ⟨t, p, s⟩ := h
  exact ⟨fun pins s0 σ H Q I ⟨Y, env, R, rep, h', k⟩ => p.run pins s0 σ H Q I (s Y H σ env R Q rep h' k)⟩
theorem ATs.can {e : List Expr} {a : AT'} (h : ATs X e a) : PTs X e (canT X.K a) := by
  obtain ⟨t, p, s⟩ := h
  exact ⟨fun pins s0 σ H Q I ⟨Y, env, R, rep, h', k⟩ => p.run pins s0 σ H Q I (s Y H σ env R Q rep h' k)⟩
theorem AG.can {B : Nat → Bool} {e : Expr} {a : AG'} (h : AG X B e a) : PG X e (canG X.K B a) := by
  obtain ⟨t, p, s⟩ := h
  exact ⟨fun pins s0 σ H v u Q I r ⟨Y, env, d, N, rep, rd, h', k⟩ => p.run pins s0 σ H v u Q I r (s Y H σ env v d N Q rep rd h' k)⟩
end
section
variable {X : Cx} {elt tg iter : Expr} {ifs : List Expr} {scope : Scope} {own : List (Str × Nat)} {pos : Pos} {ai : AI'} {ag : AG'} {t : AT'} {e : AE'}
theorem ae_lc (hc : X.calm = true) (hN : X.N.Nodup) (hi : AI X tg iter ai) (ok : BlkOk X.N X.env.scope scope own) (hl : GLoc (own.map (·.2)) ag)
    (hg : ∀ (s : Shared) (H : Hp) (C : Addr) (cl : List (Str × Addr)) (fp : List Addr), AG (X.blk s H scope (compEnvC scope cl C X.env) fp) (fun i => !decide (i ∈ own.map (·.2))) tg ag)
    (ht : ∀ (s : Shared) (H : Hp) (C : Addr) (cl : List (Str × Addr)) (fp : List Addr), ATs (X.blk s H scope (compEnvC scope cl C X.env) fp) ifs t)
    (he : ∀ (s : Shared) (H : Hp) (C : Addr) (cl : List (Str × Addr)) (fp : List Addr), AE (X.blk s H scope (compEnvC scope cl C X.env) fp) elt e) (hs : ∀ x, foldedSetIterable iter X.env x = pure x := by intro _; rfl) :
    AE X (.ListComp elt [⟨tg, iter, ifs, 0⟩] scope pos) (aLc ai ag t e (own.map (·.2))) := by
  obtain ⟨wi, pI, sI⟩ := hi
  have h1 : ∀ (s : Shared) (H : Hp) (C : Addr) (cl : List (Str × Addr)) (fp : List Addr), PG (X.blk s H scope (compEnvC scope cl C X.env) fp) tg (canG X.K (fun i => !decide (i ∈ own.map (·.2))) ag) := fun s H C cl fp => (hg s H C cl fp).can
  have h2 : ∀ (s : Shared) (H : Hp) (C : Addr) (cl : List (Str × Addr)) (fp : List Addr), PTs (X.blk s H scope (compEnvC scope cl C X.env) fp) ifs (canT X.K t) := fun s H C cl fp => (ht s H C cl fp).can
  have h3 : ∀ (s : Shared) (H : Hp) (C : Addr) (cl : List (Str × Addr)) (fp : List Addr), PE (X.blk s H scope (compEnvC scope cl C X.env) fp) elt (canE X.K e) := fun s H C cl fp => (he s H C cl fp).can
  exact ⟨_, pe_lc (own := own) hc hN pI ok h1 h2 h3 hs, snd_lc sI snd_canG hl snd_canT snd_canE⟩
/-- name = [..] on one line, the name a local -/
theorem as_setLc {B : Nat → Bool} {i : Nat} {y : Str} {py spos : Pos} (hc : X.calm = true) (hN : X.N.Nodup) (hy : X.N[i]? = some y) (hyl : X.env.scope.names.lookup y = some .local)
    (hsw : swapsWith (.ListComp elt [⟨tg, iter, ifs, 0⟩] scope pos) (some (.Name y py)) spos.line X.env = pure true) (hi : AI X tg iter ai) (ok : BlkOk X.N X.env.scope scope own) (hl : GLoc (own.map (·.2)) ag)
    (hg : ∀ (s : Shared) (H : Hp) (C : Addr) (cl : List (Str × Addr)) (fp : List Addr), AG (X.blk s H scope (compEnvC scope cl C X.env) fp) (fun i => !decide (i ∈ own.map (·.2))) tg ag)
    (ht : ∀ (s : Shared) (H : Hp) (C : Addr) (cl : List (Str × Addr)) (fp : List Addr), ATs (X.blk s H scope (compEnvC scope cl C X.env) fp) ifs t)
    (he : ∀ (s : Shared) (H : Hp) (C : Addr) (cl : List (Str × Addr)) (fp : List Addr), AE (X.blk s H scope (compEnvC scope cl C X.env) fp) elt e) (hb : B i = false := by rfl) (hs : ∀ x, foldedSetIterable iter X.env x = pure x := by intro _; rfl) :
    AS X B (.Assign [.Name y py] (.ListComp elt [⟨tg, iter, ifs, 0⟩] scope pos) spos) (aSet i (aLc ai ag t e (own.map (·.2)))) := by
  obtain ⟨wi, pI, sI⟩ := hi
  have h1 : ∀ (s : Shared) (H : Hp) (C : Addr) (cl : List (Str × Addr)) (fp : List Addr), PG (X.blk s H scope (compEnvC scope cl C X.env) fp) tg (canG X.K (fun i => !decide (i ∈ own.map (·.2))) ag) := fun s H C cl fp => (hg s H C cl fp).can
  have h2 : ∀ (s : Shared) (H : Hp) (C : Addr) (cl : List (Str × Addr)) (fp : List Addr), PTs (X.blk s H scope (compEnvC scope cl C X.env) fp) ifs (canT X.K t) := fun s H C cl fp => (ht s H C cl fp).can
  have h3 : ∀ (s : Shared) (H : Hp) (C : Addr) (cl : List (Str × Addr)) (fp : List Addr), PE (X.blk s H scope (compEnvC scope cl C X.env) fp) elt (canE X.K e) := fun s H C cl fp => (he s H C cl fp).can
  refine ⟨_, ps_setLc (own := own) hc hN hy hyl hsw pI ok h1 h2 h3 hs, fun Y H σ env D A rep q k => ?_⟩
  refine snd_lc sI snd_canG hl snd_canT snd_canE Y H σ env _ _ rep q fun v H' env' r Y' rep' g ok q' => ?_
  exact set_ok hb rep g rep' ok q' fun env2 r2 g2 q2 => k.nx H' _ env2 r2 g2 q2
end
/-! ### built-in functions by data -/
abbrev OpN := List D → (RV → Prop) → Prop
def CallS (K : Fg) (r : List V → Hp → VK → Prop) (f : OpN) : Prop := ∀ (Y : Ad) (H : Hp) (σ : L2.St) (env : AEnv) (us : List V) (ds : List D) (F : RV → Prop) (Q : VK), Rep K Y H σ env → RDs K H (Pw Y σ env) us ds → f ds F → Fin K Y H σ env F Q → r us H Q
def aCall (f : OpN) (t : AA') : AE' := fun env R => t env fun rs env1 => match dats rs with
  | some ds => f ds fun z => R z env1
  | none => False
theorem snd_call {K : Fg} {r : List V → Hp → VK → Prop} {f : OpN} {ta : TA} {t : AA'} (o : CallS K r f) (s : SndA K ta t) : Snd K (tCB r ta) (aCall f t) := by
  intro Y H σ env R Q rep q k
  refine s Y H σ env _ _ rep q fun vs H' env' rs rep' g ok q' => ?_
  match w : dats rs, q' with
  | some ds, q' => exact o Y H' σ env' vs ds _ _ rep' (ok.dats w) q' fun v H2 z Y2 rep2 g2 ok2 q2 => k v H2 env' z Y2 rep2 (g.trans g2) ok2 q2
section
variable {X : Cx} {x : Str} {p pos : Pos} {e : Expr} {es : List Expr} {t : AA'} {f : OpN}
theorem ae_callB {id : String} {r : List V → Hp → VK → Prop} (hc : CallR X (.builtin id) r) (o : CallS X.K r f) (hg : Gl X x) (hm : X.mg x = none) (hv : bootBuiltins x = some (.builtin id)) (ha : AA X (e :: es) t) (hn : x ≠ "__name__" := by decide) (hdb : (x == ("__debug__" : Str)) = false := by decide)
    (he : starEach (e :: es) X.env = (false, eval e X.env) :: starEach es X.env := by rfl) (hpl : (backTo pos (starEach es X.env)).any (·.1) = false := by rfl) : AE X (.Call (.Name x p) (e :: es) [] pos) (aCall f t) := by
  obtain ⟨u, pa, s⟩ := ha
  exact ⟨_, pe_callB hc hg hm hv pa hn hdb he hpl, snd_call o s⟩
theorem ae_callTy {T : String} {r : List V → Hp → VK → Prop} (hc : CallR X (.type T) r) (o : CallS X.K r f) (hg : Gl X x) (hm : X.mg x = none) (hv : bootBuiltins x = some (.type T)) (ha : AA X (e :: es) t) (hn : x ≠ "__name__" := by decide) (hdb : (x == ("__debug__" : Str)) = false := by decide)
    (he : starEach (e :: es) X.env = (false, eval e X.env) :: starEach es X.env := by rfl) (hpl : (backTo pos (starEach es X.env)).any (·.1) = false := by rfl) : AE X (.Call (.Name x p) (e :: es) [] pos) (aCall f t) := by
  obtain ⟨u, pa, s⟩ := ha
  exact ⟨_, pe_callTy hc hg hm hv pa hn hdb he hpl, snd_call o s⟩
end
end AL
namespace AL
open PySem L2
/-! AL12: promises of defs over data, and their calls. -/
abbrev ASp := AEnv → (RV → AEnv → Prop) → Prop
def toSp (K : Fg) (S : ASp) : Sp := fun vs H Q _ => ∃ Y avs R, Rep K Y H (vs.map some) avs ∧ S avs R ∧ ∀ v H' r avs' Y', Rep K Y' H' (vs.map some) avs' → AdvS (fun _ => true) (vs.map some) Y avs H Y' (vs.map some) avs' H' →
  (∀ a, Y' a → Y a ∨ H a = none) → ResOk K H' Y Y' (vs.map some) avs' v r → (∀ i, r ≠ .at i) → R r avs' → Q v H'
/-- the parameters' slots behind a call: a lent one as the body left it -/
def outs : AEnv → AEnv → AEnv
  | [], _ => []
  | .own _ :: r, e :: es => e :: outs r es
  | a :: r, _ :: es => a :: outs r es
  | a :: r, [] => a :: r
theorem outs_len : ∀ (a e : AEnv), (outs a e).length = a.length
  | [], _ => rfl
  | .own _ :: r, _ :: es => by simp [outs, outs_len r es]
  | .dat _ :: r, _ :: es => by simp [outs, outs_len r es]
  | .un :: r, _ :: es => by simp [outs, outs_len r es]
  | .own _ :: r, [] => rfl
  | .dat _ :: r, [] => rfl
  | .un :: r, [] => rfl
theorem outs_get : ∀ {a e : AEnv} {i : Nat} {x : AV}, (outs a e)[i]? = some x → a.length ≤ e.length → (∃ d, a[i]? = some (.own d) ∧ e[i]? = some x) ∨ (a[i]? = some x ∧ ∀ d, x ≠ .own d)
  | .own d :: r, y :: es, 0, x, h, _ => by
    simp only [outs, List.getElem?_cons_zero, Option.some.injEq] at h
    subst h
    exact .inl ⟨d, rfl, rfl⟩
  | .dat d :: r, y :: es, 0, x, h, _ => by
    simp only [outs, List.getElem?_cons_zero, Option.some.injEq] at h
    subst h
    exact .inr ⟨rfl, fun d z => by cases z⟩
  | .un :: r, y :: es, 0, x, h, _ => by
    simp only [outs, List.getElem?_cons_zero, Option.some.injEq] at h
    subst h
    exact .inr ⟨rfl, fun d z => by cases z⟩
  | .own d :: r, y :: es, i + 1, x, h, l => by
    simp only [outs, List.getElem?_cons_succ] at h
    simpa using outs_get h (by simpa using l)
  | .dat d :: r, y :: es, i + 1, x, h, l => by
    simp only [outs, List.getElem?_cons_succ] at h
    simpa using outs_get h (by simpa using l)
  | .un :: r, y :: es, i + 1, x, h, l => by
    simp only [outs, List.getElem?_cons_succ] at h
    simpa using outs_get h (by simpa using l)
  | _ :: _, [], _, _, _, l => by simp at l
  | [], _, _, _, h, _ => by simp [outs] at h
theorem outs_sh : ∀ {a e : AEnv} (i : Nat), a.length ≤ e.length → (∀ d, a[i]? = some (.own d) → Sh a[i]? e[i]?) → Sh a[i]? (outs a e)[i]?
  | [], _, i, _, _ => by simp [outs, Sh]
  | .own d :: r, y :: es, 0, _, h => h d rfl
  | .dat d :: r, y :: es, 0, _, h => Sh.refl _
  | .un :: r, y :: es, 0, _, h => Sh.refl _
  | .own d :: r, y :: es, i + 1, l, h => by simpa [outs] using outs_sh i (by simpa using l) (by simpa using h)
  | .dat d :: r, y :: es, i + 1, l, h => by simpa [outs] using outs_sh i (by simpa using l) (by simpa using h)
  | .un :: r, y :: es, i + 1, l, h => by simpa [outs] using outs_sh i (by simpa using l) (by simpa using h)
  | _ :: _, [], _, l, _ => by simp at l
def start0 (n : Nat) (avs : AEnv) : AEnv := avs ++ List.replicate (n - avs.length) .un
section
variable {K : Fg} {σ : L2.St} {Y : Ad} {env avs : AEnv} {H : Hp} {vs : List V}
theorem own_start {N : List Str} (hl : vs.length = avs.length) : ∀ a, Own (L2.start N vs) (start0 N.length avs) a ↔ Own (vs.map some) avs a := fun a => by
  have e1 : ∀ (i : Nat) (d : D), (start0 N.length avs)[i]? = some (.own d) → avs[i]? = some (.own d) := fun i d q => by
    unfold start0 at q
    by_cases h : i < avs.length
    · rwa [List.getElem?_append_left h] at q
    · rw [List.getElem?_append_right (by omega), List.getElem?_replicate] at q
      split at q <;> cases q
  constructor
  · rintro ⟨i, d, q, w⟩
    have q' := e1 i d q
    have h : i < avs.length := (List.getElem?_eq_some_iff.mp q').1
    refine ⟨i, d, q', w.congr ?_⟩
    unfold L2.start
    rw [List.getElem?_append_left (by rw [List.length_map]; omega)]
  · rintro ⟨i, d, q, w⟩
    have h : i < avs.length := (List.getElem?_eq_some_iff.mp q).1
    refine ⟨i, d, ?_, ?_⟩
    · unfold start0
      rw [List.getElem?_append_left h]; exact q
    · refine w.congr ?_
      unfold L2.start
      rw [List.getElem?_append_left (by rw [List.length_map]; omega)]
theorem Rep.start {N : List Str} (R : Rep K Y H (vs.map some) avs) (hN : avs.length ≤ N.length) : Rep K Y H (L2.start N vs) (start0 N.length avs) := by
  have hl : vs.length = avs.length := by simpa using R.len
  have pw : ∀ a, Pw Y (L2.start N vs) (start0 N.length avs) a ↔ Pw Y (vs.map some) avs a := fun a => or_congr Iff.rfl (own_start hl a)
  have e1 : ∀ (i : Nat) (x : AV), (start0 N.length avs)[i]? = some x → x ≠ .un → avs[i]? = some x := fun i x q n => by
    unfold start0 at q
    by_cases h : i < avs.length
    · rwa [List.getElem?_append_left h] at q
    · rw [List.getElem?_append_right (by omega), List.getElem?_replicate] at q
      split at q
      · cases q; exact absurd rfl n
      · cases q
  have s1 : ∀ i, i < avs.length → (L2.start N vs)[i]? = (vs.map some)[i]? := fun i h => by
    unfold L2.start
    rw [List.getElem?_append_left (by rw [List.length_map]; omega)]
  refine ⟨?_, fun i d q => ?_, fun i d q => ?_, R.yim, fun i j d e p q1 q2 w1 w2 => ?_, fun i d q e m => R.ony i d q (e1 i _ e (fun z => by cases z)) m⟩
  · unfold L2.start start0
    simp only [List.length_append, List.length_map, List.length_replicate]
    omega
  · have q' := e1 i _ q (fun z => by cases z)
    obtain ⟨v, w, r⟩ := R.dat i d q'
    exact ⟨v, by rw [s1 i (List.getElem?_eq_some_iff.mp q').1]; exact w, r.less fun a z => (pw a).mp z⟩
  · have q' := e1 i _ q (fun z => by cases z)
    obtain ⟨p, w, n, r⟩ := R.own i d q'
    exact ⟨p, by rw [s1 i (List.getElem?_eq_some_iff.mp q').1]; exact w, n, r.less fun a z => (pw a).mp z⟩
  · have q1' := e1 i _ q1 (fun z => by cases z)
    have q2' := e1 j _ q2 (fun z => by cases z)
    exact R.inj i j d e p q1' q2' (w1.congr (s1 i (List.getElem?_eq_some_iff.mp q1').1)) (w2.congr (s1 j (List.getElem?_eq_some_iff.mp q2').1))
end
theorem RD.ref_not {K : Fg} {H : Hp} {P : Ad} {a : Addr} {d : D} (h : RD K H P (.ref a) d) (o : ownable d = true) : ¬ P a := by
  cases h with
  | tup s r => cases o
  | lst s r => exact s.2.1
  | dK s n e r => exact n
  | dT s n e r => exact n
  | hup s n l r => exact n
  | obj s n e r => exact n
  | scr s r => cases o
  | ptr q => cases o
section
variable {P : Program} {w : World} {K : Fg} {mg : Str → Option Value} {base : Heap}
/-- the end of a body -/
theorem fin_body {N : List Str} {B : Nat → Bool} {vs : List V} {avs : AEnv} {Y Y' : Ad} {H H' : Hp} {σ' : L2.St} {env' : AEnv} {v : V} {r : RV} (R : Rep K Y H (vs.map some) avs) (hN : avs.length ≤ N.length) (hB : ∀ (i : Nat) (d : D), avs[i]? = some (.own d) → B i = true)
    (R' : Rep K Y' H' σ' env') (g : AdvS B (L2.start N vs) Y (start0 N.length avs) H Y' σ' env' H') (hr : ∀ i, r ≠ .at i) (ok : ResOk K H' Y Y' σ' env' v r) :
    Rep K Y' H' (vs.map some) (outs avs env') ∧ AdvS (fun _ => true) (vs.map some) Y avs H Y' (vs.map some) (outs avs env') H' ∧ (∀ a, Y' a → Y a ∨ H a = none) ∧ ResOk K H' Y Y' (vs.map some) (outs avs env') v r := by
  have hl : vs.length = avs.length := by simpa using R.len
  have R0 := R.start hN
  have ow0 := own_start (N := N) hl
  have e0 : ∀ i, i < avs.length → (start0 N.length avs)[i]? = avs[i]? := fun i h => by
    unfold start0
    rw [List.getElem?_append_left h]
  have s0 : ∀ i, i < avs.length → (L2.start N vs)[i]? = (vs.map some)[i]? := fun i h => by
    unfold L2.start
    rw [List.getElem?_append_left (by rw [List.length_map]; omega)]
  have lenE : avs.length ≤ env'.length := by
    rw [← R'.len, g.len, R0.len]
    unfold start0
    rw [List.length_append]
    omega
  have shp : ∀ (i : Nat) (d : D), avs[i]? = some (.own d) → Sh avs[i]? env'[i]? := fun i d q => by
    have h : i < avs.length := (List.getElem?_eq_some_iff.mp q).1
    have := g.pr i (hB i d q)
    rwa [e0 i h] at this
  have sts : ∀ (i : Nat) (d : D), avs[i]? = some (.own d) → σ'[i]? = (vs.map some)[i]? := fun i d q => by
    have h : i < avs.length := (List.getElem?_eq_some_iff.mp q).1
    rw [g.st i (hB i d q), s0 i h]
  have bk : ∀ (i : Nat) (d : D), (outs avs env')[i]? = some (.own d) → (∃ e, avs[i]? = some (.own e)) ∧ env'[i]? = some (.own d) := fun i d q => by
    rcases outs_get q lenE with ⟨e, a, b⟩ | ⟨_, b⟩
    · exact ⟨⟨e, a⟩, b⟩
    · exact absurd rfl (b d)
  have owF : ∀ a, Own (vs.map some) (outs avs env') a → Own σ' env' a := fun a ⟨i, d, q, w⟩ => by
    obtain ⟨⟨e, a1⟩, b1⟩ := bk i d q
    exact ⟨i, d, b1, w.congr (sts i e a1).symm⟩
  have pwF : ∀ a, Pw Y' (vs.map some) (outs avs env') a → Pw Y' σ' env' a := fun a z => z.imp id (owF a)
  have gd := g.go R0
  have y3 : ∀ a, Y' a → Y a ∨ H a = none := fun a z => by
    rcases g.yn a z with q | q | q
    · exact .inl q
    · exact .inr q
    · exfalso
      obtain ⟨i, d, q1, q2⟩ := (ow0 a).mp q
      have s := shp i d q1
      rw [q1] at s
      match w : env'[i]?, s with
      | some (.own d'), s =>
        refine (R'.ownY w (a := a) ?_).1 z
        exact q2.imp (fun q2 => by rw [sts i d q1]; exact q2) (s a)
      | some (.dat d'), s =>
        obtain ⟨u, hu, rd⟩ := R'.dat i d' w
        rcases q2 with q2 | q2
        · rw [← sts i d q1] at q2
          rw [q2] at hu; cases hu
          exact rd.ref_not s.1 (.inl z)
        · rw [s.2] at q2; cases q2
  refine ⟨⟨by rw [outs_len]; simpa using hl, fun i d q => ?_, fun i d q => ?_, R'.yim, fun i j d e p q1 q2 w1 w2 => ?_, fun i d q e m => R'.ony i d q (bk i d e).2 m⟩, ⟨fun a o h n => g.keep a o h fun z => n ((ow0 a).mp z), g.ky, g.yu, fun a z => (y3 a z).imp id .inl, fun a z => ?_, g.live, fun _ _ => rfl, fun i _ => outs_sh i lenE (shp i), rfl⟩, y3, ?_⟩
  · rcases outs_get q lenE with ⟨e, a1, b1⟩ | ⟨a1, _⟩
    · obtain ⟨u, hu, rd⟩ := R'.dat i d b1
      exact ⟨u, by rw [← sts i e a1]; exact hu, rd.less pwF⟩
    · obtain ⟨u, hu, rd⟩ := R.dat i d a1
      refine ⟨u, hu, ((rd.less (P' := Pw Y (L2.start N vs) (start0 N.length avs)) fun a z => z.imp id (ow0 a).mp).go gd fun _ z => .inr z).less pwF⟩
  · obtain ⟨⟨e, a1⟩, b1⟩ := bk i d q
    obtain ⟨p, hp, n, ro⟩ := R'.own i d b1
    exact ⟨p, by rw [← sts i e a1]; exact hp, n, ro.less pwF⟩
  · obtain ⟨⟨e1, a1⟩, b1⟩ := bk i d q1
    obtain ⟨⟨e2, a2⟩, b2⟩ := bk j e q2
    exact R'.inj i j d e p b1 b2 (w1.congr (sts i e1 a1).symm) (w2.congr (sts j e2 a2).symm)
  · exact (g.ow a (owF a z)).imp (ow0 a).mp id
  · match r, hr, ok with
    | .dat d, _, ok =>
      obtain ⟨ey, rd⟩ := ok
      subst ey
      exact ⟨rfl, rd.less pwF⟩
    | .new d, _, ok =>
      obtain ⟨p, e, ey, n, ro⟩ := ok
      refine ⟨p, e, ey, fun z => n (z.imp id (owF p)), ro.less pwF⟩
    | .nrg ks es d, _, ok =>
      obtain ⟨p, e, ey, n, ro⟩ := ok
      refine ⟨p, e, ey, fun a m z => n a m (z.imp id (owF a)), ro.less pwF⟩
    | .at i, hr, _ => exact absurd rfl (hr i)
/-- THE RULE for a def: its body's reading -/
theorem fn_of {x qual : Str} {st : Stmt} {f : Addr} {fd : FuncData} {N ps : List Str} {k : Nat} {S : ASp} {B : Nat → Bool} {a : AS'} (F : Fun K x qual st f fd) (Sc : FnScope N ps (defScope st)) (hlen : ps.length ≤ N.length)
    (hbody : ∀ (cdv : Value) (A : Around) (outer : List Env) (s : Shared) (H : Hp) (E : XK), Room k (A.deeper (PyProof.Rows.envOfC qual (defScope st) s.heap.objs.size f cdv)) →
      ASs (cxOf CX0 P w K mg base N qual (defScope st) f cdv A outer s H E).nox B (defBody st) a)
    (hspec : ∀ avs R, S avs R → avs.length = ps.length ∧ (∀ (i : Nat) (d : D), avs[i]? = some (.own d) → B i = true) ∧
      a { nx := fun env => R (.dat .non) (outs avs env), rt := fun r env => (∀ i, r ≠ .at i) ∧ R r (outs avs env) } (start0 N.length avs)) :
    FnOk P w K mg base CX0 (k + 1) f fd ps (toSp K S) := by
  refine F.ok Sc (fun vs H Q E h => ?_) (fun cdv A outer s H vs Q E hr h => ?_)
  · obtain ⟨Y, avs, R, rep, hs, _⟩ := h
    have := (hspec avs R hs).1
    have hl : vs.length = avs.length := by simpa using rep.len
    omega
  · obtain ⟨Y, avs, R, rep, hs, fin⟩ := h
    obtain ⟨h1, h2, h3⟩ := hspec avs R hs
    have hN : avs.length ≤ N.length := by omega
    obtain ⟨t, p, sd⟩ := hbody cdv A outer s H E hr
    refine ⟨t, p, sd Y H (L2.start N vs) (start0 N.length avs) _ _ (rep.start hN) h3 ⟨fun H' σ' env' r' g q => ?_, fun v H' σ' env' r Y' r' g ok q => ?_, fun H' σ' env' _ _ q => q.elim, fun H' σ' env' _ _ q => q.elim⟩⟩
    · obtain ⟨a1, a2, a3, a4⟩ := fin_body (B := B) rep hN h2 r' g (r := .dat .non) (v := .non) (fun i z => by cases z) ⟨rfl, .non⟩
      exact fin .non H' (.dat .non) _ Y a1 a2 a3 a4 (fun i z => by cases z) q
    · obtain ⟨a1, a2, a3, a4⟩ := fin_body (B := B) rep hN h2 r' g (r := r) (v := v) q.1 ok
      exact fin v H' r _ Y' a1 a2 a3 a4 q.1 q.2
end
end AL
namespace AL
open PySem L2
/-! AL13: calls of defs. -/
/-- the slots that are lent -/
def lents : List RV → List Nat
  | [] => []
  | .at i :: r => i :: lents r
  | _ :: r => lents r
/-- the parameters as they are handed in -/
def argsE (env : AEnv) : List RV → AEnv
  | [] => []
  | .dat d :: r => .dat d :: argsE env r
  | .at i :: r => (match env[i]? with | some a => a | none => .un) :: argsE env r
  | .new _ :: r => .un :: argsE env r
  | .nrg _ _ _ :: r => .un :: argsE env r
/-- the lent ones come back -/
def backE (env : AEnv) : List RV → AEnv → AEnv
  | .at i :: r, a :: as => backE (env.set i a) r as
  | _ :: r, _ :: as => backE env r as
  | _, _ => env
def lentOk (env : AEnv) (rs : List RV) : Prop := (lents rs).Nodup ∧ ∀ i ∈ lents rs, ∃ d, env[i]? = some (.own d)
@[irreducible] def callR (S : ASp) (rs : List RV) (env : AEnv) (R : RV → AEnv → Prop) : Prop := lentOk env rs ∧ S (argsE env rs) fun r avs' => R r (backE env rs avs')
def aFn (S : ASp) (t : AA') : AE' := fun env R => t env fun rs env1 => callR S rs env1 R
theorem argsE_len (env : AEnv) : ∀ rs : List RV, (argsE env rs).length = rs.length
  | [] => rfl
  | .dat d :: r => congrArg Nat.succ (argsE_len env r)
  | .at i :: r => congrArg Nat.succ (argsE_len env r)
  | .new d :: r => congrArg Nat.succ (argsE_len env r)
  | .nrg _ _ _ :: r => congrArg Nat.succ (argsE_len env r)
theorem backE_len : ∀ (env : AEnv) (rs : List RV) (as : AEnv), (backE env rs as).length = env.length
  | env, .at i :: r, a :: as => by rw [backE, backE_len, List.length_set]
  | env, .dat _ :: r, a :: as => backE_len env r as
  | env, .new _ :: r, a :: as => backE_len env r as
  | env, .nrg _ _ _ :: r, a :: as => backE_len env r as
  | env, [], _ => by simp [backE]
  | env, .at i :: r, [] => rfl
  | env, .dat i :: r, [] => rfl
  | env, .new i :: r, [] => rfl
  | env, .nrg _ _ _ :: r, [] => rfl
theorem backE_out : ∀ {env : AEnv} {rs : List RV} {as : AEnv} {i : Nat}, i ∉ lents rs → (backE env rs as)[i]? = env[i]?
  | env, .at j :: r, a :: as, i, h => by
    rw [backE, backE_out (fun z => h (by simp [lents, z])), List.getElem?_set_ne (fun e => h (by simp [lents, e]))]
  | env, .dat _ :: r, a :: as, i, h => backE_out (rs := r) (as := as) h
  | env, .new _ :: r, a :: as, i, h => backE_out (rs := r) (as := as) h
  | env, .nrg _ _ _ :: r, a :: as, i, h => backE_out (rs := r) (as := as) h
  | env, [], _, i, h => by simp [backE]
  | env, .at j :: r, [], i, h => rfl
  | env, .dat j :: r, [], i, h => rfl
  | env, .new j :: r, [], i, h => rfl
  | env, .nrg _ _ _ :: r, [], i, h => rfl
theorem backE_in : ∀ {env : AEnv} {rs : List RV} {as : AEnv} {j i : Nat} {a : AV}, (lents rs).Nodup → rs[j]? = some (.at i) → as[j]? = some a → i < env.length → (backE env rs as)[i]? = some a
  | env, .at k :: r, b :: as, 0, i, a, n, h, e, l => by
    simp only [List.getElem?_cons_zero, Option.some.injEq] at h e
    cases h
    subst e
    rw [backE, backE_out (List.nodup_cons.mp n).1, List.getElem?_set_self l]
  | env, .dat k :: r, b :: as, 0, i, a, n, h, e, l => by simp at h
  | env, .new k :: r, b :: as, 0, i, a, n, h, e, l => by simp at h
  | env, .nrg _ _ _ :: r, b :: as, 0, i, a, n, h, e, l => by simp at h
  | env, .at k :: r, b :: as, j + 1, i, a, n, h, e, l => by
    rw [backE]
    exact backE_in (j := j) (List.nodup_cons.mp n).2 (by simpa using h) (by simpa using e) (by rw [List.length_set]; exact l)
  | env, .dat k :: r, b :: as, j + 1, i, a, n, h, e, l => backE_in (rs := r) (as := as) (j := j) n (by simpa using h) (by simpa using e) l
  | env, .new k :: r, b :: as, j + 1, i, a, n, h, e, l => backE_in (rs := r) (as := as) (j := j) n (by simpa using h) (by simpa using e) l
  | env, .nrg _ _ _ :: r, b :: as, j + 1, i, a, n, h, e, l => backE_in (rs := r) (as := as) (j := j) n (by simpa using h) (by simpa using e) l
  | env, [], _, j, i, a, n, h, e, l => by simp at h
  | env, _ :: _, [], j, i, a, n, h, e, l => by simp at e
theorem lents_mem : ∀ {rs : List RV} {i : Nat}, i ∈ lents rs ↔ ∃ j : Nat, rs[j]? = some (.at i)
  | [], i => by simp [lents]
  | .at k :: r, i => by
    simp only [lents, List.mem_cons]
    constructor
    · rintro (h | h)
      · subst h; exact ⟨0, rfl⟩
      · obtain ⟨j, e⟩ := lents_mem.mp h
        exact ⟨j + 1, e⟩
    · rintro ⟨j, e⟩
      cases j with
      | zero => simp at e; exact .inl e.symm
      | succ j => exact .inr (lents_mem.mpr ⟨j, by simpa using e⟩)
  | .dat k :: r, i => by
    simp only [lents]
    constructor
    · intro h
      obtain ⟨j, e⟩ := lents_mem.mp h
      exact ⟨j + 1, e⟩
    · rintro ⟨j, e⟩
      cases j with
      | zero => simp at e
      | succ j => exact lents_mem.mpr ⟨j, by simpa using e⟩
  | .new k :: r, i => by
    simp only [lents]
    constructor
    · intro h
      obtain ⟨j, e⟩ := lents_mem.mp h
      exact ⟨j + 1, e⟩
    · rintro ⟨j, e⟩
      cases j with
      | zero => simp at e
      | succ j => exact lents_mem.mpr ⟨j, by simpa using e⟩
  | .nrg _ _ _ :: r, i => by
    simp only [lents]
    constructor
    · intro h
      obtain ⟨j, e⟩ := lents_mem.mp h
      exact ⟨j + 1, e⟩
    · rintro ⟨j, e⟩
      cases j with
      | zero => simp at e
      | succ j => exact lents_mem.mpr ⟨j, by simpa using e⟩
theorem lents_inj : ∀ {rs : List RV} {j k i : Nat}, (lents rs).Nodup → rs[j]? = some (.at i) → rs[k]? = some (.at i) → j = k
  | .at m :: r, 0, 0, i, n, _, _ => rfl
  | .at m :: r, 0, k + 1, i, n, h, e => by
    simp at h
    subst h
    exact ((List.nodup_cons.mp n).1 (lents_mem.mpr ⟨k, by simpa using e⟩)).elim
  | .at m :: r, j + 1, 0, i, n, h, e => by
    simp at e
    subst e
    exact ((List.nodup_cons.mp n).1 (lents_mem.mpr ⟨j, by simpa using h⟩)).elim
  | .at m :: r, j + 1, k + 1, i, n, h, e => congrArg Nat.succ (lents_inj (List.nodup_cons.mp n).2 (by simpa using h) (by simpa using e))
  | .dat m :: r, 0, _, i, n, h, e => by simp at h
  | .dat m :: r, _ + 1, 0, i, n, h, e => by simp at e
  | .dat m :: r, j + 1, k + 1, i, n, h, e => congrArg Nat.succ (lents_inj (rs := r) n (by simpa using h) (by simpa using e))
  | .new m :: r, 0, _, i, n, h, e => by simp at h
  | .nrg _ _ _ :: r, 0, _, i, n, h, e => by simp at h
  | .new m :: r, _ + 1, 0, i, n, h, e => by simp at e
  | .nrg _ _ _ :: r, _ + 1, 0, i, n, h, e => by simp at e
  | .new m :: r, j + 1, k + 1, i, n, h, e => congrArg Nat.succ (lents_inj (rs := r) n (by simpa using h) (by simpa using e))
  | .nrg _ _ _ :: r, j + 1, k + 1, i, n, h, e => congrArg Nat.succ (lents_inj (rs := r) n (by simpa using h) (by simpa using e))
  | [], _, _, i, n, h, e => by simp at h
theorem argsE_get : ∀ {env : AEnv} {rs : List RV} {j : Nat} {r : RV}, rs[j]? = some r → (argsE env rs)[j]? = some (match r with | .dat d => .dat d | .at i => (match env[i]? with | some a => a | none => .un) | .new _ => .un | .nrg _ _ _ => .un)
  | env, .dat d :: rs, 0, r, h => by simp at h; subst h; rfl
  | env, .at d :: rs, 0, r, h => by simp at h; subst h; rfl
  | env, .new d :: rs, 0, r, h => by simp at h; subst h; rfl
  | env, .nrg _ _ _ :: rs, 0, r, h => by simp at h; subst h; rfl
  | env, .dat d :: rs, j + 1, r, h => by
    have := argsE_get (env := env) (rs := rs) (j := j) (r := r) (by simpa using h)
    simpa [argsE] using this
  | env, .at d :: rs, j + 1, r, h => by
    have := argsE_get (env := env) (rs := rs) (j := j) (r := r) (by simpa using h)
    simpa [argsE] using this
  | env, .new d :: rs, j + 1, r, h => by
    have := argsE_get (env := env) (rs := rs) (j := j) (r := r) (by simpa using h)
    simpa [argsE] using this
  | env, .nrg _ _ _ :: rs, j + 1, r, h => by
    have := argsE_get (env := env) (rs := rs) (j := j) (r := r) (by simpa using h)
    simpa [argsE] using this
  | env, [], j, r, h => by simp at h
section
variable {K : Fg} {σ : L2.St} {Y : Ad} {env : AEnv} {H : Hp}
theorem ArgsOk.len : ∀ {vs : List V} {rs : List RV}, ArgsOk K H Y σ env vs rs → vs.length = rs.length
  | _, _, .nil => rfl
  | _, _, .cons _ r => congrArg Nat.succ r.len
theorem ArgsOk.get : ∀ {vs : List V} {rs : List RV} {j : Nat} {r : RV}, ArgsOk K H Y σ env vs rs → rs[j]? = some r → ∃ v, vs[j]? = some v ∧ ResOk K H Y Y σ env v r
  | _, _, 0, r, .cons h _, e => by simp at e; subst e; exact ⟨_, rfl, h⟩
  | _, _, j + 1, r, .cons _ t, e => by
    obtain ⟨v, a, b⟩ := ArgsOk.get (j := j) (r := r) t (by simpa using e)
    exact ⟨v, by simpa using a, b⟩
  | _, _, j, r, .nil, e => by simp at e
/-- a call by a promise over data -/
theorem call_ok {S : ASp} {rs : List RV} {vs : List V} {R : RV → AEnv → Prop} {Q : VK} (rep : Rep K Y H σ env) (ok : ArgsOk K H Y σ env vs rs) (q : callR S rs env R)
    (k : ∀ v H' env' r Y', Rep K Y' H' σ env' → Adv σ Y env H Y' env' H' → ResOk K H' Y Y' σ env' v r → R r env' → Q v H') (E : XK) : toSp K S vs H Q E := by
  unfold callR at q
  obtain ⟨⟨nd, low⟩, q⟩ := q
  -- the address lent at a place
  have lent : ∀ {j i : Nat}, rs[j]? = some (.at i) → ∃ p d, vs[j]? = some (.ref p) ∧ σ[i]? = some (some (.ref p)) ∧ env[i]? = some (.own d) ∧ ¬ Y p ∧ RO K H (Pw Y σ env) p d := fun {j i} h => by
    obtain ⟨v, hv, o⟩ := ok.get h
    obtain ⟨d, hd⟩ := low i (lents_mem.mpr ⟨j, h⟩)
    obtain ⟨p, hp, np, ro⟩ := rep.own i d hd
    have hs := o.2.1
    rw [hp] at hs
    cases hs
    exact ⟨p, d, hv, hp, hd, np, ro⟩
  -- what is owned there is owned here
  have conv : ∀ {j i : Nat} {d : D} {a : Addr}, rs[j]? = some (.at i) → (OwnA (vs.map some) j d a ↔ OwnA σ i d a) := fun {j i d a} h => by
    obtain ⟨p, _, hv, hp, _⟩ := lent h
    unfold OwnA
    rw [List.getElem?_map, hv, hp]
    exact Iff.rfl
  have hl : vs.length = rs.length := ok.len
  have getr : ∀ {j : Nat} {a : AV}, (argsE env rs)[j]? = some a → ∃ r, rs[j]? = some r := fun {j a} h => by
    have : j < rs.length := by
      have := (List.getElem?_eq_some_iff.mp h).1
      rwa [argsE_len] at this
    exact ⟨rs[j], by simp [this]⟩
  -- an owned parameter is a lent slot
  have ownA : ∀ {j : Nat} {d : D}, (argsE env rs)[j]? = some (.own d) → ∃ i, rs[j]? = some (.at i) ∧ env[i]? = some (.own d) := fun {j d} h => by
    obtain ⟨r, hr⟩ := getr h
    rw [argsE_get hr] at h
    match r, h with
    | .at i, h =>
      obtain ⟨p, d', _, _, hd, _⟩ := lent hr
      simp only [hd, Option.some.injEq] at h
      exact ⟨i, hr, by rw [hd]; exact congrArg some h⟩
  let L : Addr → Prop := fun a => ∃ i d, i ∈ lents rs ∧ env[i]? = some (.own d) ∧ OwnA σ i d a
  let Yc : Ad := fun a => Pw Y σ env a ∧ ¬ L a
  have ownC : ∀ a, Own (vs.map some) (argsE env rs) a ↔ L a := fun a => by
    constructor
    · rintro ⟨j, d, h, w⟩
      obtain ⟨i, hr, hd⟩ := ownA h
      exact ⟨i, d, lents_mem.mpr ⟨j, hr⟩, hd, (conv hr).mp w⟩
    · rintro ⟨i, d, hi, hd, w⟩
      obtain ⟨j, hr⟩ := lents_mem.mp hi
      exact ⟨j, d, by rw [argsE_get hr]; simp [hd], (conv hr).mpr w⟩
  have lOwn : ∀ a, L a → Own σ env a := fun a ⟨i, d, hi, hd, w⟩ => ⟨i, d, hd, w⟩
  have lPw : ∀ a, L a → Pw Y σ env a := fun a z => .inr (lOwn a z)
  have pwC : ∀ a, Pw Yc (vs.map some) (argsE env rs) a ↔ Pw Y σ env a := fun a => by
    constructor
    · rintro (z | z)
      · exact z.1
      · exact lPw a ((ownC a).mp z)
    · intro z
      by_cases h : L a
      · exact .inr ((ownC a).mpr h)
      · exact .inl ⟨z, h⟩
  have tracked : ∀ a, Pw Y σ env a → ∃ o, H a = some o ∧ Mut (some o) := fun a z => by
    rcases z with z | ⟨i, d, e, w⟩
    · exact rep.yim a z
    · exact (rep.ownY e w).2
  have repC : Rep K Yc H (vs.map some) (argsE env rs) := by
    refine ⟨by rw [List.length_map, argsE_len, hl], fun j d h => ?_, fun j d h => ?_, fun a z => tracked a z.1, fun j m d e p h1 h2 w1 w2 => ?_, fun j d a h m z => ?_⟩
    · obtain ⟨r, hr⟩ := getr h
      obtain ⟨v, hv, o⟩ := ok.get hr
      rw [argsE_get hr] at h
      match r, o, h, hr with
      | .dat d', o, h, hr =>
        cases h
        exact ⟨v, by rw [List.getElem?_map, hv]; rfl, o.2.less fun a z => (pwC a).mp z⟩
      | .at i, o, h, hr =>
        obtain ⟨p, d', _, _, hd, _⟩ := lent hr
        simp only [hd] at h
        cases h
    · obtain ⟨i, hr, hd⟩ := ownA h
      obtain ⟨p, d', hv, hp, hd', np, ro⟩ := lent hr
      rw [hd] at hd'; cases hd'
      exact ⟨p, by rw [List.getElem?_map, hv]; rfl, fun z => z.2 ⟨i, d, lents_mem.mpr ⟨j, hr⟩, hd, .inl hp⟩, ro.less fun a z => (pwC a).mp z⟩
    · obtain ⟨i1, hr1, hd1⟩ := ownA h1
      obtain ⟨i2, hr2, hd2⟩ := ownA h2
      have := rep.inj i1 i2 d e p hd1 hd2 ((conv hr1).mp w1) ((conv hr2).mp w2)
      subst this
      exact lents_inj nd hr1 hr2
    · obtain ⟨i, hr, hd⟩ := ownA h
      exact z.2 ⟨i, d, lents_mem.mpr ⟨j, hr⟩, hd, .inr m⟩
  refine ⟨Yc, argsE env rs, _, repC, q, fun v H' r avs' Yc' repc advc yc okc noat q' => ?_⟩
  -- what the result adds
  have goC := advc.go repC
  have yk : ∀ a, Yc a → H' a = H a := advc.ky
  have yy : ∀ a, Y a → Yc a := fun a z => ⟨.inl z, fun ⟨i, d, hi, hd, w⟩ => (rep.ownY hd w).1 z⟩
  have lav : avs'.length = rs.length := by
    have := repc.len
    rw [List.length_map] at this
    omega
  have bin : ∀ {j i : Nat}, rs[j]? = some (.at i) → ∃ a, avs'[j]? = some a ∧ (backE env rs avs')[i]? = some a := fun {j i} h => by
    have hj : j < avs'.length := by
      rw [lav]
      exact (List.getElem?_eq_some_iff.mp h).1
    obtain ⟨p, d, _, _, hd, _⟩ := lent h
    exact ⟨avs'[j], by simp [hj], backE_in nd h (by simp [hj]) (List.getElem?_eq_some_iff.mp hd).1⟩
  have fin : ∀ (Y' : Ad), (∀ a, Y' a → Yc' a) → (∀ a, Y a → Y' a) → (∀ a, Y' a → Y a ∨ H a = none) → Rep K Y' H' σ (backE env rs avs') ∧ Adv σ Y env H Y' (backE env rs avs') H' ∧ (∀ a, Own σ (backE env rs avs') a → Yc a ∨ Own (vs.map some) avs' a) := fun Y' y1 y2 y3 => by
    have slot : ∀ (i : Nat) (a : AV), (backE env rs avs')[i]? = some a → (i ∉ lents rs ∧ env[i]? = some a) ∨ ∃ j : Nat, rs[j]? = some (.at i) ∧ avs'[j]? = some a := fun i a h => by
      by_cases hi : i ∈ lents rs
      · obtain ⟨j, hr⟩ := lents_mem.mp hi
        obtain ⟨b, h1, h2⟩ := bin hr
        rw [h2] at h
        exact .inr ⟨j, hr, by rw [h1]; exact h⟩
      · rw [backE_out hi] at h
        exact .inl ⟨hi, h⟩
    have notL : ∀ {i : Nat} {d : D} {p : Addr}, i ∉ lents rs → env[i]? = some (.own d) → OwnA σ i d p → Yc p := fun {i d p} hi h w => by
      refine ⟨.inr ⟨i, d, h, w⟩, fun ⟨m, e, hm, he, w2⟩ => ?_⟩
      exact hi (rep.inj i m d e p h he w w2 ▸ hm)
    have owB : ∀ a, Own σ (backE env rs avs') a → Yc a ∨ Own (vs.map some) avs' a := fun a ⟨i, d, h, w⟩ => by
      rcases slot i _ h with ⟨hi, h'⟩ | ⟨j, hr, h'⟩
      · exact .inl (notL hi h' w)
      · exact .inr ⟨j, d, h', (conv hr).mpr w⟩
    have pwB : ∀ a, Pw Y' σ (backE env rs avs') a → Pw Yc' (vs.map some) avs' a := fun a z => by
      rcases z with z | z
      · exact .inl (y1 a z)
      · rcases owB a z with z | z
        · exact .inl (advc.yu a z)
        · exact .inr z
    have move : ∀ {v : V} {d : D}, RD K H (Pw Y σ env) v d → RD K H' (Pw Y' σ (backE env rs avs')) v d := fun {v d} r => (((r.less fun a z => (pwC a).mp z).go goC fun a z => .inr z).less pwB)
    refine ⟨⟨by rw [backE_len]; exact rep.len, fun i d h => ?_, fun i d h => ?_, fun a z => ?_, fun i m d e p h1 h2 w1 w2 => ?_, fun i d a h m z => ?_⟩, ⟨fun a o h n => advc.keep a o h fun z => ?_, fun a z => yk a (yy a z), y2, y3, fun i => ?_, fun a z => ?_, advc.live⟩, owB⟩
    · rcases slot i _ h with ⟨hi, h'⟩ | ⟨j, hr, h'⟩
      · obtain ⟨v, w, r⟩ := rep.dat i d h'
        exact ⟨v, w, move r⟩
      · obtain ⟨v, w, r⟩ := repc.dat j d h'
        obtain ⟨p, _, hv, hp, _⟩ := lent hr
        rw [List.getElem?_map, hv] at w
        cases w
        exact ⟨_, hp, r.less pwB⟩
    · rcases slot i _ h with ⟨hi, h'⟩ | ⟨j, hr, h'⟩
      · obtain ⟨p, w, n, ro⟩ := rep.own i d h'
        have yp := notL hi h' (.inl w)
        refine ⟨p, w, fun z => ?_, (RO.go goC (fun a z => .inr z) (yk p yp) (fun q m => yk q (notL hi h' (.inr m))) (ro.less fun a z => (pwC a).mp z)).less pwB⟩
        rcases y3 p z with z | z
        · exact n z
        · obtain ⟨o, e, _⟩ := ro.some
          rw [e] at z; cases z
      · obtain ⟨p, w, n, ro⟩ := repc.own j d h'
        obtain ⟨p', _, hv, hp, _⟩ := lent hr
        rw [List.getElem?_map, hv] at w
        cases w
        exact ⟨_, hp, fun z => n (y1 _ z), ro.less pwB⟩
    · exact repc.yim a (y1 a z)
    · have cross : ∀ {i m j2 : Nat} {d e : D}, i ∉ lents rs → env[i]? = some (.own d) → OwnA σ i d p → rs[j2]? = some (.at m) → avs'[j2]? = some (.own e) → OwnA σ m e p → False := fun {i m j2 d e} hi h1' w1 hr2 h2' w2 =>
        (repc.ownY h2' ((conv hr2).mpr w2)).1 (advc.yu p (notL hi h1' w1))
      rcases slot i _ h1 with ⟨hi, h1'⟩ | ⟨j1, hr1, h1'⟩
      · rcases slot m _ h2 with ⟨hm, h2'⟩ | ⟨j2, hr2, h2'⟩
        · exact rep.inj i m d e p h1' h2' w1 w2
        · exact (cross hi h1' w1 hr2 h2' w2).elim
      · rcases slot m _ h2 with ⟨hm, h2'⟩ | ⟨j2, hr2, h2'⟩
        · exact (cross hm h2' w2 hr1 h1' w1).elim
        · have ej := repc.inj j1 j2 d e p h1' h2' ((conv hr1).mpr w1) ((conv hr2).mpr w2)
          rw [ej, hr2] at hr1
          cases hr1
          rfl
    · rcases slot i _ h with ⟨hi, h'⟩ | ⟨j, hr, h'⟩
      · rcases y3 a z with z | z
        · exact rep.ony i d a h' m z
        · obtain ⟨_, o, e, _⟩ := rep.ownY h' (.inr m)
          rw [e] at z; cases z
      · exact repc.ony j d a h' m (y1 a z)
    · exact n (lOwn a ((ownC a).mp z))
    · by_cases hi : i ∈ lents rs
      · obtain ⟨j, hr⟩ := lents_mem.mp hi
        obtain ⟨b, h1, h2⟩ := bin hr
        obtain ⟨p, d, _, _, hd, _⟩ := lent hr
        have s := advc.pr j rfl
        rw [argsE_get hr, h1] at s
        rw [hd, h2]
        simpa [hd] using s
      · rw [backE_out hi]
        exact Sh.refl _
    · obtain ⟨i, d, h, w⟩ := z
      rcases slot i _ h with ⟨hi, h'⟩ | ⟨j, hr, h'⟩
      · exact .inl ⟨i, d, h', w⟩
      · exact (advc.ow a ⟨j, d, h', (conv hr).mpr w⟩).imp (fun z => lOwn a ((ownC a).mp z)) id
  match r, okc, q', noat with
  | .dat d, okc, q', _ =>
    obtain ⟨ey, rd⟩ := okc
    subst ey
    obtain ⟨a, b, c⟩ := fin Y yy (fun _ z => z) fun _ z => .inl z
    refine k v H' _ (.dat d) Y a b ⟨rfl, rd.less fun x z => ?_⟩ q'
    rcases z with z | z
    · exact .inl (yy x z)
    · exact (c x z).imp id id
  | .new d, okc, q', _ =>
    obtain ⟨p, e, ey, n, ro⟩ := okc
    have nY : ∀ a, a = p → H a = none := fun a z => by
      subst z
      rcases yc a (by rw [ey]; exact .inr rfl) with w | w
      · exact (n (.inl w)).elim
      · exact w
    obtain ⟨a, b, c⟩ := fin (fun a => Y a ∨ a = p) (fun a z => by rw [ey]; exact z.imp (yy a) id) (fun _ z => .inl z) fun a z => z.imp id (nY a)
    refine k v H' _ (.new d) _ a b ⟨p, e, rfl, fun z => ?_, ro.less fun x z => ?_⟩ q'
    · rcases z with z | z
      · exact n (.inl (yy p z))
      · exact n (c p z)
    · rw [ey]
      rcases z with z | z
      · exact .inl (z.imp (yy x) id)
      · rcases c x z with z | z
        · exact .inl (.inl z)
        · exact .inr z
  | .nrg ks es d, okc, q', _ =>
    obtain ⟨p, e, ey, n, ro⟩ := okc
    have nY : ∀ a, a = p ∨ a ∈ ks → H a = none := fun a z => by
      rcases yc a (by rw [ey]; exact .inr z) with w | w
      · exact (n a z (.inl w)).elim
      · exact w
    obtain ⟨a, b, c⟩ := fin (fun a => Y a ∨ (a = p ∨ a ∈ ks)) (fun a z => by rw [ey]; exact z.imp (yy a) id) (fun _ z => .inl z) fun a z => z.imp id (nY a)
    refine k v H' _ (.nrg ks es d) _ a b ⟨p, e, rfl, fun x m z => ?_, ro.less fun x z => ?_⟩ q'
    · rcases z with z | z
      · exact n x m (.inl (yy x z))
      · exact n x m (c x z)
    · rw [ey]
      rcases z with z | z
      · exact .inl (z.imp (yy x) id)
      · rcases c x z with z | z
        · exact .inl (.inl z)
        · exact .inr z
  | .at i, okc, q', noat => exact absurd rfl (noat i)
end
section
variable {X : Cx} {x : Str} {p pos : Pos} {e : Expr} {es : List Expr} {t : AA'} {S : ASp} {k : Nat} {f : Addr} {fd : FuncData} {ps : List Str}
theorem ae_fn (F : FnOk X.prog X.w X.K X.mg X.base CX0 k f fd ps (toSp X.K S)) (hr : Room k X.A) (hg : Gl X x) (hm : X.mg x = some (.ref f)) (hk : PySem.W.keepIn X.K (.ref f) = true) (hb : Binds X.K fd ps []) (ha : AA X (e :: es) t) (hdb : (x == ("__debug__" : Str)) = false := by decide)
    (he : starEach (e :: es) X.env = (false, eval e X.env) :: starEach es X.env := by rfl) (hpl : (backTo pos (starEach es X.env)).any (·.1) = false := by rfl) : AE X (.Call (.Name x p) (e :: es) [] pos) (aFn S t) := by
  obtain ⟨u, pa, s⟩ := ha
  refine ⟨_, pe_call F hr hg hm hk hb .nil pass0 pa hdb he hpl, fun Y H σ env R Q rep q k => ?_⟩
  refine s Y H σ env _ _ rep q fun vs H' env' rs rep' g ok q' => ?_
  rw [List.append_nil]
  exact call_ok rep' ok q' (fun v H2 env2 r Y2 rep2 g2 ok2 q2 => k v H2 env2 r Y2 rep2 (g.trans g2) ok2 q2) _
end
end AL
namespace AL
open PySem L2
/-! AL14: built-in functions of one thing that is read, methods, fields, instances. -/
abbrev Op1 := D → (RV → Prop) → Prop
def Rd1S (K : Fg) (r : List V → Hp → VK → Prop) (f : Op1) : Prop := ∀ (Y : Ad) (H : Hp) (σ : L2.St) (env : AEnv) (x : V) (d : D) (F : RV → Prop) (Q : VK), Rep K Y H σ env → RC K H (Pw Y σ env) x d → f d F → Fin K Y H σ env F Q → r [x] H Q
/-- a thing is read: not handed over -/
def aRd (f : Op1) (a : AE') : AE' := fun env R => a env fun r env1 => match val env1 r with
  | some d => f d fun z => R z env1
  | none => False
theorem snd_rd {K : Fg} {r : List V → Hp → VK → Prop} {f : Op1} {t : TE} {a : AE'} (o : Rd1S K r f) (s : Snd K t a) : Snd K (tCB r (tCons t tNil)) (aRd f a) := by
  intro Y H σ env R Q rep q k
  refine s Y H σ env _ _ rep q fun v H' env' z Y' rep' g ok q' => ?_
  obtain ⟨d, e1, c⟩ := ok.rc rep'
  simp only [e1] at q'
  exact o Y H' σ env' v d _ _ (rep'.less g.yu) (c.less (pw_less g.yu)) q' fun w H2 z2 Y2 rep2 g2 ok2 q2 => k w H2 env' z2 Y2 rep2 (g.drop.trans g2) ok2 q2
section
variable {X : Cx} {x : Str} {p pos : Pos} {e : Expr} {a : AE'} {f : Op1}
theorem ae_rdB {id : String} {r : List V → Hp → VK → Prop} (hc : CallR X (.builtin id) r) (o : Rd1S X.K r f) (hg : Gl X x) (hm : X.mg x = none) (hv : bootBuiltins x = some (.builtin id)) (ha : AE X e a) (hn : x ≠ "__name__" := by decide) (hdb : (x == ("__debug__" : Str)) = false := by decide)
    (he : starEach [e] X.env = (false, eval e X.env) :: starEach [] X.env := by rfl) : AE X (.Call (.Name x p) [e] [] pos) (aRd f a) := by
  obtain ⟨u, pe, s⟩ := ha
  exact ⟨_, pe_callB hc hg hm hv (pa_cons pe pa_nil he) hn hdb he rfl, snd_rd o s⟩
theorem ae_rdT {T : String} {r : List V → Hp → VK → Prop} (hc : CallR X (.type T) r) (o : Rd1S X.K r f) (hg : Gl X x) (hm : X.mg x = none) (hv : bootBuiltins x = some (.type T)) (ha : AE X e a) (hn : x ≠ "__name__" := by decide) (hdb : (x == ("__debug__" : Str)) = false := by decide)
    (he : starEach [e] X.env = (false, eval e X.env) :: starEach [] X.env := by rfl) : AE X (.Call (.Name x p) [e] [] pos) (aRd f a) := by
  obtain ⟨u, pe, s⟩ := ha
  exact ⟨_, pe_callTy hc hg hm hv (pa_cons pe pa_nil he) hn hdb he rfl, snd_rd o s⟩
end
/-! len -/
def fLen : Op1 := fun d F => match d with
  | .lst l => F (.dat (.int l.length))
  | .tup l => F (.dat (.int l.length))
  | .str z => z.length ≤ sizeLine ∧ F (.dat (.int z.length))
  | _ => False
abbrev rLen1 (K : Fg) : List V → Hp → VK → Prop := fun xs H Q => ∃ x n, xs = [x] ∧ LenV K x H n ∧ Q (.int n) H
theorem rs_len (K : Fg) : Rd1S K (rLen1 K) fLen := by
  intro Y H σ env x d F Q R c f k
  match d, c, f with
  | .lst l, c, f =>
    obtain ⟨p, us, e, h, r, _⟩ := c.lst
    subst e
    refine ⟨_, us.length, rfl, .inl ⟨us, .of h, rfl⟩, ?_⟩
    rw [r.length]
    exact fin_dat R k (.int _) f
  | .tup l, c, f =>
    obtain ⟨p, us, e, h, r, _, _⟩ := c.tup
    subst e
    refine ⟨_, us.length, rfl, .inr ⟨us, h, rfl⟩, ?_⟩
    rw [r.length]
    exact fin_dat R k (.int _) f
  | .str z, c, f =>
    rw [c.str]
    exact ⟨_, z.length, rfl, ⟨f.1, rfl⟩, fin_dat R k (.int _) f.2⟩
/-! int -/
def fInt : Op1 := fun d F => match d with
  | .int i => F (.dat (.int i))
  | .bl b => F (.dat (.int (if b then 1 else 0)))
  | _ => False
theorem rs_int (K : Fg) : Rd1S K (fun xs H Q => (∃ i, xs = [.int i] ∧ Q (.int i) H) ∨ ∃ k, xs = [.bl k] ∧ Q (.int (if k then 1 else 0)) H) fInt := by
  intro Y H σ env x d F Q R c f k
  match d, c, f with
  | .int i, c, f => rw [c.int]; exact .inl ⟨i, rfl, fin_dat R k (.int _) f⟩
  | .bl b, c, f => rw [c.bl]; exact .inr ⟨b, rfl, fin_dat R k (.int _) f⟩
/-! list, tuple -/
def fList : Op1 := fun d F => match d with
  | .lst l => F (.new (.lst l))
  | .tup l => F (.new (.lst l))
  | _ => False
def fTuple : Op1 := fun d F => match d with
  | .lst l => F (.dat (.tup l))
  | .tup l => F (.dat (.tup l))
  | _ => False
theorem rs_list (K : Fg) : Rd1S K (fun xs H Q => ∃ p ys, xs = [.ref p] ∧ (SqL K H p ys ∨ SqT K H p ys) ∧ ∀ l, H l = none → Q (.ref l) (upd H l (.lst ys))) fList := by
  intro Y H σ env x d F Q R c f k
  match d, c, f with
  | .lst l, c, f =>
    obtain ⟨p, us, e, h, r, hl⟩ := c.lst
    subst e
    exact ⟨p, us, rfl, .inl (.of h), fun q n => fin_lst R k r hl f n⟩
  | .tup l, c, f =>
    obtain ⟨p, us, e, h, r, _, hl⟩ := c.tup
    subst e
    exact ⟨p, us, rfl, .inr h, fun q n => fin_lst R k r hl f n⟩
theorem rs_tuple (K : Fg) : Rd1S K (fun xs H Q => ∃ p ys, xs = [.ref p] ∧ ((SqL K H p ys ∧ ∀ l, H l = none → Q (.ref l) (upd H l (.tup ys))) ∨ (SqT K H p ys ∧ Q (.ref p) H))) fTuple := by
  intro Y H σ env x d F Q R c f k
  match d, c, f with
  | .lst l, c, f =>
    obtain ⟨p, us, e, h, r, hl⟩ := c.lst
    subst e
    exact ⟨p, us, rfl, .inl ⟨.of h, fun q n => fin_tup R k r hl f n⟩⟩
  | .tup l, c, f =>
    obtain ⟨p, us, e, h, r, rd, hl⟩ := c.tup
    subst e
    exact ⟨p, us, rfl, .inr ⟨h, fin_dat R k rd f⟩⟩
/-! all, any -/
def fAll : Op1 := fun d F => match d with
  | .lst l => ∃ bs : List Bool, l = bs.map D.bl ∧ F (.dat (.bl (bs.all id)))
  | _ => False
def fAny : Op1 := fun d F => match d with
  | .lst l => ∃ bs : List Bool, l = bs.map D.bl ∧ F (.dat (.bl (bs.any id)))
  | _ => False
theorem rs_all (K : Fg) : Rd1S K (rAll K) fAll := by
  intro Y H σ env x d F Q R c f k
  match d, c, f with
  | .lst l, c, f =>
    obtain ⟨bs, rfl, f⟩ := f
    obtain ⟨p, us, e, h, r, hl⟩ := c.lst
    subst e
    have := r.ofBls
    subst this
    exact ⟨p, bs, rfl, .of h, fin_dat R k (.bl _) f⟩
theorem rs_any (K : Fg) : Rd1S K (rAny K) fAny := by
  intro Y H σ env x d F Q R c f k
  match d, c, f with
  | .lst l, c, f =>
    obtain ⟨bs, rfl, f⟩ := f
    obtain ⟨p, us, e, h, r, hl⟩ := c.lst
    subst e
    have := r.ofBls
    subst this
    exact ⟨p, bs, rfl, .of h, fin_dat R k (.bl _) f⟩
/-! sorted of ints -/
def fSorted : Op1 := fun d F => match d with
  | .lst l => ∃ ns : List Int, l = ns.map D.int ∧ ∀ ns' : List Int, ns'.Perm ns → ns'.Pairwise (· ≤ ·) → F (.new (.lst (ns'.map D.int)))
  | _ => False
theorem rs_sorted (K : Fg) : Rd1S K (rSortedI K) fSorted := by
  intro Y H σ env x d F Q R c f k
  match d, c, f with
  | .lst l, c, f =>
    obtain ⟨ns, rfl, f⟩ := f
    obtain ⟨p, us, e, h, r, hl⟩ := c.lst
    subst e
    have := r.ofInts
    subst this
    refine ⟨p, ns, rfl, .of h, fun ns' q pm pw n => fin_lst R k (RDs.ints ns') ?_ (f ns' pm pw) n⟩
    have := pm.length_eq
    rw [List.length_map] at hl ⊢
    omega
/-! isinstance with a built-in type -/
def tyD : D → Option String
  | .non => some "NoneType"
  | .bl _ => some "bool"
  | .int _ => some "int"
  | .str _ => some "str"
  | .tup _ => some "tuple"
  | .lst _ => some "list"
  | .dic _ _ => some "dict"
  | _ => none
def aIsi (T : String) (a : AE') : AE' := fun env R => a env fun r env1 => match val env1 r with
  | some d => ∃ ty b, tyD d = some ty ∧ kitB ty T = some b ∧ R (.dat (.bl b)) env1
  | none => False
theorem RC.ty {K : Fg} {H : Hp} {P : Ad} {v : V} {d : D} {ty : String} (c : RC K H P v d) (h : tyD d = some ty) : TyX K H v (.type ty) := by
  match d, c, h with
  | .non, c, h => cases h; rw [c.non]; exact .base .non
  | .bl b, c, h => cases h; rw [c.bl]; exact .base (.bl b)
  | .int b, c, h => cases h; rw [c.int]; exact .base (.int b)
  | .str b, c, h => cases h; rw [c.str]; exact .base (.str b)
  | .lst l, c, h =>
    cases h
    obtain ⟨p, us, e, h, r, _⟩ := c.lst
    subst e
    exact .base (.lst h)
  | .tup l, c, h =>
    cases h
    obtain ⟨p, us, e, h, r, _, _⟩ := c.tup
    subst e
    rcases h with (h | ⟨o, h⟩) | ⟨o, its, n, h1, h2, _⟩
    · exact .base (.tup h)
    · exact .fTuple h
    · exact .kTuple h1 h2
  | .dic l m, c, h =>
    cases h
    obtain ⟨p, e, kvs, h, _⟩ := c.dic
    subst e
    rcases h with h | ⟨o, h⟩
    · exact .base (.dK h)
    · exact .fDict h
theorem ae_isi {X : Cx} {e : Expr} {a : AE'} {T : String} {y : Str} {p p2 pos : Pos} (ha : AE X e a) (hg : Gl X "isinstance") (hm : X.mg "isinstance" = none) (gT : Gl X y) (mT : X.mg y = none) (vT : bootBuiltins y = some (.type T)) (nT : y ≠ "__name__" := by decide) (dT : (y == ("__debug__" : Str)) = false := by decide)
    (he : starEach [e, .Name y p2] X.env = (false, eval e X.env) :: starEach [.Name y p2] X.env := by rfl) (he2 : starEach [.Name y p2] X.env = (false, eval (.Name y p2) X.env) :: starEach [] X.env := by rfl) (hpl : (backTo pos (starEach [.Name y p2] X.env)).any (·.1) = false := by rfl) :
    AE X (.Call (.Name "isinstance" p) [e, .Name y p2] [] pos) (aIsi T a) := by
  obtain ⟨t, pe, s⟩ := ha
  refine ⟨_, pe_callB call_isi hg hm (by decide +kernel) (pa_cons pe (pa_cons (pe_bltn (v := .ty T) gT mT vT rfl nT dT) pa_nil he2) he) (by decide) (by decide) he hpl, fun Y H σ env R Q rep q k => ?_⟩
  refine s Y H σ env _ _ rep q fun v H' env' z Y' rep' g ok q' => ?_
  obtain ⟨d, e1, c⟩ := ok.rc rep'
  simp only [e1] at q'
  obtain ⟨ty, b, h1, h2, q'⟩ := q'
  exact ⟨v, .ty T, _, _, b, rfl, .ty T, c.ty h1, kit_ty h2, k (.bl b) H' env' (.dat (.bl b)) Y (rep'.less g.yu) g.drop ⟨rfl, .bl b⟩ q'⟩

/-! ### methods of lists -/
/-- x.append(e), x.extend(e), x.pop(e): x an owned list's name, e data -/
def aMut (i : Nat) (t : AA') (f : List D → List D → (List D → D → Prop) → Prop) : AE' := fun env R => (∃ l, env[i]? = some (.own (.lst l))) ∧ t env fun rs env1 => match env1[i]?, dats rs with
  | some (.own (.lst l)), some ds => f l ds fun l' z => R (.dat z) (env1.set i (.own (.lst l')))
  | _, _ => False
def fAppend (l : List D) (ds : List D) (N : List D → D → Prop) : Prop := match ds with
  | [d] => l.length < sizeLine ∧ N (l ++ [d]) .non
  | _ => False
def fExtend (l : List D) (ds : List D) (N : List D → D → Prop) : Prop := match ds with
  | [.lst m] => l.length + m.length ≤ sizeLine ∧ N (l ++ m) .non
  | _ => False
def fPopAt (l : List D) (ds : List D) (N : List D → D → Prop) : Prop := match ds with
  | [.int i] => -(2 ^ 63) ≤ i ∧ i < 2 ^ 63 ∧ ∃ k z, seqIndex? i l.length = some k ∧ l[k]? = some z ∧ N (l.eraseIdx k) z
  | _ => False
end AL
namespace AL
open PySem L2
/-! AL15: methods, fields, instances. -/
/-- what a method that changes an owned list does -/
def MutS (K : Fg) (r : V → List V → Hp → VK → Prop) (f : List D → List D → (List D → D → Prop) → Prop) : Prop := ∀ (Y : Ad) (H : Hp) (σ : L2.St) (env : AEnv) (i : Nat) (p : Addr) (l ds : List D) (us : List V) (N : List D → D → Prop) (Q : VK), Rep K Y H σ env →
  env[i]? = some (.own (.lst l)) → σ[i]? = some (some (.ref p)) → RDs K H (Pw Y σ env) us ds → f l ds N →
  (∀ v H' l' z, Rep K Y H' σ (env.set i (.own (.lst l'))) → Adv σ Y env H Y (env.set i (.own (.lst l'))) H' → RD K H' (Pw Y σ (env.set i (.own (.lst l')))) v z → N l' z → Q v H') → r (.ref p) us H Q
section
variable {K : Fg} {σ : L2.St} {Y : Ad} {env : AEnv} {H : Hp}
/-- an owned list is stored anew -/
theorem mut_lst {i : Nat} {p : Addr} {l l' : List D} {us' : List V} (R : Rep K Y H σ env) (h : env[i]? = some (.own (.lst l))) (hp : σ[i]? = some (some (.ref p))) (r : RDs K H (Pw Y σ env) us' l') (hl : l'.length ≤ sizeLine) :
    Rep K Y (upd H p (.lst us')) σ (env.set i (.own (.lst l'))) ∧ Adv σ Y env H Y (env.set i (.own (.lst l'))) (upd H p (.lst us')) ∧ (∀ {v : V} {d : D}, RD K H (Pw Y σ env) v d → RD K (upd H p (.lst us')) (Pw Y σ (env.set i (.own (.lst l')))) v d) := by
  have hi : i < env.length := (List.getElem?_eq_some_iff.mp h).1
  obtain ⟨a, b⟩ := R.mut (B := fun _ => false) (o := .lst us') (d1 := .lst l') h hp fun P pw g => ⟨us', upd_same, Go.rds g (fun a e => by subst e; exact .inr ⟨i, _, h, .inl hp⟩) r, by rw [r.length]; exact hl⟩
  refine ⟨a, ⟨b.keep, b.ky, b.yu, fun a z => .inl z, fun j => ?_, b.ow, b.live⟩, fun rd => b.rd R rd⟩
  by_cases e : i = j
  · subst e
    rw [List.getElem?_set_self hi, h]
    exact fun _ m => m
  · rw [List.getElem?_set_ne e]
    exact Sh.refl _
end
theorem ms_append (K : Fg) : MutS K rAppend fAppend := by
  intro Y H σ env i p l ds us N Q R h hp r f k
  match ds, r, f with
  | [d], .cons r .nil, f =>
    obtain ⟨q, hq, _, us0, hu, r0, hl⟩ := R.own i _ h
    rw [hp] at hq; cases hq
    obtain ⟨a, b, c⟩ := mut_lst (us' := us0 ++ [_]) (l' := l ++ [d]) R h hp (r0.append (.cons r .nil)) (by rw [List.length_append]; exact f.1)
    exact ⟨p, us0, _, rfl, rfl, hu, by rw [r0.length]; exact f.1, k .non _ _ .non a b .non f.2⟩
theorem ms_extend (K : Fg) : MutS K rExtend fExtend := by
  intro Y H σ env i p l ds us N Q R h hp r f k
  match ds, r, f with
  | [.lst m], .cons r .nil, f =>
    obtain ⟨q, hq, _, us0, hu, r0, hl⟩ := R.own i _ h
    rw [hp] at hq; cases hq
    cases r with
    | lst sl rm =>
      obtain ⟨a, b, c⟩ := mut_lst (us' := us0 ++ _) (l' := l ++ m) R h hp (r0.append rm) (by rw [List.length_append]; exact f.1)
      exact ⟨p, _, us0, _, rfl, rfl, hu, sl.1, by rw [r0.length, rm.length]; exact f.1, k .non _ _ .non a b .non f.2⟩
theorem RDs.eraseIdx {K : Fg} {H : Hp} {P : Ad} : ∀ {us : List V} {ds : List D} (n : Nat), RDs K H P us ds → RDs K H P (us.eraseIdx n) (ds.eraseIdx n)
  | _, _, _, .nil => .nil
  | _, _, 0, .cons _ t => t
  | _, _, n + 1, .cons r t => .cons r (RDs.eraseIdx n t)
theorem ms_popAt (K : Fg) : MutS K rPopAt fPopAt := by
  intro Y H σ env i p l ds us N Q R h hp r f k
  match ds, r, f with
  | [.int j], .cons r .nil, f =>
    cases r
    obtain ⟨f1, f2, m, z, f3, f4, f⟩ := f
    obtain ⟨q, hq, _, us0, hu, r0, hl⟩ := R.own i _ h
    rw [hp] at hq; cases hq
    obtain ⟨v, hv, rz⟩ := r0.get f4
    obtain ⟨a, b, c⟩ := mut_lst (us' := us0.eraseIdx m) (l' := l.eraseIdx m) R h hp (r0.eraseIdx m) (by
      have := List.length_eraseIdx_le l m
      rw [r0.length] at hl
      omega)
    exact ⟨p, us0, j, m, v, rfl, rfl, hu, f1, f2, by rw [r0.length]; exact f3, hv, k v _ _ z a b (c rz) f⟩
section
variable {X : Cx} {x name : Str} {pos apos cpos : Pos} {e : Expr} {es : List Expr} {t : AA'} {f : List D → List D → (List D → D → Prop) → Prop} {id : String} {r : V → List V → Hp → VK → Prop}
theorem ae_mut (i : Nat) (slot : Slot "list" name id) (hty : typeOf (.builtin id) = pure (.type "method_descriptor")) (hm : MtR X id r) (ms : MutS X.K r f) (ha : AA X (e :: es) t)
    (hN : X.N[i]? = some x := by rfl) (hv : Vis X.env.scope x := by first | exact Or.inl rfl | exact Or.inr (Or.inl rfl) | exact Or.inr (Or.inr rfl)) (hd : (x == ("__debug__" : Str)) = false := by decide) (hcd : (x == ("__classdict__" : Str)) = false := by decide)
    (hbase : attributeBase (.Name x pos) name X.env (eval (.Name x pos) X.env) = eval (.Name x pos) X.env := by rfl)
    (hfew : ((backTo cpos (starEach (e :: es) X.env)).all (fun x => !x.1) && (backToKw cpos (keywordEach [] X.env)).all (fun x => x.1.isSome)
      && decide ((e :: es).length + ([] : List Keyword).length + (if ([] : List Keyword).isEmpty then 0 else 1) < 30)) = true := by rfl)
    (hline : (apos.endLine == cpos.line) = true := by rfl) (hs : starEach (e :: es) X.env = (false, eval e X.env) :: starEach es X.env := by rfl) (hplain : (backTo cpos (starEach es X.env)).any (·.1) = false := by rfl) :
    AE X (.Call (.Attribute (.Name x pos) name apos) (e :: es) [] cpos) (aMut i t f) := by
  obtain ⟨ta, pa, sa⟩ := ha
  refine ⟨_, pe_bm PySem.F.plainAttrs_list slot hty hm (pe_var hN hv hd hcd) pa hbase hfew hline hs hplain, fun Y H σ env R Q rep q k => ?_⟩
  obtain ⟨⟨l0, h0⟩, q⟩ := q
  obtain ⟨p, hp, np, us0, hu0, _, _⟩ := rep.own i _ h0
  refine ⟨.ref p, hp, .inl ⟨rfl, us0, .of hu0⟩, ?_⟩
  refine sa Y H σ env _ _ rep q fun vs H1 env1 rs rep1 g1 ok1 q1 => ?_
  match w : env1[i]?, w2 : dats rs, q1 with
  | some (.own (.lst l)), some ds, q1 =>
    exact ms Y H1 σ env1 i p l ds vs _ _ rep1 w hp (ok1.dats w2) q1 fun v H2 l' z rep2 g2 rd q2 => k v H2 _ (.dat z) Y rep2 (g1.trans g2) ⟨rfl, rd⟩ q2
end
/-! ### d.get(k, e) -/
def aGet (o k e : AE') : AE' := fun env R => o env fun r env1 => (match val env1 r with | some (.dic _ _) => True | _ => False) ∧ aFrz k env1 fun rk env2 => aFrz e env2 fun re env3 => match val env3 r, rk, re with
  | some (.dic ks vs), .dat key, .dat dflt => isKey key = true ∧ R (.dat ((dGet ks vs key).getD dflt)) env3
  | _, _, _ => False
theorem ae_get {X : Cx} {o e f : Expr} {apos cpos : Pos} {fo fk fe : AE'} {j : Nat} (hr : Room j X.A) (ho : AE X o fo) (hk : AE X e fk) (he : AE X f fe) (m : M2 X o "get" apos e f cpos := by exact ⟨rfl, rfl, rfl, rfl⟩) : AE X (.Call (.Attribute o "get" apos) [e, f] [] cpos) (aGet fo fk fe) := by
  obtain ⟨t1, p1, s1⟩ := ho
  obtain ⟨t2, p2, s2⟩ := hk.frz
  obtain ⟨t3, p3, s3⟩ := he.frz
  refine ⟨_, pe_dget2 (by have := hr.un; omega) p1 p2 p3 m, fun Y H σ env R Q rep q k => ?_⟩
  refine s1 Y H σ env _ _ rep q fun v H1 env1 r1 Y1 rep1 g1 ok1 q1 => ?_
  obtain ⟨isd, q1⟩ := q1
  obtain ⟨d1, e1, c1⟩ := ok1.rc rep1
  rw [e1] at isd
  match d1, c1, isd with
  | .dic ks0 vs0, c1, _ =>
    obtain ⟨p, ep, kvs, hrd, _, _⟩ := c1.dic
    refine ⟨p, ep, .inl ⟨kvs, hrd⟩, ?_⟩
    refine s2 Y1 H1 σ env1 _ _ rep1 q1 fun vk H2 env2 r2 Y2 rep2 g2 ok2 q2 => ?_
    refine s3 Y2 H2 σ env2 _ _ rep2 q2 fun ve H3 env3 r3 Y3 rep3 g3 ok3 q3 => ?_
    obtain ⟨d, ed, cd⟩ := ok1.later (g2.trans g3) rep3
    have gg := (g1.trans g2).trans g3
    rw [ed] at q3
    match d, cd, r2, ok2, r3, ok3, q3 with
    | .dic ks vs, cd, .dat key, ok2, .dat dflt, ok3, q3 =>
      obtain ⟨hk, q3⟩ := q3
      obtain ⟨ey2, rd2⟩ := ok2
      obtain ⟨ey3, rd3⟩ := ok3
      subst ey2
      subst ey3
      obtain ⟨ky, rfl⟩ := isKey_of hk
      obtain ⟨p', ov, ep', g, _, _, hs, hn⟩ := dic_get cd (.inl (g3.rd rd2))
      rw [ep] at ep'
      cases ep'
      refine ⟨ov, g, ?_⟩
      have rd : RD X.K H3 (Pw Y3 σ env3) (ov.getD ve) ((dGet ks vs (kD ky)).getD dflt) := by
        cases w : dGet ks vs (kD ky) with
        | none => rw [hn w]; exact rd3
        | some z =>
          obtain ⟨u, e2, r⟩ := hs z w
          rw [e2]
          exact r
      exact k _ H3 env3 (.dat _) Y (rep3.less gg.yu) gg.drop ⟨rfl, rd.less (pw_less gg.yu)⟩ q3
/-! ### "".join(e) -/
def aJoin (s : Str) (a : AE') : AE' := fun env R => aFrz a env fun r env1 => match r with
  | .dat (.lst l) => ∃ ys : List Str, l = ys.map D.str ∧ (ys.map (·.length)).sum + ys.length * s.length ≤ 16777216 ∧ R (.dat (.str (Txt.join s ys))) env1
  | _ => False
theorem ae_join {X : Cx} {s : Str} {e : Expr} {j : Nat} {apos pos p : Pos} {a : AE'} (he : AE X e a) (hs : starEach [e] X.env = [(false, eval e X.env)] := by rfl) (hline : (apos.endLine == pos.line) = true := by rfl)
    (hbase : attributeBase (.Constant (.str s) j p) "join" X.env (eval (.Constant (.str s) j p) X.env) = eval (.Constant (.str s) j p) X.env := by rfl) :
    AE X (.Call (.Attribute (.Constant (.str s) j p) "join" apos) [e] [] pos) (aJoin s a) := by
  obtain ⟨t, pe, se⟩ := he.frz
  refine ⟨_, pe_join pe_str pe hs hbase hline, fun Y H σ env R Q rep q k => ⟨⟨s, rfl⟩, ?_⟩⟩
  refine se Y H σ env _ _ rep q fun v H1 env1 r1 Y1 rep1 g1 ok1 q1 => ?_
  match r1, ok1, q1 with
  | .dat (.lst l), ok1, q1 =>
    obtain ⟨ys, e1, hz, q1⟩ := q1
    obtain ⟨ey, rd⟩ := ok1
    subst ey
    subst e1
    cases rd with
    | lst sl r =>
      have := r.ofStrs
      subst this
      exact ⟨s, _, ys, rfl, rfl, .inl sl.sq, hz, k _ H1 env1 (.dat _) Y1 rep1 g1 ⟨rfl, .str _⟩ q1⟩
/-! ### l.index(e) -/
def aIndex (o e : AE') : AE' := fun env R => o env fun r env1 => (match val env1 r with | some (.lst _) => True | _ => False) ∧ aFrz e env1 fun re env2 => match val env2 r, re with
  | some (.lst l), .dat d => d.sh ∧ (D.lst l).sh ∧ ∃ (j : Nat) (z : D), l[j]? = some z ∧ PyData.eqv z.pd d.pd = true ∧ (∀ (m : Nat) (z' : D), m < j → l[m]? = some z' → PyData.eqv z'.pd d.pd = false) ∧ R (.dat (.int j)) env2
  | _, _ => False
theorem pds_get : ∀ {l : List D} {j : Nat}, (pds l)[j]? = (l[j]?).map D.pd
  | [], _ => rfl
  | d :: l, 0 => rfl
  | d :: l, j + 1 => by
    simp only [pds, List.getElem?_cons_succ]
    exact pds_get
theorem ae_index {X : Cx} {o e : Expr} {apos cpos : Pos} {fo fe : AE'} {j : Nat} (hr : Room j X.A) (ho : AE X o fo) (he : AE X e fe)
    (hbase : attributeBase o "index" X.env (eval o X.env) = eval o X.env := by rfl)
    (hfew : ((backTo cpos (starEach [e] X.env)).all (fun x => !x.1) && (backToKw cpos (keywordEach [] X.env)).all (fun x => x.1.isSome)
      && decide (([e] : List Expr).length + ([] : List Keyword).length + (if ([] : List Keyword).isEmpty then 0 else 1) < 30)) = true := by rfl)
    (hline : (apos.endLine == cpos.line) = true := by rfl) (hs : starEach [e] X.env = (false, eval e X.env) :: starEach [] X.env := by rfl) : AE X (.Call (.Attribute o "index" apos) [e] [] cpos) (aIndex fo fe) := by
  obtain ⟨t1, p1, s1⟩ := ho
  obtain ⟨t2, p2, s2⟩ := he.frz
  refine ⟨_, pe_bm PySem.F.plainAttrs_list PySem.F.slot_list_index PySem.F.type_list_index (mt_indexD (by have := hr.un; omega)) p1 (pa_cons p2 pa_nil hs) hbase hfew hline hs rfl, fun Y H σ env R Q rep q k => ?_⟩
  refine s1 Y H σ env _ _ rep q fun v H1 env1 r1 Y1 rep1 g1 ok1 q1 => ?_
  obtain ⟨isl, q1⟩ := q1
  obtain ⟨d1, e1, c1⟩ := ok1.rc rep1
  rw [e1] at isl
  match d1, c1, isl with
  | .lst l0, c1, _ =>
    obtain ⟨p, us0, ep, hu0, _, _⟩ := c1.lst
    subst ep
    refine ⟨.inl ⟨rfl, us0, .of hu0⟩, ?_⟩
    refine s2 Y1 H1 σ env1 _ _ rep1 q1 fun ve H2 env2 r2 Y2 rep2 g2 ok2 q2 => ?_
    obtain ⟨d, ed, cd⟩ := ok1.later g2 rep2
    have gg := g1.trans g2
    rw [ed] at q2
    match d, cd, r2, ok2, q2 with
    | .lst l, cd, .dat x, ok2, q2 =>
      obtain ⟨h1, h2, jj, z, h3, h4, h5, q2⟩ := q2
      obtain ⟨ey, rd⟩ := ok2
      subst ey
      have hd := cd.dp h2
      simp only [D.pd, D.sh] at hd h2
      refine ⟨p, ve, x.pd, pds l, jj, z.pd, rfl, rfl, hd, (RC.dp (.inl rd) h1), h2, h1, by rw [pds_get, h3]; rfl, h4, fun m z' hm hz' => ?_, k _ H2 env2 (.dat (.int jj)) Y (rep2.less gg.yu) gg.drop ⟨rfl, .int _⟩ q2⟩
      rw [pds_get] at hz'
      cases w : l[m]? with
      | none => rw [w] at hz'; cases hz'
      | some y =>
        rw [w] at hz'
        cases hz'
        exact h5 m y hm w
/-! ### fields -/
def fldD (C : Addr) (f : Str) : D → Option D
  | .obj C' ns l => if C' = C then (ns.zip l).lookup f else none
  | _ => none
def aFld (C : Addr) (f : Str) (a : AE') : AE' := fun env R => a env fun r env1 => match val env1 r with
  | some d => ∃ z, fldD C f d = some z ∧ R (.dat z) env1
  | none => False
theorem RDs.lookup {K : Fg} {H : Hp} {P : Ad} {f : Str} {z : D} : ∀ {fs : List (Str × V)} {l : List D}, RDs K H P (fs.map (·.2)) l → ((fs.map (·.1)).zip l).lookup f = some z → ∃ v, fs.lookup f = some v ∧ RD K H P v z
  | [], _, .nil, h => by cases h
  | (g, v) :: r, _, .cons h1 h2, h => by
    simp only [List.map_cons, List.zip_cons_cons, List.lookup_cons] at h ⊢
    cases e : (f == g) with
    | true =>
      rw [e] at h
      cases h
      exact ⟨v, rfl, h1⟩
    | false =>
      rw [e] at h
      exact RDs.lookup h2 h
theorem RC.obj {K : Fg} {H : Hp} {P : Ad} {v : V} {C : Addr} {ns : List Str} {l : List D} (h : RC K H P v (.obj C ns l)) : ∃ p dx fs, v = .ref p ∧ H p = some (.ins C dx fs) ∧ ns = fs.map (·.1) ∧ RDs K H P (fs.map (·.2)) l := by
  rcases h with h | ⟨p, e, h⟩
  · cases h with
    | obj s n e r => exact ⟨_, _, _, rfl, s, e, r⟩
  · obtain ⟨dx, fs, a, b, c⟩ := h
    exact ⟨p, dx, fs, e, a, b, c⟩
theorem ae_fld {X : Cx} {e : Expr} {f : Str} {pos : Pos} {a : AE'} {C : Addr} (c : Cls X.K C) (n : NoAttr X.K C f) (h : AE X e a) (hb : attributeBase e f X.env (eval e X.env) = eval e X.env := by rfl) : AE X (.Attribute e f pos) (aFld C f a) := by
  obtain ⟨t, p, s⟩ := h
  refine ⟨_, pe_fld p hb, fun Y H σ env R Q rep q k => ?_⟩
  refine s Y H σ env _ _ rep q fun v H1 env1 r1 Y1 rep1 g1 ok1 q1 => ?_
  obtain ⟨d, e1, cd⟩ := ok1.rc rep1
  simp only [e1] at q1
  obtain ⟨z, hz, q1⟩ := q1
  match d, cd, hz with
  | .obj C' ns l, cd, hz =>
    simp only [fldD] at hz
    split at hz
    · rename_i ec
      subst ec
      obtain ⟨p, dx, fs, e2, h2, e3, r⟩ := cd.obj
      subst e3
      obtain ⟨u, h3, r3⟩ := r.lookup hz
      exact ⟨p, C', dx, fs, u, e2, h2, c, n, h3, k u H1 env1 (.dat z) Y (rep1.less g1.yu) g1.drop ⟨rfl, r3.less (pw_less g1.yu)⟩ q1⟩
    · cases hz
end AL
namespace AL
open PySem L2
/-! AL16: fields stored, methods of objects, objects made. -/
def oPut (f : Str) (d : D) : List Str → List D → List Str × List D
  | [], _ => ([f], [d])
  | g :: ns, u :: l => if g = f then (g :: ns, d :: l) else (g :: (oPut f d ns l).1, u :: (oPut f d ns l).2)
  | g :: ns, [] => (g :: ns, [])
theorem RDs.putF {K : Fg} {H : Hp} {P : Ad} {f : Str} {v : V} {d : D} (h : RD K H P v d) : ∀ {fs : List (Str × V)} {l : List D}, RDs K H P (fs.map (·.2)) l →
    (oPut f d (fs.map (·.1)) l).1 = (L2.putF f v fs).map (·.1) ∧ RDs K H P ((L2.putF f v fs).map (·.2)) (oPut f d (fs.map (·.1)) l).2
  | [], _, .nil => ⟨rfl, .cons h .nil⟩
  | (g, u) :: r, _, .cons h1 h2 => by
    simp only [List.map_cons, oPut, L2.putF]
    by_cases e : g = f
    · rw [if_pos e, if_pos e]
      exact ⟨rfl, .cons h h2⟩
    · rw [if_neg e, if_neg e]
      obtain ⟨a, b⟩ := RDs.putF h h2
      exact ⟨congrArg (g :: ·) a, .cons h1 b⟩
/-- x.f = e: x an owned object's name -/
def aFldSet (i : Nat) (C : Addr) (f : Str) (a : AE') : AS' := fun A env => aFrz a env fun r env1 => match r, env1[i]? with
  | .dat d, some (.own (.obj C' ns l)) => C' = C ∧ ns.length < 1000 ∧ A.nx (env1.set i (.own (.obj C (oPut f d ns l).1 (oPut f d ns l).2)))
  | _, _ => False
section
variable {X : Cx} {B : Nat → Bool} {x f m : Str} {e o : Expr} {es : List Expr} {pos p pos' apos : Pos} {a : AE'} {C : Addr}
theorem as_fldset (i : Nat) (c : Cls X.K C) (n : NoAttr X.K C f) (h : AE X e a) (hN : X.N[i]? = some x := by rfl) (hv : Vis X.env.scope x := by first | exact Or.inl rfl | exact Or.inr (Or.inl rfl) | exact Or.inr (Or.inr rfl)) (hd : (x == ("__debug__" : Str)) = false := by decide)
    (hcd : (x == ("__classdict__" : Str)) = false := by decide) (hs : swapsWith e (some (.Attribute (.Name x p) f pos')) pos.line X.env = pure false := by rfl) : AS X B (.Assign [.Attribute (.Name x p) f pos'] e pos) (aFldSet i C f a) := by
  obtain ⟨t, pe, s⟩ := h.frz
  refine ⟨_, ps_fld (pe_var hN hv hd hcd) pe hs, fun Y H σ env D A rep q k => ?_⟩
  refine s Y H σ env _ _ rep q fun v H1 env1 r Y1 rep1 g1 ok q1 => ?_
  match r, ok, w : env1[i]?, q1 with
  | .dat d, ok, some (.own (.obj C' ns l)), q1 =>
    obtain ⟨ey, rd⟩ := ok
    subst ey
    obtain ⟨rfl, hl, q1⟩ := q1
    obtain ⟨q0, hq, np, dx, fs, ha, en, r⟩ := rep1.own i _ w
    subst en
    obtain ⟨e1, r2⟩ := r.putF (f := f) rd
    obtain ⟨r3, g3⟩ := rep1.mut (B := B) (o := .ins C' dx (putF f v fs)) (d1 := .obj C' (oPut f d (fs.map (·.1)) l).1 (oPut f d (fs.map (·.1)) l).2) w hq fun P pw g => ⟨dx, _, upd_same, e1, Go.rds g (fun a e => by subst e; exact .inr ⟨i, _, w, .inl hq⟩) r2⟩
    exact ⟨_, hq, q0, C', dx, fs, rfl, ha, c, n, by simpa using hl, k.nx _ σ _ r3 (g1.toS.trans rep g3) q1⟩
end
/-! ### o.m(e, ..) -/
def aMeth (C : Addr) (m : Str) (S : ASp) (a : AE') (t : AA') : AE' := fun env R => a env fun r env1 => (match r with | .new _ => False | .nrg _ _ _ => False | _ => True) ∧ (∃ ns l, val env1 r = some (.obj C ns l) ∧ ns.all (fun g => !(m == g)) = true) ∧ t env1 fun rs env2 => callR S (r :: rs) env2 R
theorem lookup_none {m : Str} : ∀ {fs : List (Str × V)}, (fs.map (·.1)).all (fun g => !(m == g)) = true → fs.lookup m = none
  | [], _ => rfl
  | (g, v) :: r, h => by
    rw [List.map_cons, List.all_cons, Bool.and_eq_true] at h
    have e : (m == g) = false := by simpa using h.1
    rw [List.lookup_cons, e]
    exact lookup_none h.2
section
variable {X : Cx} {m : Str} {e o : Expr} {es : List Expr} {pos apos : Pos} {a : AE'} {t : AA'} {C f : Addr} {S : ASp} {k : Nat} {fd : FuncData} {ps : List Str}
theorem snd_meth {ta : TE} {tt : TA} (sa : Snd X.K ta a) (st : SndA X.K tt t) (E : XK) : Snd X.K (tMeth C m (toSp X.K S) [] E ta tt) (aMeth C m S a t) := by
  intro Y H σ env R Q rep q k
  refine sa Y H σ env _ _ rep q fun v H1 env1 r Y1 rep1 g1 ok1 q1 => ?_
  obtain ⟨nn, ⟨ns, l, e1, nm⟩, q1⟩ := q1
  have ey : Y1 = Y := by
    match r, ok1, nn with
    | .dat _, ok, _ => exact ok.1
    | .at _, ok, _ => exact ok.1
  subst ey
  obtain ⟨d, e2, c⟩ := ok1.rc rep1
  rw [e1] at e2
  cases e2
  obtain ⟨p, dx, fs, ev, hp, en, _⟩ := c.obj
  subst ev
  subst en
  refine ⟨p, dx, fs, rfl, hp, lookup_none nm, ?_⟩
  refine st Y1 H1 σ env1 _ _ rep1 q1 fun vs H2 env2 rs rep2 g2 ok2 q2 => ?_
  rw [List.append_nil]
  exact call_ok rep2 (.cons (ok1.on g2) ok2) q2 (fun v H3 env3 r Y3 rep3 g3 ok3 q3 => k v H3 env3 r Y3 rep3 ((g1.trans g2).trans g3) ok3 q3) _
theorem ae_meth {pl : Sem Bool} (c : Cls X.K C) (hm : Meth X.K C m f) (F : FnOk X.prog X.w X.K X.mg X.base CX0 k f fd ps (toSp X.K S)) (hr : Room k X.A) (hb : Binds X.K fd ps []) (he : AE X o a) (ha : AA X (e :: es) t)
    (hst : starEach (e :: es) X.env = (false, eval e X.env) :: starEach es X.env := by rfl) (hpl : (backTo pos (starEach es X.env)).any (·.1) = false := by rfl)
    (ht : eval (.Call (.Attribute o m apos) (e :: es) [] pos) X.env = (do
      let ov ← eval o X.env
      standAt apos.atName
      let (f, first) ← holding [ov] (getMethod ov m pl)
      callWith pos f first (backTo pos (starEach (e :: es) X.env)) (backToKw pos (keywordEach [] X.env))) := by rfl) : AE X (.Call (.Attribute o m apos) (e :: es) [] pos) (aMeth C m S a t) := by
  obtain ⟨ta, pa, sa⟩ := he
  obtain ⟨tt, pt, st⟩ := ha
  exact ⟨_, pe_meth (pl := pl) pa c hm F hr hb .nil pass0 pt hst hpl ht, snd_meth sa st _⟩
theorem ae_meth0 {pl : Sem Bool} (c : Cls X.K C) (hm : Meth X.K C m f) (F : FnOk X.prog X.w X.K X.mg X.base CX0 k f fd ps (toSp X.K S)) (hr : Room k X.A) (hb : Binds X.K fd ps []) (he : AE X o a)
    (ht : eval (.Call (.Attribute o m apos) [] [] pos) X.env = (do
      let ov ← eval o X.env
      standAt apos.atName
      let (f, first) ← holding [ov] (getMethod ov m pl)
      callWith pos f first (backTo pos (starEach [] X.env)) (backToKw pos (keywordEach [] X.env))) := by rfl) : AE X (.Call (.Attribute o m apos) [] [] pos) (aMeth C m S a aNil) := by
  obtain ⟨ta, pa, sa⟩ := he
  exact ⟨_, pe_meth0 (pl := pl) pa c hm F hr hb .nil pass0 ht, snd_meth sa (fun Y H σ env R Q rep h k => k [] H env [] rep Adv.refl .nil h) _⟩
theorem ae_fn0 {x : Str} {p : Pos} (F : FnOk X.prog X.w X.K X.mg X.base CX0 k f fd ps (toSp X.K S)) (hr : Room k X.A) (hg : Gl X x) (hm : X.mg x = some (.ref f)) (hk : PySem.W.keepIn X.K (.ref f) = true) (hb : Binds X.K fd ps []) (hdb : (x == ("__debug__" : Str)) = false := by decide) : AE X (.Call (.Name x p) [] [] pos) (aFn S aNil) := by
  refine ⟨_, pe_call0 F hr hg hm hk hb .nil pass0 hdb, fun Y H σ env R Q rep q k => ?_⟩
  exact call_ok rep .nil q (fun v H2 env2 r Y2 rep2 g2 ok2 q2 => k v H2 env2 r Y2 rep2 g2 ok2 q2) E0
end
/-! ### a slot more -/
section
variable {K : Fg} {σ : L2.St} {Y Y' : Ad} {env env' : AEnv} {H H' : Hp} {s : Option V}
theorem own_snoc_un (hl : σ.length = env.length) (a : Addr) : Own (σ ++ [s]) (env ++ [.un]) a ↔ Own σ env a := by
  constructor
  · rintro ⟨i, d, e, w⟩
    by_cases h : i < env.length
    · rw [List.getElem?_append_left h] at e
      exact ⟨i, d, e, w.congr (by rw [List.getElem?_append_left (by omega)])⟩
    · rw [List.getElem?_append_right (by omega)] at e
      cases z : i - env.length with
      | zero => rw [z] at e; cases e
      | succ n => rw [z] at e; cases e
  · rintro ⟨i, d, e, w⟩
    have h : i < env.length := (List.getElem?_eq_some_iff.mp e).1
    exact ⟨i, d, by rw [List.getElem?_append_left h]; exact e, w.congr (by rw [List.getElem?_append_left (by omega)])⟩
theorem Rep.unsnoc (R : Rep K Y H (σ ++ [s]) (env ++ [.un])) : Rep K Y H σ env := by
  have hl : σ.length = env.length := by simpa using R.len
  have pw : ∀ a, Pw Y σ env a → Pw Y (σ ++ [s]) (env ++ [.un]) a := fun a z => z.imp id (own_snoc_un hl a).mpr
  have up : ∀ {i : Nat} {x : AV}, env[i]? = some x → (env ++ [.un])[i]? = some x ∧ (σ ++ [s])[i]? = σ[i]? := fun {i x} e => by
    have h : i < env.length := (List.getElem?_eq_some_iff.mp e).1
    exact ⟨by rw [List.getElem?_append_left h]; exact e, by rw [List.getElem?_append_left (by omega)]⟩
  refine ⟨hl, fun i d e => ?_, fun i d e => ?_, R.yim, fun i j d e p q1 q2 w1 w2 => ?_, fun i d q e m => R.ony i d q (up e).1 m⟩
  · obtain ⟨v, h, r⟩ := R.dat i d (up e).1
    rw [(up e).2] at h
    exact ⟨v, h, r.less pw⟩
  · obtain ⟨p, h, n, r⟩ := R.own i d (up e).1
    rw [(up e).2] at h
    exact ⟨p, h, n, r.less pw⟩
  · exact R.inj i j d e p (up q1).1 (up q2).1 (w1.congr (up q1).2.symm) (w2.congr (up q2).2.symm)
/-- a new thing stands at one slot more -/
theorem Rep.snoc {p : Addr} {d : D} {Y1 : Ad} (R : Rep K Y1 H σ env) (e : Y1 = fun a => Y a ∨ a = p) (n : ¬ Pw Y σ env p) (r : RO0 K H (Pw Y1 σ env) p d) : Rep K Y H (σ ++ [some (.ref p)]) (env ++ [.own d]) := by
  subst e
  have hl : σ.length = env.length := R.len
  obtain ⟨_, rg0, ro, _⟩ := r.plain
  have at_ : ∀ {i : Nat} {x : AV}, (env ++ [.own d])[i]? = some x → (env[i]? = some x ∧ (σ ++ [some (.ref p)])[i]? = σ[i]?) ∨ (x = .own d ∧ i = env.length ∧ (σ ++ [some (V.ref p)])[i]? = some (some (.ref p))) := fun {i x} q => by
    by_cases h : i < env.length
    · rw [List.getElem?_append_left h] at q
      exact .inl ⟨q, by rw [List.getElem?_append_left (by omega)]⟩
    · rw [List.getElem?_append_right (by omega)] at q
      cases z : i - env.length with
      | zero =>
        rw [z] at q
        cases q
        refine .inr ⟨rfl, by omega, ?_⟩
        rw [List.getElem?_append_right (by omega), hl, z]
        rfl
      | succ n => rw [z] at q; cases q
  have ow : ∀ a, Own (σ ++ [some (.ref p)]) (env ++ [.own d]) a → Own σ env a ∨ a = p := fun a ⟨i, d', q, w⟩ => by
    rcases at_ q with ⟨q1, q2⟩ | ⟨z, _, q2⟩
    · exact .inl ⟨i, d', q1, w.congr q2⟩
    · cases z
      rcases w with w | w
      · rw [q2] at w
        cases w
        exact .inr rfl
      · rw [rg0] at w; cases w
  have pw : ∀ a, Pw Y (σ ++ [some (.ref p)]) (env ++ [.own d]) a → Pw (fun a => Y a ∨ a = p) σ env a := fun a z => by
    rcases z with z | z
    · exact .inl (.inl z)
    · rcases ow a z with z | z
      · exact .inr z
      · exact .inl (.inr z)
  refine ⟨by simp [hl], fun i d' q => ?_, fun i d' q => ?_, fun a z => R.yim a (.inl z), fun i j d1 d2 p' q1 q2 w1 w2 => ?_, fun i d' q' e m z => ?_⟩
  · rcases at_ q with ⟨q1, q2⟩ | ⟨z, _, _⟩
    · obtain ⟨v, h, r⟩ := R.dat i d' q1
      exact ⟨v, by rw [q2]; exact h, r.less pw⟩
    · cases z
  · rcases at_ q with ⟨q1, q2⟩ | ⟨z, _, q2⟩
    · obtain ⟨p', h, m, r⟩ := R.own i d' q1
      exact ⟨p', by rw [q2]; exact h, fun z => m (.inl z), r.less pw⟩
    · cases z
      exact ⟨p, q2, fun z => n (.inl z), ro.less pw⟩
  · have main : ∀ {i : Nat}, (σ ++ [some (V.ref p)])[i]? = some (some (.ref p)) → OwnA (σ ++ [some (V.ref p)]) i d p' → p' = p := fun {i} b w => by
      rcases w with w | w
      · rw [b] at w
        cases w; rfl
      · rw [rg0] at w; cases w
    rcases at_ q1 with ⟨a1, b1⟩ | ⟨z1, a1, b1⟩
    · rcases at_ q2 with ⟨a2, b2⟩ | ⟨z2, a2, b2⟩
      · exact R.inj i j d1 d2 p' a1 a2 (w1.congr b1) (w2.congr b2)
      · cases z2
        have := main b2 w2
        subst this
        exact (n (.inr ⟨i, d1, a1, w1.congr b1⟩)).elim
    · rcases at_ q2 with ⟨a2, b2⟩ | ⟨z2, a2, b2⟩
      · cases z1
        have := main b1 w1
        subst this
        exact (n (.inr ⟨j, d2, a2, w2.congr b2⟩)).elim
      · omega
  · rcases at_ e with ⟨e1, _⟩ | ⟨z1, _, _⟩
    · exact R.ony i d' q' e1 m (.inl z)
    · cases z1
      rw [rg0] at m; cases m
end
end AL
namespace AL
open PySem L2
/-! AL17: objects made. -/
def aMake (C : Addr) (S : ASp) (t : AA') : AE' := fun env R => t env fun rs env1 => callR S (.at env1.length :: rs) (env1 ++ [.own (.obj C [] [])]) fun r env2 => r = .dat .non ∧ ∃ d, env2[env1.length]? = some (.own d) ∧ (match isRg d with | true => R (rvO d) (env2.take env1.length) | false => R (.new d) (env2.take env1.length))
section
variable {K : Fg} {σ : L2.St} {Y Y' : Ad} {env : AEnv} {H H' : Hp}
theorem own_snoc {p : Addr} {d : D} (hr : regA d = []) (hl : σ.length = env.length) {a : Addr} : Own (σ ++ [some (.ref p)]) (env ++ [.own d]) a → Own σ env a ∨ a = p := fun ⟨i, d', q, w⟩ => by
  by_cases h : i < env.length
  · rw [List.getElem?_append_left h] at q
    exact .inl ⟨i, d', q, w.congr (by rw [List.getElem?_append_left (by omega)])⟩
  · rw [List.getElem?_append_right (by omega)] at q
    cases z : i - env.length with
    | zero =>
      rw [z] at q
      cases q
      rcases w with w | w
      · rw [List.getElem?_append_right (by omega), hl, z] at w
        cases w
        exact .inr rfl
      · rw [hr] at w; cases w
    | succ n => rw [z] at q; cases q
/-- what is owned goes on being owned by its slot, or is data -/
theorem Adv.still {Y1 : Ad} {env1 : AEnv} {H1 : Hp} (g : Adv σ Y env H Y1 env1 H1) (R : Rep K Y1 H1 σ env1) {j : Nat} {d : D} {a : Addr} (e : env[j]? = some (.own d)) (w : OwnA σ j d a) : (∃ d', env1[j]? = some (.own d') ∧ OwnA σ j d' a) ∨ ¬ Pw Y1 σ env1 a := by
  have s := g.sh j
  rw [e] at s
  match z : env1[j]?, s with
  | some (.own d'), s => exact .inl ⟨d', rfl, w.imp id (s a)⟩
  | some (.dat d'), s =>
    right
    rcases w with w | w
    · obtain ⟨u, hu, rd⟩ := R.dat j d' z
      rw [w] at hu
      cases hu
      exact rd.ref_not s.1
    · rw [s.2] at w; cases w
theorem ResOk.snoc {p : Addr} {d : D} {v : V} (hr : regA d = []) (hl : σ.length = env.length) (n : H p = none) (k : Same H H') : ∀ {r : RV}, ResOk K H Y Y σ env v r → ResOk K H' Y Y (σ ++ [some (.ref p)]) (env ++ [.own d]) v r
  | .dat e, h => by
    refine ⟨rfl, h.2.go (P0 := fun _ => False) ⟨fun a o q _ => .inl (k a o q), fun a z => ?_⟩ fun _ z => z.elim⟩
    rcases z with z | z
    · exact .inl (.inl z)
    · rcases own_snoc hr hl z with z | z
      · exact .inl (.inr z)
      · exact .inr (by rw [z]; exact n)
  | .at i, h => by
    obtain ⟨_, h1, e, h2⟩ := h
    have hi : i < env.length := by
      rcases h2 with h2 | h2 <;> exact (List.getElem?_eq_some_iff.mp h2).1
    refine ⟨rfl, by rw [List.getElem?_append_left (by omega)]; exact h1, e, ?_⟩
    rw [List.getElem?_append_left hi]
    exact h2
  | .new e, h => by
    obtain ⟨q, _, ey, m, _⟩ := h
    refine (m (.inl ?_)).elim
    rw [ey]
    exact .inr rfl
  | .nrg ks es e, h => by
    obtain ⟨q, _, ey, m, _⟩ := h
    refine (m q (.inl rfl) (.inl ?_)).elim
    rw [ey]
    exact .inr (.inl rfl)
theorem ArgsOk.snoc {p : Addr} {d : D} (hr : regA d = []) (hl : σ.length = env.length) (n : H p = none) (k : Same H H') : ∀ {vs : List V} {rs : List RV}, ArgsOk K H Y σ env vs rs → ArgsOk K H' Y (σ ++ [some (.ref p)]) (env ++ [.own d]) vs rs
  | _, _, .nil => .nil
  | _, _, .cons h r => .cons (h.snoc hr hl n k) (ArgsOk.snoc hr hl n k r)
end
theorem snd_make {K : Fg} {C : Addr} {S : ASp} {tt : TA} {t : AA'} (st : SndA K tt t) (E : XK) : Snd K (tMake C (toSp K S) [] E tt) (aMake C S t) := by
  intro Y H σ env R Q rep q k
  refine st Y H σ env _ _ rep q fun vs H1 env1 rs rep1 g1 ok1 q1 => ?_
  intro x dx hx hdx hne
  rw [List.append_nil]
  have hl : σ.length = env1.length := rep1.len
  have s2 : Same H1 (upd (upd H1 dx (.own x)) x (.ins C dx [])) := fun b o e => by
    rw [upd_ne (ne_of_none e hx), upd_ne (ne_of_none e hdx)]
    exact e
  have nf := rep1.fresh hx
  have rep2 : Rep K (fun a => Y a ∨ a = x) (upd (upd H1 dx (.own x)) x (.ins C dx [])) σ env1 := rep1.grow (fun a z => z.imp id fun e => by rw [e]; exact hx) s2 fun a z => by
    rcases z with z | z
    · obtain ⟨o, e, m⟩ := rep1.yim a z
      exact ⟨o, s2 a o e, m⟩
    · subst z
      exact ⟨_, upd_same, trivial⟩
  have repE := rep2.snoc (d := .obj C [] []) rfl nf ⟨dx, [], upd_same, rfl, .nil⟩
  have okE : ArgsOk K (upd (upd H1 dx (.own x)) x (.ins C dx [])) Y (σ ++ [some (.ref x)]) (env1 ++ [.own (.obj C [] [])]) (V.ref x :: vs) (.at env1.length :: rs) := by
    refine .cons ⟨rfl, ?_, .obj C [] [], .inl ?_⟩ (ok1.snoc rfl hl hx s2)
    · rw [← hl, List.getElem?_append_right (Nat.le_refl _), Nat.sub_self]
      rfl
    · rw [List.getElem?_append_right (Nat.le_refl _), Nat.sub_self]
      rfl
  refine call_ok repE okE q1 (fun v H3 env3 r Y3 rep3 g3 ok3 q3 => ?_) E
  obtain ⟨rfl, d, hd, q3⟩ := q3
  obtain ⟨ey, rd⟩ := ok3
  subst ey
  have hv : v = .non := by cases rd; rfl
  refine ⟨hv, ?_⟩
  have hx3 : (σ ++ [some (V.ref x)])[env1.length]? = some (some (.ref x)) := by
    rw [← hl, List.getElem?_append_right (Nat.le_refl _), Nat.sub_self]
    rfl
  obtain ⟨Y4, rep4, g4, ok4⟩ := rep3.give (B := fun _ => false) rfl hd hx3
  have l3 : env3.length = env1.length + 1 := by
    have := rep3.len
    rw [List.length_append, hl] at this
    simpa using this.symm
  have es : env3.set env1.length .un = env3.take env1.length ++ [.un] := by
    apply List.ext_getElem?
    intro i
    by_cases h : i = env1.length
    · subst h
      rw [List.getElem?_set_self (by omega), List.getElem?_append_right (by rw [List.length_take]; omega), List.length_take]
      have : env1.length - min env1.length env3.length = 0 := by omega
      rw [this]
      rfl
    · rw [List.getElem?_set_ne (Ne.symm h)]
      by_cases h2 : i < env1.length
      · rw [List.getElem?_append_left (by rw [List.length_take]; omega), List.getElem?_take_of_lt h2]
      · rw [List.getElem?_eq_none (by omega), List.getElem?_append_right (by rw [List.length_take]; omega), List.length_take]
        have : i - min env1.length env3.length = (i - env1.length - 1) + 1 := by omega
        rw [this]
        rfl
  rw [es] at rep4 ok4
  have lt : σ.length = (env3.take env1.length).length := by rw [List.length_take]; omega
  have rep5 := rep4.unsnoc
  obtain ⟨p, e1, e2, n4, ro4⟩ := ok4
  cases e1
  have pw : ∀ (Z : Ad) a, Pw Z σ (env3.take env1.length) a → Pw Z (σ ++ [some (V.ref x)]) (env3.take env1.length ++ [.un]) a := fun Z a z => z.imp id (own_snoc_un lt a).mpr
  have nz : ∀ {a : Addr} {o : HO}, H1 a = some o → ¬ Own σ env1 a → ¬ Own (σ ++ [some (V.ref x)]) (env1 ++ [.own (.obj C [] [])]) a := fun {a o} e n z => by
    rcases own_snoc rfl hl z with z | z
    · exact n z
    · subst z
      rw [hx] at e; cases e
  have none1 : ∀ a, (upd (upd H1 dx (.own x)) x (.ins C dx [])) a = none → H1 a = none := fun a z => by
    cases q : H1 a with
    | none => rfl
    | some o => rw [s2 a o q] at z; cases z
  -- what the new thing owns is new
  have newN : ∀ a, NewA x d a → H1 a = none := fun a z => by
    have oA : OwnA (σ ++ [some (V.ref x)]) env1.length d a := z.imp (fun z => by rw [z]; exact hx3) id
    have own3 : Own (σ ++ [some (V.ref x)]) env3 a := ⟨env1.length, d, hd, oA⟩
    rcases g3.ow a own3 with w | w
    · obtain ⟨j, e, q, w⟩ := w
      by_cases hj : j < env1.length
      · rcases g3.still rep3 q w with ⟨d', q', w'⟩ | w'
        · have := rep3.inj j env1.length d' d a q' hd w' oA
          omega
        · exact (w' (.inr own3)).elim
      · have : a = x := by
          have q0 := q
          rw [List.getElem?_append_right (by omega)] at q
          cases zz : j - env1.length with
          | zero =>
            rw [zz] at q
            cases q
            rcases w with w | w
            · have ej : j = env1.length := by omega
              rw [ej, hx3] at w
              cases w
              rfl
            · cases w
          | succ n => rw [zz] at q; cases q
        rw [this]; exact hx
    · exact none1 a w
  have q4 : R (rvO d) (env3.take env1.length) := ret_own (N := R) q3
  refine k _ H3 (env3.take env1.length) (rvO d) Y4 rep5 (g1.trans ⟨fun a o e n => g3.keep a o (s2 a o e) (nz e n), fun a z => ?_, fun a z => by rw [e2]; exact .inl z, fun a z => ?_, fun i => ?_, fun a z => ?_, fun a o e => g3.live a o (s2 a o e)⟩) (NewOk.res ⟨x, rfl, e2, fun a m z => n4 a m (pw _ _ z), ro4.less (pw _)⟩) q4
  · obtain ⟨o, e⟩ := rep1.yin a z
    rw [g3.ky a z, s2 a o e, e]
  · rw [e2] at z
    exact z.imp id (newN a)
  · have s := g3.sh i
    by_cases h : i < env1.length
    · rw [List.getElem?_append_left h] at s
      rw [List.getElem?_take_of_lt h]
      exact s
    · rw [List.getElem?_eq_none (by omega), List.getElem?_eq_none (by rw [List.length_take]; omega)]
      trivial
  · obtain ⟨i, e, q, w⟩ := z
    have hi : i < env1.length := by
      have := (List.getElem?_eq_some_iff.mp q).1
      rw [List.length_take] at this
      omega
    rw [List.getElem?_take_of_lt hi] at q
    have w3 : OwnA (σ ++ [some (V.ref x)]) i e a := w.congr (by rw [List.getElem?_append_left (by omega)])
    rcases g3.ow a ⟨i, e, q, w3⟩ with z | z
    · rcases own_snoc rfl hl z with z | z
      · exact .inl z
      · have := rep3.inj i env1.length e d a q hd w3 (.inl (by rw [z]; exact hx3))
        omega
    · exact .inr (none1 a z)
section
variable {X : Cx} {x : Str} {p pos : Pos} {e : Expr} {es : List Expr} {t : AA'} {S : ASp} {k : Nat} {C f : Addr} {fd : FuncData} {ps : List Str}
theorem ae_make (M : Mk X.K C f) (F : FnOk X.prog X.w X.K X.mg X.base CX0 k f fd ps (toSp X.K S)) (hr : Room (k + 1) X.A) (hg : Gl X x) (hm : X.mg x = some (.ref C)) (hb : Binds X.K fd ps []) (ha : AA X (e :: es) t) (hdb : (x == ("__debug__" : Str)) = false := by decide)
    (he : starEach (e :: es) X.env = (false, eval e X.env) :: starEach es X.env := by rfl) (hpl : (backTo pos (starEach es X.env)).any (·.1) = false := by rfl) : AE X (.Call (.Name x p) (e :: es) [] pos) (aMake C S t) := by
  obtain ⟨u, pa, s⟩ := ha
  exact ⟨_, pe_make M F hr hg hm hb .nil pass0 pa hdb he hpl, snd_make s _⟩
theorem ae_make0 (M : Mk X.K C f) (F : FnOk X.prog X.w X.K X.mg X.base CX0 k f fd ps (toSp X.K S)) (hr : Room (k + 1) X.A) (hg : Gl X x) (hm : X.mg x = some (.ref C)) (hb : Binds X.K fd ps []) (hdb : (x == ("__debug__" : Str)) = false := by decide) : AE X (.Call (.Name x p) [] [] pos) (aMake C S aNil) :=
  ⟨_, pe_make0 M F hr hg hm hb .nil pass0 hdb, snd_make (fun Y H σ env R Q rep h k => k [] H env [] rep Adv.refl .nil h) E0⟩
end
end AL
namespace AL
open PySem L2
/-! AL18: a, b = x, y where new things stay owned. -/
inductive News (K : Fg) (H : Hp) (σ : L2.St) (env : AEnv) (Y' : Ad) : Ad → List V → List RV → Prop
  | nil {Y : Ad} : News K H σ env Y' Y [] []
  | dat {Y : Ad} {v : V} {d : D} {vs : List V} {rs : List RV} : RD K H (Pw Y' σ env) v d → News K H σ env Y' Y vs rs → News K H σ env Y' Y (v :: vs) (.dat d :: rs)
  | new {Y : Ad} {p : Addr} {d : D} {vs : List V} {rs : List RV} : Y' p → ¬ Pw Y σ env p → RO0 K H (Pw Y' σ env) p d → News K H σ env Y' (fun a => Y a ∨ a = p) vs rs → News K H σ env Y' Y (.ref p :: vs) (.new d :: rs)
theorem News.len {K : Fg} {H : Hp} {σ : L2.St} {env : AEnv} {Y' : Ad} : ∀ {Y : Ad} {vs : List V} {rs : List RV}, News K H σ env Y' Y vs rs → vs.length = rs.length
  | _, _, _, .nil => rfl
  | _, _, _, .dat _ r => congrArg Nat.succ r.len
  | _, _, _, .new _ _ _ r => congrArg Nat.succ r.len
def SndN (K : Fg) (t : TA) (a : AA') : Prop := ∀ (Y : Ad) (H : Hp) (σ : L2.St) (env : AEnv) (R : List RV → AEnv → Prop) (Q : List V → Hp → Prop), Rep K Y H σ env → a env R →
  (∀ vs H' env' rs Y', Rep K Y' H' σ env' → Adv σ Y env H Y' env' H' → News K H' σ env' Y' Y vs rs → R rs env' → Q vs H') → t σ H Q
def AN (X : Cx) (es : List Expr) (a : AA') : Prop := ∃ t, PA X es t ∧ SndN X.K t a
def keepNew (env : AEnv) (R : RV → AEnv → Prop) : RV → Prop
  | .dat d => R (.dat d) env
  | .new d => R (.new d) env
  | .nrg ks es d => R (.dat (res (.rg ks es d))) env
  | .at i => match env[i]? with
    | some (.own d) => (match isRg d with | true => False | false => R (.dat d) (env.set i (.dat d)))
    | some (.dat d) => R (.dat d) env
    | _ => False
def anCons (a : AE') (t : AA') : AA' := fun env R => a env fun r env1 => keepNew env1 (fun r' env2 => t env2 fun rs env3 => R (r' :: rs) env3) r
section
variable {X : Cx} {e : Expr} {es : List Expr} {a : AE'} {t : AA'}
theorem an_nil : AN X [] aNil := ⟨_, pa_nil, fun Y H σ env R Q rep h k => k [] H env [] Y rep Adv.refl .nil h⟩
theorem an_cons (h1 : AE X e a) (h2 : AN X es t) (hs : starEach (e :: es) X.env = (false, eval e X.env) :: starEach es X.env := by rfl) : AN X (e :: es) (anCons a t) := by
  obtain ⟨u, p, s⟩ := h1
  obtain ⟨u2, p2, s2⟩ := h2
  refine ⟨_, pa_cons p p2 hs, fun Y H σ env R Q rep h k => ?_⟩
  refine s Y H σ env _ _ rep h fun v H1 env1 r Y1 rep1 g1 ok1 q1 => ?_
  have go : ∀ (q : frz env1 (fun r' env2 => t env2 fun rs env3 => R (r' :: rs) env3) r), u2 σ H1 fun vs H2 => Q (v :: vs) H2 := fun q => by
    obtain ⟨env2, d, rep2, g2, rd, q2⟩ := frz_ok rep1 g1.yu ok1 q
    have gg := g1.drop.trans g2
    refine s2 Y H1 σ env2 _ _ rep2 q2 fun vs H3 env3 rs Y3 rep3 g3 nw q3 => ?_
    exact k _ H3 env3 _ Y3 rep3 (gg.trans g3) (.dat (g3.rd rd) nw) q3
  match r, ok1, q1, go with
  | .dat d, ok1, q1, go => exact go q1
  | .nrg ks es d, ok1, q1, go => exact go q1
  | .at i, ok1, q1, go =>
    refine go ?_
    exact q1
  | .new d, ok1, q1, _ =>
    obtain ⟨p, e1, ey, n, ro⟩ := ok1
    subst ey
    subst e1
    refine s2 _ H1 σ env1 _ _ rep1 q1 fun vs H3 env3 rs Y3 rep3 g3 nw q3 => ?_
    refine k _ H3 env3 _ Y3 rep3 (g1.trans g3) (.new (g3.yu p (.inr rfl)) (fun z => ?_) (ro.go g3.go (fun _ z => .inr z) (g3.ky p (.inr rfl))) nw) q3
    rcases z with z | z
    · exact n (.inl z)
    · obtain ⟨o, ho, _⟩ := ro.some
      exact n (.inr (g3.own z ho))
end
/-! ### stores -/
def parS : L2.St → List Nat → List V → L2.St
  | σ, i :: is, v :: vs => parS (σ.set i (some v)) is vs
  | σ, _, _ => σ
def parE : AEnv → List Nat → List RV → AEnv
  | env, i :: is, .dat d :: rs => parE (env.set i (.dat d)) is rs
  | env, i :: is, .new d :: rs => parE (env.set i (.own d)) is rs
  | env, _, _ => env
section
variable {K : Fg} {B : Nat → Bool}
theorem News.move {H H2 : Hp} {σ σ2 : L2.St} {env env2 : AEnv} {Y' Y2' : Ad} (k : Same H H2) (s1 : ∀ a, Pw Y2' σ2 env2 a → Pw Y' σ env a) : ∀ {vs : List V} {rs : List RV} {Ya Yb : Ad}, (∀ a, Pw Yb σ2 env2 a → Pw Ya σ env a) → (∀ a, Y' a → ¬ Ya a → Y2' a) →
    News K H σ env Y' Ya vs rs → News K H2 σ2 env2 Y2' Yb vs rs
  | _, _, Ya, Yb, s2, s3, .nil => .nil
  | _, _, Ya, Yb, s2, s3, .dat r t => .dat ((r.same k).less s1) (News.move k s1 s2 s3 t)
  | _, _, Ya, Yb, s2, s3, .new (p := p) y n r t => by
    refine .new (s3 _ y fun z => n (.inl z)) (fun z => n (s2 _ z)) ?_ (News.move k s1 (fun a z => ?_) (fun a z m => s3 a z fun w => m (.inl w)) t)
    · obtain ⟨o, ho, _⟩ := r.some
      exact (r.go (P0 := fun _ => False) ⟨fun a o q _ => .inl (k a o q), fun a z => .inl z⟩ (fun _ z => z.elim) ((k _ _ ho).trans ho.symm)).less s1
    · rcases z with (z | z) | z
      · exact (s2 a (.inl z)).imp .inl id
      · exact .inl (.inr z)
      · exact (s2 a (.inr z)).imp .inl id
theorem Same.rfl {H : Hp} : Same H H := fun _ _ h => h
theorem AdvS.dropTo {σ0 σ : L2.St} {Y Y' Y2 : Ad} {env0 env : AEnv} {H0 H : Hp} (g : AdvS B σ0 Y env0 H0 Y' σ env H) (s : ∀ a, Y2 a → Y' a) (u : ∀ a, Y a → Y2 a) : AdvS B σ0 Y env0 H0 Y2 σ env H :=
  ⟨g.keep, g.ky, u, fun a z => g.yn a (s a z), g.ow, g.live, g.st, g.pr, g.len⟩
theorem AdvS.store {σ0 σ : L2.St} {Y Y' Y2 : Ad} {env0 env : AEnv} {H0 H : Hp} {i : Nat} {v : Option V} {x : AV} (g : AdvS B σ0 Y env0 H0 Y' σ env H) (bi : B i = false) (s : ∀ a, Y2 a → Y' a) (u : ∀ a, Y a → Y2 a)
    (ow : ∀ a, Own (σ.set i v) (env.set i x) a → Own σ env a ∨ (Y' a ∧ ¬ Y a)) : AdvS B σ0 Y env0 H0 Y2 (σ.set i v) (env.set i x) H := by
  refine ⟨g.keep, g.ky, u, fun a z => g.yn a (s a z), fun a z => ?_, g.live, fun j bj => ?_, fun j bj => ?_, by rw [List.length_set]; exact g.len⟩
  · rcases ow a z with z | ⟨z, n⟩
    · exact g.ow a z
    · rcases g.yn a z with w | w | w
      · exact (n w).elim
      · exact .inr w
      · exact .inl w
  · rw [List.getElem?_set_ne]
    · exact g.st j bj
    · intro z; subst z; rw [bi] at bj; cases bj
  · rw [List.getElem?_set_ne]
    · exact g.pr j bj
    · intro z; subst z; rw [bi] at bj; cases bj
theorem own_setDat {σ : L2.St} {env : AEnv} {i : Nat} {v : Option V} {d : D} {a : Addr} (h : Own (σ.set i v) (env.set i (.dat d)) a) : Own σ env a := by
  obtain ⟨j, e, q, w⟩ := h
  by_cases z : i = j
  · subst z
    by_cases hi : i < env.length
    · rw [List.getElem?_set_self hi] at q; cases q
    · rw [List.getElem?_eq_none (by rw [List.length_set]; omega)] at q; cases q
  · rw [List.getElem?_set_ne z] at q
    exact ⟨j, e, q, w.ne z⟩
theorem own_setOwn {σ : L2.St} {env : AEnv} {i : Nat} {p : Addr} {d : D} {a : Addr} (hr : regA d = []) (h : Own (σ.set i (some (.ref p))) (env.set i (.own d)) a) : Own σ env a ∨ a = p := by
  obtain ⟨j, e, q, w⟩ := h
  by_cases z : i = j
  · subst z
    have ed : regA e = [] := by
      by_cases hi : i < env.length
      · rw [List.getElem?_set_self hi] at q
        cases q
        exact hr
      · rw [List.getElem?_eq_none (by rw [List.length_set]; omega)] at q; cases q
    rcases w with w | w
    · by_cases hi : i < σ.length
      · rw [List.getElem?_set_self hi] at w; cases w
        exact .inr rfl
      · rw [List.getElem?_eq_none (by rw [List.length_set]; omega)] at w; cases w
    · rw [ed] at w; cases w
  · rw [List.getElem?_set_ne z] at q
    exact .inl ⟨j, e, q, w.ne z⟩
theorem par_ok {σ0 : L2.St} {Y : Ad} {env0 : AEnv} {H0 H : Hp} : ∀ {is : List Nat} {vs : List V} {rs : List RV} {Y' Yb : Ad} {σ : L2.St} {env : AEnv}, (∀ i ∈ is, B i = false) → Rep K Y' H σ env → News K H σ env Y' Yb vs rs → (∀ a, Y a → Yb a) → (∀ a, Y a → Y' a) →
    AdvS B σ0 Y env0 H0 Y' σ env H → ∃ Ye, Rep K Ye H (parS σ is vs) (parE env is rs) ∧ AdvS B σ0 Y env0 H0 Ye (parS σ is vs) (parE env is rs) H ∧ ∀ a, Y a → Ye a
  | [], vs, rs, Y', Yb, σ, env, hB, R, nw, h1, h2, g => ⟨Y', by simpa [parS, parE] using R, by simpa [parS, parE] using g, h2⟩
  | i :: is, _, _, Y', Yb, σ, env, hB, R, .nil, h1, h2, g => ⟨Y', R, g, h2⟩
  | i :: is, _, _, Y', Yb, σ, env, hB, R, .dat (v := v) (d := d) r t, h1, h2, g => by
    have bi := hB i List.mem_cons_self
    have hB' : ∀ j ∈ is, B j = false := fun j hj => hB j (List.mem_cons_of_mem _ hj)
    have a := (R.setDat (B := B) bi r).1
    have g2 := g.store (Y2 := Y') (v := some v) (x := .dat d) bi (fun _ z => z) h2 fun x z => .inl (own_setDat z)
    exact par_ok (is := is) hB' a (t.move Same.rfl (fun x z => z.imp id own_setDat) (fun x z => z.imp id own_setDat) fun _ z _ => z) h1 h2 g2
  | i :: is, _, _, Y', Yb, σ, env, hB, R, .new (p := p) (d := d) y n r t, h1, h2, g => by
    have ye : Y' = fun a => (Y' a ∧ a ≠ p) ∨ a = p := by
      funext a
      refine propext ⟨fun z => ?_, fun z => ?_⟩
      · by_cases e : a = p
        · exact .inr e
        · exact .inl ⟨z, e⟩
      · rcases z with z | z
        · exact z.1
        · rw [z]; exact y
    have np : ¬ Y p := fun z => n (.inl (h1 p z))
    have bi := hB i List.mem_cons_self
    have hB' : ∀ j ∈ is, B j = false := fun j hj => hB j (List.mem_cons_of_mem _ hj)
    have ok : ResOk K H (fun a => Y' a ∧ a ≠ p) Y' σ env (.ref p) (.new d) := ⟨p, rfl, ye, fun z => z.elim (fun z => z.2 rfl) fun z => n (.inr z), r⟩
    obtain ⟨a, _, _⟩ := R.setNew (B := B) bi (fun _ z => z.1) ok.newOk
    have rg0 := r.plain.2.1
    have g2 : AdvS B σ0 Y env0 H0 (fun a => Y' a ∧ a ≠ p) (σ.set i (some (.ref p))) (env.set i (.own d)) H :=
      g.store bi (fun _ z => z.1) (fun x z => ⟨h2 x z, fun e => np (e ▸ z)⟩) fun x z => (own_setOwn rg0 z).imp id fun e => by rw [e]; exact ⟨y, np⟩
    have m1 : ∀ x, Pw (fun a => Y' a ∧ a ≠ p) (σ.set i (some (.ref p))) (env.set i (.own d)) x → Pw Y' σ env x := fun x z => by
      rcases z with z | z
      · exact .inl z.1
      · rcases own_setOwn rg0 z with z | z
        · exact .inr z
        · rw [z]; exact .inl y
    have m2 : ∀ x, Pw Yb (σ.set i (some (.ref p))) (env.set i (.own d)) x → Pw (fun a => Yb a ∨ a = p) σ env x := fun x z => by
      rcases z with z | z
      · exact .inl (.inl z)
      · rcases own_setOwn rg0 z with z | z
        · exact .inr z
        · exact .inl (.inr z)
    have t2 := News.move (Yb := Yb) Same.rfl m1 m2 (fun x z m => ⟨z, fun e => m (.inr e)⟩) t
    exact par_ok (is := is) hB' a t2 h1 (fun x z => ⟨h2 x z, fun e => np (e ▸ z)⟩) g2
end
def aPar (is : List Nat) (t : AA') : AS' := fun A env => t env fun rs env1 => rs.length = is.length ∧ A.nx (parE env1 is rs)
section
variable {X : Cx} {B : Nat → Bool} {pos : Pos} {t : AA'}
theorem par_fin {σ0 : L2.St} {Y Y1 : Ad} {env0 env1 : AEnv} {H0 H1 H2 : Hp} {D : Ends} {A : AEnds} {is : List Nat} {vs : List V} {rs : List RV} (hb : ∀ i ∈ is, B i = false) (rep0 : Rep X.K Y H0 σ0 env0) (k : EOk X.K B Y H0 σ0 env0 D A) (rep1 : Rep X.K Y1 H1 σ0 env1) (g1 : Adv σ0 Y env0 H0 Y1 env1 H1) (nw : News X.K H1 σ0 env1 Y1 Y vs rs)
    (sm : Same H1 H2) (q : A.nx (parE env1 is rs)) : D.nx (parS σ0 is vs) H2 := by
  have rep2 := rep1.same sm
  have g2 : Adv σ0 Y env0 H0 Y1 env1 H2 := g1.trans (Adv.same rep1 sm)
  obtain ⟨Ye, a, b, c⟩ := par_ok (B := B) hb rep2 (nw.move sm (fun _ z => z) (fun _ z => z) fun _ z _ => z) (fun _ z => z) g1.yu g2.toS
  exact k.nx H2 _ _ (a.less c) (b.dropTo c fun _ z => z) q
theorem as_par {i j : Nat} {x y : Str} {a b : Expr} {px py pt : Pos} {kt k2 pt2} (hc : X.calm = true) (hN : X.N.Nodup) (hi : X.N[i]? = some x) (hj : X.N[j]? = some y) (hx : X.env.scope.names.lookup x = some .local) (hy : X.env.scope.names.lookup y = some .local) (ha : AN X [a, b] t)
    (bi : B i = false := by rfl) (bj : B j = false := by rfl) (hij : i ≠ j := by decide)
    (hw : swappedStores [.Tuple [.Name x px, .Name y py] kt pt] (.Tuple [a, b] k2 pt2) X.env = pure (some [x, y]) := by rfl)
    (hs : swapsWithSole [.Tuple [.Name x px, .Name y py] kt pt] (.Tuple [a, b] k2 pt2) pos.line X.env = pure false := by rfl) :
    AS X B (.Assign [.Tuple [.Name x px, .Name y py] kt pt] (.Tuple [a, b] k2 pt2) pos) (aPar [i, j] t) := by
  obtain ⟨u, p, s⟩ := ha
  refine ⟨_, ps_par hc hN hi hj hij hx hy p hw hs, fun Y H σ env D A rep q k => ?_⟩
  refine s Y H σ env _ _ rep q fun vs H1 env1 rs Y1 rep1 g1 nw q1 => ?_
  have hl := nw.len
  rw [q1.1] at hl
  match vs, hl, nw with
  | [v, w], _, nw => exact ⟨v, w, rfl, par_fin (is := [i, j]) (fun m hm => by
      simp only [List.mem_cons, List.not_mem_nil, or_false] at hm
      rcases hm with e | e <;> (subst e; assumption)) rep k rep1 g1 nw Same.rfl q1.2⟩
theorem as_par3 {i j l : Nat} {x y z : Str} {a b c : Expr} {px py pz pt : Pos} {kt k2 pt2} (hc : X.calm = true) (hN : X.N.Nodup) (hi : X.N[i]? = some x) (hj : X.N[j]? = some y) (hl : X.N[l]? = some z) (hx : X.env.scope.names.lookup x = some .local) (hy : X.env.scope.names.lookup y = some .local) (hz : X.env.scope.names.lookup z = some .local) (ha : AN X [a, b, c] t)
    (bi : B i = false := by rfl) (bj : B j = false := by rfl) (bl : B l = false := by rfl) (hij : i ≠ j := by decide) (hil : i ≠ l := by decide) (hjl : j ≠ l := by decide)
    (hw : swappedStores [.Tuple [.Name x px, .Name y py, .Name z pz] kt pt] (.Tuple [a, b, c] k2 pt2) X.env = pure (some [x, y, z]) := by rfl)
    (hs : swapsWithSole [.Tuple [.Name x px, .Name y py, .Name z pz] kt pt] (.Tuple [a, b, c] k2 pt2) pos.line X.env = pure false := by rfl) :
    AS X B (.Assign [.Tuple [.Name x px, .Name y py, .Name z pz] kt pt] (.Tuple [a, b, c] k2 pt2) pos) (aPar [i, j, l] t) := by
  obtain ⟨u, p, s⟩ := ha
  refine ⟨_, ps_par3 hc hN hi hj hl hij hil hjl hx hy hz p hw hs, fun Y H σ env D A rep q k => ?_⟩
  refine s Y H σ env _ _ rep q fun vs H1 env1 rs Y1 rep1 g1 nw q1 => ?_
  have hl := nw.len
  rw [q1.1] at hl
  match vs, hl, nw with
  | [v, w, v3], _, nw => exact ⟨v, w, v3, rfl, par_fin (is := [i, j, l]) (fun m hm => by
      simp only [List.mem_cons, List.not_mem_nil, or_false] at hm
      rcases hm with e | e | e <;> (subst e; assumption)) rep k rep1 g1 nw Same.rfl q1.2⟩
/-- names as targets -/
def AGN (X : Cx) (B : Nat → Bool) (tgs : List Expr) (is : List Nat) : Prop := ∃ t, PGs X tgs t ∧ (∀ i ∈ is, B i = false) ∧ ∀ (vs : List V) (σ : L2.St) (H : Hp) (Q : L2.St → Hp → Prop), vs.length = is.length → Q (parS σ is vs) H → t vs σ H Q
theorem agn_nil : AGN X B [] [] := by
  refine ⟨_, pgs_nil, fun i h => (by cases h), fun vs σ H Q hl q => ?_⟩
  cases vs with
  | nil => exact ⟨rfl, q⟩
  | cons v r => cases hl
theorem agn_cons {es : List Expr} {is : List Nat} {x : Str} (i : Nat) (hN : X.N.Nodup) (hi : X.N[i]? = some x) (hx : Loc X.env.scope x) (h2 : AGN X B es is) (hb : B i = false := by rfl) (hf : X.fn x = true ∨ X.env.scope.names.lookup x = some .local := by first | exact .inl rfl | exact .inr rfl | assumption)
    (hs : (assignEach (.Name x pos :: es) X.env).map (·.2) = assign (.Name x pos) X.env :: (assignEach es X.env).map (·.2) := by rfl) : AGN X B (.Name x pos :: es) (i :: is) := by
  obtain ⟨t, p, b, s⟩ := h2
  refine ⟨_, pgs_cons (pg_name (i := i) hN hi hx hf) p hs, fun j hj => ?_, fun vs σ H Q hl q => ?_⟩
  · rcases List.mem_cons.mp hj with e | e
    · rw [e]; exact hb
    · exact b j e
  · match vs, hl, q with
    | v :: vs, hl, q => exact ⟨v, vs, rfl, s vs _ H Q (by simpa using hl) q⟩
theorem as_parN {tgs es : List Expr} {is : List Nat} {k k2 pt pt2} (hc : X.calm = true) (hg : AGN X B tgs is) (ha : AN X es t) (hz : is.length ≤ sizeLine := by decide)
    (hn : (assignEach tgs X.env).length = is.length := by rfl) (hst : (assignEach tgs X.env).findIdx? (·.1) = none := by rfl)
    (hs : swapsWithSole [.Tuple tgs k pt] (.Tuple es k2 pt2) pos.line X.env = pure false := by rfl) (hw : swappedStores [.Tuple tgs k pt] (.Tuple es k2 pt2) X.env = pure none := by rfl)
    (h1 : (assignEach [.Tuple tgs k pt] X.env).map (·.2) = [assign (.Tuple tgs k pt) X.env] := by rfl) : AS X B (.Assign [.Tuple tgs k pt] (.Tuple es k2 pt2) pos) (aPar is t) := by
  obtain ⟨tg, pg, bg, sg⟩ := hg
  obtain ⟨u, p, s⟩ := ha
  refine ⟨_, ps_asg (pe_tup p) (pg_tup hc pg hn hst) hs hw h1, fun Y H σ env D A rep q k => ?_⟩
  refine s Y H σ env _ _ rep q fun vs H1 env1 rs Y1 rep1 g1 nw q1 => ?_
  have hl := nw.len
  rw [q1.1] at hl
  refine ⟨by rw [hl]; exact hz, fun l n => ⟨l, vs, rfl, .of upd_same, hl, ?_⟩⟩
  exact sg vs _ _ _ hl (par_fin bg rep k rep1 g1 nw (same_upd n) q1.2)
end
end AL
namespace AL
open PySem L2 PySem.Spec PyProof.Rows
/-! AL19: zip of two, each of them a list or a tuple. -/
def Sq2 (K : Fg) (H : Hp) : Bool → Addr → List V → Prop
  | true, a, xs => SqL K H a xs
  | false, a, xs => SqT K H a xs
def itk (h : Heap) : Bool → Addr → Addr → Nat → Prop
  | true, t, l, i => h.IsListIter t l i
  | false, t, l, i => h.IsTupleIter t l i
def sqk (h : Heap) : Bool → Addr → Array Value → Prop
  | true, l, xs => h.IsList l xs
  | false, l, xs => h.IsTuple l xs
theorem draws2 {P : Program} {w : World} {A : Around} (hh : A.handled = none) (k : Bool) (t l : Addr) (hne : l ≠ t) (xs : Array Value) : Draws P w A t [t, l] xs.size (fun i v => xs[i]? = some v) (fun i h => itk h k t l i ∧ sqk h k l xs) := by
  cases k with
  | true => exact .list hh t l hne xs
  | false => exact .tuple hh t l hne xs
section
variable {X : Cx} {pins : List (Addr × Obj)} {σ : L2.St} {H : Hp} {s : Shared} {k : Bool} {a : Addr} {xs ys : List V}
theorem inv_sq2 (I : Inv X pins σ H s) (h : Sq2 X.K H k a xs) : ∃ its : List Value, Vals xs its ∧ sqk s.heap k a its.toArray ∧ a < s.heap.objs.size := by
  cases k with
  | true =>
    obtain ⟨its, r, p, _⟩ := I.list h
    exact ⟨its, r, p.isList, p.lt⟩
  | false =>
    obtain ⟨its, r, p, _⟩ := I.tuple h
    obtain ⟨o, e, _⟩ := id p
    exact ⟨its, r, p, Heap.lt_size e⟩
theorem inv_inj2 (I : Inv X pins σ H s) (h : Sq2 X.K H k a xs) (h' : Sq2 X.K H k a ys) : xs = ys := by
  cases k with
  | true => exact I.list_inj h h'
  | false => exact I.tuple_inj h h'
end
theorem itk_at {h h' : Heap} {k : Bool} {t l : Addr} {i : Nat} (q : itk h k t l i) (f : ∀ o, h.get? t = some o → h'.get? t = some o) : itk h' k t l i := by
  cases k with
  | true => exact Heap.IsListIter.at q f
  | false => exact Heap.IsTupleIter.at q f
theorem itk_obj {h : Heap} {k : Bool} {t l : Addr} {i : Nat} (q : itk h k t l i) : ∃ o, h.get? t = some o ∧ ∀ v, o.data ≠ .cell v := by
  cases k with
  | true =>
    obtain ⟨o, e, _, d⟩ := q
    exact ⟨o, e, fun v z => by rw [d] at z; cases z⟩
  | false =>
    obtain ⟨o, e, _, d⟩ := q
    exact ⟨o, e, fun v z => by rw [d] at z; cases z⟩
/-- zip of the things at a and b -/
def Itz2 (K : Fg) (k m : Bool) (a b : Addr) : It :=
  ⟨fun i H => ∃ (xs ys : List V) (x y : V), Sq2 K H k a xs ∧ Sq2 K H m b ys ∧ xs[i]? = some x ∧ ys[i]? = some y,
    fun i H v H' => ∃ T x y, v = .ref T ∧ H T = none ∧ H' = upd H T (.tup [x, y]) ∧ (∀ xs, Sq2 K H k a xs → xs[i]? = some x) ∧ ∀ ys, Sq2 K H m b ys → ys[i]? = some y,
    fun i H => ∃ xs ys : List V, Sq2 K H k a xs ∧ Sq2 K H m b ys ∧ (xs.length ≤ i ∨ ys.length ≤ i) ∧ (i ≤ xs.length ∧ i ≤ ys.length)⟩
theorem sep_of {z TI TO t u a b : Addr} (D : ZipApart z TI TO t u a b) : ZipSep2 z TI TO t u [t, a] [u, b] where
  TIz := D.TIz
  TOz := D.TOz
  TITO := D.TITO
  TIi1 := D.TIi1
  mem1 := by simp
  zf1 := by simp [Ne.symm D.i1z, Ne.symm D.l1z]
  Tf1 := by simp [D.TOi1, Ne.symm D.l1TO]
  TIi2 := D.TIi2
  mem2 := by simp
  zf2 := by simp [Ne.symm D.i2z, Ne.symm D.l2z]
  Tf2 := by simp [D.TOi2, Ne.symm D.l2TO]
  sep1_2 := by simp [D.i12, Ne.symm D.l2i1]
  sep2_1 := by simp [Ne.symm D.i12, Ne.symm D.l1i2]
theorem turn_zip2 {P : Program} {w : World} {K : Fg} {elts : List Expr} {kk : Nat} {tpos : Pos} {k m : Bool} {a b z TI TO t u : Addr} (D : ZipApart z TI TO t u a b) :
    Turn P w K (.Tuple elts kk tpos) (Itz2 K k m a b) [z, TI, TO, t, u] z (fun i h => IsZip h z TI TO .none ∧ IsTupOf2 h TI (.ref t) (.ref u) ∧ (∃ x y, IsTupOf2 h TO x y) ∧ itk h k t a i ∧ itk h m u b i) := by
  have inl : ∀ {c : Addr}, c ∈ [z, TI, TO, t, u] → c = z ∨ c = TI ∨ c = TO ∨ c = t ∨ c = u := fun {c} hc => by simpa using hc
  refine ⟨by simp, fun i h st c hc => ?_, fun i h h' st kp => ?_, ?_, ?_, fun A i s Q E st h => wpAny_pyIter_zip st.1 h⟩
  · obtain ⟨hz, hI, ⟨x, y, hO⟩, h1, h2⟩ := st
    rcases inl hc with rfl | rfl | rfl | rfl | rfl
    · exact ⟨_, hz, fun v q => nomatch q⟩
    · exact ⟨_, hI, fun v q => nomatch q⟩
    · exact ⟨_, hO, fun v q => nomatch q⟩
    · exact itk_obj h1
    · exact itk_obj h2
  · obtain ⟨hz, hI, ⟨x, y, hO⟩, h1, h2⟩ := st
    exact ⟨kp _ (by simp) _ hz, kp _ (by simp) _ hI, ⟨x, y, kp _ (by simp) _ hO⟩, itk_at h1 (kp t (by simp)), itk_at h2 (kp u (by simp))⟩
  · intro X hP hw hK hc i pins s σ H E I hf st hg
    subst hP hw hK
    obtain ⟨hz, hI, ⟨x0, y0, hO⟩, h1, h2⟩ := st
    obtain ⟨xs, ys, x, y, sx, sy, ex, ey⟩ := hg
    obtain ⟨us, ru, pu, la⟩ := inv_sq2 I sx
    obtain ⟨ws, rw', pw, lb⟩ := inv_sq2 I sy
    obtain ⟨v1, g1, q1⟩ := ru.get ex
    obtain ⟨v2, g2, q2⟩ := rw'.get ey
    have l1 : i < us.toArray.size := by
      have := (List.getElem?_eq_some_iff.mp g1).1
      simpa using this
    have l2 : i < ws.toArray.size := by
      have := (List.getElem?_eq_some_iff.mp g2).1
      simpa using this
    have hh : X.A.in1.handled = none := I.ok.hd hc
    refine wpAny_pyNext_zipD2_item (sep_of D) (draws2 (A := X.A.in1) hh k t a D.l1i1 us.toArray) (draws2 (A := X.A.in1) hh m u b D.l2i2 ws.toArray) hz hI hO ⟨h1, pu⟩ ⟨h2, pw⟩ l1 l2 fun y1 y2 h' tk c1 c2 zz tt n1 n2 nt hs kp => ?_
    have c1' : us[i]? = some y1 := by simpa using c1
    have c2' : ws[i]? = some y2 := by simpa using c2
    rw [g1] at c1'
    rw [g2] at c2'
    cases c1'
    cases c2'
    have zl : z < s.heap.objs.size := Heap.lt_size hz
    refine ⟨_, rfl, wpAny_letOwnedTupleGo_zip (s := { s with heap := h', toks := tk }) zz fun h2' z2 sb => ?_⟩
    have tt2 : h2'.get? s.heap.objs.size = some { cls := .type "tuple", data := .seq #[v1, v2] } := (sb.2 _ (Nat.ne_of_gt zl)).trans nt
    have keep : ∀ c o, c ∉ [z, TI, TO, t, u] → s.heap.get? c = some o → h2'.get? c = some o := fun c o nc q => by
      simp only [List.mem_cons, List.not_mem_nil, or_false, not_or] at nc
      exact (sb.2 c nc.1).trans (kp c o nc.1 nc.2.2.1 nc.2.2.2.1 nc.2.2.2.2 q)
    have I2 : Inv X pins σ (upd H s.heap.objs.size (.tup [x, y])) { s with heap := h2', toks := tk } := I.turnedNew (t' := tk) keep hf (Nat.le_refl _) ⟨(by show 2 ≤ sizeLine; decide), [v1, v2], .cons q1 (.cons q2 .nil), ⟨_, tt2, rfl, _, rfl⟩⟩
    refine ⟨.ref s.heap.objs.size, _, I2, rfl, ⟨_, x, y, rfl, I.hok.fresh (Nat.le_refl _), rfl, fun l hl => by rw [inv_inj2 I hl sx]; exact ex, fun l hl => by rw [inv_inj2 I hl sy]; exact ey⟩, ⟨z2, ?_, ⟨v1, v2, (sb.2 _ D.TOz).trans tt⟩, itk_at n1.1 fun o q => (sb.2 _ D.i1z).trans q, itk_at n2.1 fun o q => (sb.2 _ D.i2z).trans q⟩, fun c hc' => ?_⟩
    · exact (sb.2 _ D.TIz).trans (kp _ _ D.TIz D.TITO D.TIi1 D.TIi2 hI)
    · have lt : c < s.heap.objs.size := by
        rcases inl hc' with q | q | q | q | q
        · rw [q]; exact zl
        · rw [q]; exact Heap.lt_size hI
        · rw [q]; exact Heap.lt_size hO
        · rw [q]
          obtain ⟨_, e, _⟩ := itk_obj h1
          exact Heap.lt_size e
        · rw [q]
          obtain ⟨_, e, _⟩ := itk_obj h2
          exact Heap.lt_size e
      rw [upd_ne (Nat.ne_of_lt lt)]
      exact (hf c hc').1
  · intro X hP hw hK hc i pins s σ H E I hf st hg
    subst hP hw hK
    obtain ⟨hz, hI, ⟨x0, y0, hO⟩, h1, h2⟩ := st
    obtain ⟨xs, ys, sx, sy, hend, hle1, hle2⟩ := hg
    obtain ⟨us, ru, pu, la⟩ := inv_sq2 I sx
    obtain ⟨ws, rw', pw, lb⟩ := inv_sq2 I sy
    have l1 : us.toArray.size = xs.length := by simp [ru.length]
    have l2 : ws.toArray.size = ys.length := by simp [rw'.length]
    have hh : X.A.in1.handled = none := I.ok.hd hc
    refine wpAny_pyNext_zipD2_end (sep_of D) (draws2 (A := X.A.in1) hh k t a D.l1i1 us.toArray) (draws2 (A := X.A.in1) hh m u b D.l2i2 ws.toArray) hz hI hO ⟨h1, pu⟩ ⟨h2, pw⟩ (by omega) (by omega) (by omega) fun h' tk kp => ⟨rfl, I.turnedL (t' := tk) (ch := [z, TI, TO, t, u]) (fun c o nc q => ?_) hf⟩
    simp only [List.mem_cons, List.not_mem_nil, or_false, not_or] at nc
    exact kp c o nc.1 nc.2.2.1 nc.2.2.2.1 nc.2.2.2.2 q
def itObj : Bool → Addr → Obj
  | true, l => { cls := .type "list_iterator", data := .fields #[.ref l, .int 0 0] }
  | false, l => { cls := .type "tuple_iterator", data := .fields #[.ref l, .int 0 0] }
theorem begins2 (k : Bool) (l : Addr) (xs : Array Value) : Begins (.ref l) (itObj k l) fun h => sqk h k l xs := by
  cases k with
  | true => exact begins_list l xs
  | false => exact begins_tuple l xs
theorem itObj_it {h : Heap} {k : Bool} {t l : Addr} (e : h.get? t = some (itObj k l)) : itk h k t l 0 := by
  cases k with
  | true => exact ⟨_, e, rfl, rfl⟩
  | false => exact ⟨_, e, rfl, rfl⟩
def iZip2 (K : Fg) (ta : TA) : TI := fun σ H R => ta σ H fun vs H1 => ∃ k m a b xs ys, vs = [.ref a, .ref b] ∧ Sq2 K H1 k a xs ∧ Sq2 K H1 m b ys ∧ R (Itz2 K k m a b) H1
theorem pi_zip2 {X : Cx} {e e2 : Expr} {ta : TA} {p pos tpos : Pos} {elts : List Expr} {kk : Nat} (hg : Gl X "zip") (hm : X.mg "zip" = none) (ha : PA X [e, e2] ta)
    (hs : starEach [e, e2] X.env = (false, eval e X.env) :: starEach [e2] X.env := by rfl) (hpl : (backTo pos (starEach [e2] X.env)).any (·.1) = false := by rfl) : PI X (.Tuple elts kk tpos) (.Call (.Name "zip" p) [e, e2] [] pos) (iZip2 X.K ta) := by
  refine ⟨fun pins s σ H R I h => ?_⟩
  refine Call_ (ld_blt I hg hm boot_zip (callWith_type1 (thn (ha.run pos pins s σ H _ I h) fun us s1 ⟨vs, H1, I1, r1, q1⟩ => ?_) hs hpl))
  obtain ⟨k, m, a, b, xs, ys, ev, sx, sy, q⟩ := q1
  subst ev
  obtain ⟨w1, w2, rfl, e1, e2⟩ := vals2 r1
  cases e1
  cases e2
  obtain ⟨us, ru, pu, la⟩ := inv_sq2 I1 sx
  obtain ⟨ws, rw', pw, lb⟩ := inv_sq2 I1 sy
  refine zip_begins2 (begins2 k a us.toArray) (begins2 m b ws.toArray) pu pw fun h' hz hI hO g1 g2 hsz kp => wpAny_pyIter_zip hz ?_
  have I2 : Inv X pins σ H1 { s1 with heap := h' } := I1.kept (t' := s1.toks) kp
  refine ⟨s1.heap.objs.size + 4, [s1.heap.objs.size + 4, s1.heap.objs.size + 2, s1.heap.objs.size + 3, s1.heap.objs.size, s1.heap.objs.size + 1], _, _, H1, rfl, I2, turn_zip2 (PySem.W.ktu_apart s1.heap.objs.size a b la lb), ⟨hz, hI, ⟨_, _, hO⟩, itObj_it g1, itObj_it g2⟩, fun c hc => ?_, q⟩
  have le : s1.heap.objs.size ≤ c := by
    simp only [List.mem_cons, List.not_mem_nil, or_false] at hc
    rcases hc with q | q | q | q | q
    · rw [q]; exact Nat.le_add_right _ _
    · rw [q]; exact Nat.le_add_right _ _
    · rw [q]; exact Nat.le_add_right _ _
    · rw [q]; exact Nat.le_refl _
    · rw [q]; exact Nat.le_add_right _ _
  exact I1.fpOk le (I1.hok.fresh le)
/-! ### over data -/
def seqD : D → Option (List D)
  | .lst l => some l
  | .tup l => some l
  | _ => none
def zipD (l m : List D) : List D := (l.zip m).map fun p => D.tup [p.1, p.2]
def aiZip (t : AA') : AI' := fun env R => t env fun rs env1 => match dats rs with
  | some [x, y] => (match seqD x, seqD y with
    | some l, some m => R (zipD l m) env1
    | _, _ => False)
  | _ => False
/-- a thing that is walked stays so -/
structure Stays (K : Fg) (H : Hp) (P : Ad) (k : Bool) (a : Addr) (us : List V) (ds : List D) : Prop where
  go : ∀ (P0 P2 : Ad) (H2 : Hp), (∀ a, P0 a → P a) → Go P0 P P2 H H2 → Sq2 K H2 k a us ∧ RDs K H2 P2 us ds
theorem RD.stays {K : Fg} {H : Hp} {P : Ad} {v : V} {d : D} {l : List D} (h : RD K H P v d) (e : seqD d = some l) : ∃ k a us, v = .ref a ∧ Stays K H P k a us l ∧ Sq2 K H k a us := by
  cases h with
  | tup s r => cases e; exact ⟨false, _, _, rfl, ⟨fun P0 P2 H2 sb g => ⟨(g.st sb s).sq, r.go g sb⟩⟩, s.sq⟩
  | lst s r => cases e; exact ⟨true, _, _, rfl, ⟨fun P0 P2 H2 sb g => ⟨(g.sl sb s).sq, r.go g sb⟩⟩, s.sq⟩
  | non => cases e
  | bl => cases e
  | int => cases e
  | str => cases e
  | dK => cases e
  | dT => cases e
  | obj => cases e
  | hup => cases e
  | ptr => cases e
  | scr => cases e
theorem Sq2.inj {K : Fg} {H : Hp} {k : Bool} {a : Addr} {us : List V} : True := trivial
theorem walk_zip {K : Fg} {H : Hp} {P : Ad} {k m : Bool} {a b : Addr} {us ws : List V} {l n : List D} (h1 : Stays K H P k a us l) (h2 : Stays K H P m b ws n) : WalkOk K (Itz2 K k m a b) H P (zipD l n) := by
  intro P0 P2 H2 s g hy
  obtain ⟨s1, r1⟩ := h1.go P0 P2 H2 s g
  obtain ⟨s2, r2⟩ := h2.go P0 P2 H2 s g
  have e1 := r1.length
  have e2 := r2.length
  have el : (zipD l n).length = min l.length n.length := by unfold zipD; rw [List.length_map, List.length_zip]
  refine ⟨fun i hi => ?_, us, ws, s1, s2, by rw [el]; omega, by rw [el]; omega, by rw [el]; omega⟩
  rw [el] at hi
  have hx : l[i]? = some l[i] := List.getElem?_eq_getElem (by omega)
  have hy' : n[i]? = some n[i] := List.getElem?_eq_getElem (by omega)
  obtain ⟨x, gx, rx⟩ := r1.get hx
  obtain ⟨y, gy, ry⟩ := r2.get hy'
  refine ⟨⟨us, ws, x, y, s1, s2, gx, gy⟩, fun v H3 q => ?_⟩
  obtain ⟨T, x', y', rfl, hT, rfl, f1, f2⟩ := q
  have ex := f1 us s1
  have ey := f2 ws s2
  rw [gx] at ex; cases ex
  rw [gy] at ey; cases ey
  have nT : ¬ P2 T := fun z => by
    obtain ⟨o, e, _⟩ := hy T z
    rw [hT] at e; cases e
  have sm : Same H2 (upd H2 T (.tup [x, y])) := same_upd hT
  refine ⟨sm, .tup [l[i], n[i]], ?_, .tup (.inl ⟨.inl upd_same, nT, by show 2 ≤ sizeLine; decide⟩) (.cons (rx.same sm) (.cons (ry.same sm) .nil))⟩
  unfold zipD
  rw [List.getElem?_map, (List.getElem?_zip_eq_some (z := (l[i], n[i]))).mpr ⟨hx, hy'⟩]
  rfl
theorem ai_zip {X : Cx} {e e2 : Expr} {t : AA'} {p pos tpos : Pos} {elts : List Expr} {kk : Nat} (hg : Gl X "zip") (hm : X.mg "zip" = none) (ha : AA X [e, e2] t)
    (hs : starEach [e, e2] X.env = (false, eval e X.env) :: starEach [e2] X.env := by rfl) (hpl : (backTo pos (starEach [e2] X.env)).any (·.1) = false := by rfl) : AI X (.Tuple elts kk tpos) (.Call (.Name "zip" p) [e, e2] [] pos) (aiZip t) := by
  obtain ⟨u, pa, s⟩ := ha
  refine ⟨_, pi_zip2 hg hm pa hs hpl, fun Y H σ env R Q rep q k => ?_⟩
  refine s Y H σ env _ _ rep q fun vs H1 env1 rs rep1 g1 ok q1 => ?_
  match w : dats rs, q1 with
  | some [x, y], q1 =>
    have r := ok.dats w
    cases w1 : seqD x with
    | none => simp only [w1] at q1
    | some l =>
      cases w2 : seqD y with
      | none => simp only [w1, w2] at q1
      | some m =>
        simp only [w1, w2] at q1
        match vs, r with
        | [v1, v2], .cons r1 (.cons r2 .nil) =>
          obtain ⟨k1, a, us, e1, st1, sq1⟩ := r1.stays w1
          obtain ⟨k2, b, ws, e2, st2, sq2⟩ := r2.stays w2
          subst e1
          subst e2
          exact ⟨k1, k2, a, b, us, ws, rfl, sq1, sq2, k _ H1 env1 _ rep1 g1 (walk_zip st1 st2) q1⟩
end AL
namespace AL
open PySem L2 PySem.Spec PyProof.Rows SrtO
/-! AL20: sorted(d, reverse=True) of a dict whose keys are ints; list(range(n)); a display of a dict. -/
section
variable {X : Cx} {pins : List (Addr × Obj)} {σ : L2.St} {H : Hp} {s : Shared}
theorem ints_at : ∀ {us : List Value} {ks : List Int}, us.length = ks.length → (∀ (j : Nat) (v : Value), us[j]? = some v → ∃ (x : Int) (t : Tok), ks[j]? = some x ∧ v = .int x t) → IntsAre us ks := fun {us ks} hl h => L2.ints_each hl h
def rSortedDR (b : Bool) : List V → List V → Hp → VK → Prop := fun vs zs H Q => ∃ (a : Addr) (kvs : List (Key × V)) (ns : List Int), vs = [.ref a] ∧ zs = [.bl b] ∧ Rd H a (.dK kvs) ∧ kvs.map (·.1) = ns.map Sum.inl ∧
  ∀ (ns' : List Int) (p : Addr), ns'.Perm ns → OrdB b ns' → ns'.length ≤ sizeLine → H p = none → Q (.ref p) (upd H p (.lst (ns'.map V.int)))
theorem cr_sortedDR (hcalm : X.calm = true) {b : Bool} : CallRK X (.builtin "sorted") [Str.ofString "reverse"] (rSortedDR b) := by
  intro pins s σ H vs zs us ws Q I r rz h
  obtain ⟨a, kvs, ns, rfl, rfl, hd, hks, q⟩ := h
  obtain rfl := Vals.ref1 r
  obtain ⟨w1, rfl, e1⟩ := vals1 rz
  obtain rfl : w1 = Value.bool b := e1
  obtain ⟨zl, lo, ps, rel, dd⟩ := dk_rd I.hok hd
  obtain ⟨ep, hat⟩ := dd.dictAt
  have keys : ps.map (·.1) = ns.map Sum.inl := rel.keys.symm.trans hks
  have ln : ps.length = ns.length := by
    have := congrArg List.length keys
    simpa using this
  have lk : kvs.length = ns.length := by
    have := congrArg List.length hks
    simpa using this
  have small : ps.length ≤ sizeLine := by rw [ln, ← lk]; exact zl
  refine call_function_entry_kw kind_sorted plain_sorted entry_sorted (args_sorted_rev _ _) ?_
  unfold Builtin.«sorted»
  refine wpAny_bind (m := checkCount "sorted" 1 1 _) (wpAny_pure ?_)
  refine wpAny_bind (PySem.W.kdu_collect (A := X.A.in1) (PySem.W.kdl_dict (knd := mixKind X.prog X.w) (kvs := ps) (ep := ep) lo) (I.ok.hd hcalm) hat small fun h' tk acc kp items => ?_)
  have la : acc.toList.length = ns.length := by rw [Array.length_toList, items.1, ln]
  have hi : IntsAre acc.toList ns := ints_at la fun j v e => by
    obtain ⟨k, x, e1, e2⟩ := items.2 j v (by rw [← Array.getElem?_toList]; exact e)
    have e3 : (ps.map (·.1))[j]? = some k := by rw [List.getElem?_map, e1]; rfl
    rw [keys, List.getElem?_map] at e3
    cases e4 : ns[j]? with
    | none => rw [e4] at e3; cases e3
    | some y =>
      rw [e4] at e3
      obtain rfl : Sum.inl y = k := Option.some.inj e3
      rcases keyIs_shape (show keyIs (Sum.inl y) v = true from e2) with ⟨i, t, ek, ev⟩ | ⟨z, t, ek, ev⟩
      · cases ek; exact ⟨y, t, rfl, ev⟩
      · cases ek
  have I1 : Inv X pins σ H { s with heap := h', toks := tk } := I.kept kp
  have lz : acc.toList.length ≤ sizeLine := by rw [la, ← ln]; exact small
  refine wpAny_bind (wpAny_newList ?_ lz)
  have at_ : (h'.push (seqObj "list" acc.toList.toArray 0)).get? h'.objs.size = some (seqObj "list" acc.toList.toArray 0) := Heap.get?_push_size _ rfl
  refine wpAny_bind (wpAny_holding (wpAny_call_entry_kw slot_list_sort ⟨_, at_, rfl⟩ entry_list_sort ?_ (args_list_sort_rev _ _)))
  refine SrtR.list_sort_ordR (s := { s with heap := h'.push (seqObj "list" acc.toList.toArray 0), toks := tk }) swo_int at_ lz (fun h2 => ints_sortable hi h2) fun out o1 o2 => ⟨_, rfl, ?_⟩
  obtain ⟨ns', k1, k2, k3⟩ := SrtR.ints_outR hi o1 o2
  obtain ⟨ep', he'⟩ := sortedHeap_at (vs := acc.toList) (out := if b = true then out.toArray.reverse else out.toArray) at_
  have lz' : (ns'.map V.int).length ≤ sizeLine := by rw [List.length_map, k2.length_eq, ← la]; exact lz
  have e0 : ((if b = true then out.toArray.reverse else out.toArray).toList).toArray = (if b = true then out.toArray.reverse else out.toArray) := by rw [Array.toArray_toList]
  refine wpAny_pure ⟨_, rfl, .ref h'.objs.size, upd H h'.objs.size (.lst (ns'.map V.int)), I1.laid (t' := tk) (fun c o e => ?_) (Nat.le_refl _) ⟨lz', _, ep', vals_of_ints k1, by rw [e0]; exact he'⟩, rfl, q _ _ k2 k3 (by simpa using lz') (I1.hok.fresh (Nat.le_refl _))⟩
  have lt : c < h'.objs.size := Heap.lt_size e
  rw [sortedHeap_old (Nat.ne_of_lt lt) (by rw [size_push']; exact Nat.lt_succ_of_lt lt)]
  exact Heap.get?_push_of_some _ e
end
/-- sorted(d, reverse=True) -/
def aSortedDR (a : AE') : AE' := fun env R => a env fun r env1 => match val env1 r with
  | some (.dic ks vs) => ∃ ns : List Int, ks = ns.map D.int ∧ ∀ ns' : List Int, ns'.Perm ns → ns'.Pairwise (· ≥ ·) → R (.new (.lst (ns'.map D.int))) env1
  | _ => False
theorem kd_inls : ∀ {kvs : List (Key × V)} {ns : List Int}, (kvs.map fun kv => kD kv.1) = ns.map D.int → kvs.map (·.1) = ns.map Sum.inl
  | [], [], _ => rfl
  | [], _ :: _, h => by cases h
  | _ :: _, [], h => by cases h
  | (k, v) :: r, n :: ns, h => by
    simp only [List.map_cons, List.cons.injEq] at h ⊢
    refine ⟨?_, kd_inls h.2⟩
    cases k with
    | inl i =>
      have := h.1
      simp only [kD, D.int.injEq] at this
      rw [this]
    | inr x => cases h.1
theorem ae_sortedDR {X : Cx} {e : Expr} {a : AE'} {p pos kpos p2 : Pos} {j : Nat} (hc : X.calm = true) (he : AE X e a) (hg : Gl X "sorted") (hm : X.mg "sorted" = none)
    (h1 : backTo pos (starEach [e] X.env) = (false, eval e X.env) :: backTo pos (starEach [] X.env) := by rfl) (hpl : (backTo pos (starEach [e] X.env)).any (·.1) = false := by rfl)
    (hall : (backToKw pos (keywordEach [⟨some "reverse", .Constant (.bool true) j p2, kpos⟩] X.env)).all (·.1.isSome) = true := by rfl) (hnone : (backToKw pos (keywordEach [⟨some "reverse", .Constant (.bool true) j p2, kpos⟩] X.env)).any (·.1.isNone) = false := by rfl)
    (hks : (backToKw pos (keywordEach [⟨some "reverse", .Constant (.bool true) j p2, kpos⟩] X.env)).filterMap (·.1) = [Str.ofString "reverse"] := by rfl) (hna : starEach [e] X.env = (false, eval e X.env) :: starEach [] X.env := by rfl) :
    AE X (.Call (.Name "sorted" p) [e] [⟨some "reverse", .Constant (.bool true) j p2, kpos⟩] pos) (aSortedDR a) := by
  obtain ⟨t, pe, s⟩ := he
  refine ⟨_, pe_callBK (cr_sortedDR (b := true) hc) hg hm PyProof.Rows.boot_sorted (pa_cons pe pa_nil hna) (pk_cons pe_bl pk_nil) (by decide) (by decide) h1 hpl hall hnone hks, fun Y H σ env R Q rep q k => ?_⟩
  refine s Y H σ env _ _ rep q fun v H1 env1 r Y1 rep1 g1 ok1 q1 => ?_
  obtain ⟨d, e1, c⟩ := ok1.rc rep1
  simp only [e1] at q1
  match d, c, q1 with
  | .dic ks vs, c, q1 =>
    obtain ⟨ns, rfl, q1⟩ := q1
    obtain ⟨p, ev, kvs, hd, ek, rv⟩ := c.dic
    subst ev
    have repY := rep1.less g1.yu
    refine ⟨p, kvs, ns, rfl, rfl, hd, kd_inls ek.symm, fun ns' l pm od lz n => ?_⟩
    exact fin_lst (F := fun z => R z env1) repY (fun w H4 z Y4 rep4 g4 ok4 q4 => k w H4 env1 z Y4 rep4 (g1.drop.trans g4) ok4 q4) (RDs.ints ns') (by rw [List.length_map]; exact lz) (q1 ns' pm od) n
/-! ### list(range(n)) -/
def aListRg (a : AE') : AE' := fun env R => a env fun r env1 => match val env1 r with
  | some (.int n) => -(2 ^ 62) ≤ n ∧ n ≤ 16777216 ∧ R (.new (.lst (rangeD 0 n.toNat))) env1
  | _ => False
theorem rds_range {K : Fg} {H : Hp} {P : Ad} (n : Int) : RDs K H P (rgV 0 n) (rangeD 0 n.toNat) := by
  have e : rgV 0 n = ((List.range n.toNat).map fun i => (0 : Int) + (i : Nat)).map V.int := by
    unfold rgV
    rw [List.map_map, Int.sub_zero]
    rfl
  have e2 : rangeD 0 n.toNat = ((List.range n.toNat).map fun i => (0 : Int) + (i : Nat)).map D.int := by
    unfold rangeD
    rw [List.map_map]
    rfl
  rw [e, e2]
  exact RDs.ints _
theorem ae_listRg {X : Cx} {e : Expr} {a : AE'} {p pos p2 pos2 : Pos} (hc : X.calm = true) (he : AE X e a) (hl : Gl X "list") (ml : X.mg "list" = none) (hg : Gl X "range") (hm : X.mg "range" = none)
    (na : starEach [e] X.env = (false, eval e X.env) :: starEach [] X.env := by rfl) (nb : starEach [.Call (.Name "range" p) [e] [] pos] X.env = (false, eval (.Call (.Name "range" p) [e] [] pos) X.env) :: starEach [] X.env := by rfl) :
    AE X (.Call (.Name "list" p2) [.Call (.Name "range" p) [e] [] pos] [] pos2) (aListRg a) := by
  obtain ⟨t, pe, s⟩ := he
  refine ⟨_, pe_listRg hc hl ml (prg_1 hg hm pe na) nb, fun Y H σ env R Q rep q k => ?_⟩
  refine s Y H σ env _ _ rep q fun v H1 env1 r Y1 rep1 g1 ok1 q1 => ?_
  obtain ⟨d, e1, c⟩ := ok1.rc rep1
  simp only [e1] at q1
  match d, c, q1 with
  | .int n, c, q1 =>
    refine ⟨n, c.int, ⟨by omega, by omega, q1.1, by omega, by omega⟩, fun l nl => ?_⟩
    have ln : (rangeD 0 n.toNat).length ≤ sizeLine := by
      unfold rangeD
      rw [List.length_map, List.length_range, sizeLine_eq]
      omega
    exact fin_lst (F := fun z => R z env1) (rep1.less g1.yu) (fun w H4 z Y4 rep4 g4 ok4 q4 => k w H4 env1 z Y4 rep4 (g1.drop.trans g4) ok4 q4) (rds_range n) ln q1.2.2 nl
/-! ### {k: v, ..} -/
def aPairs : List (AE' × AE') → AEnv → (List D → List D → AEnv → Prop) → Prop
  | [], env, R => R [] [] env
  | (k, v) :: r, env, R => aFrz k env fun rk env1 => aFrz v env1 fun rv env2 => match rk, rv with
    | .dat dk, .dat dv => aPairs r env2 fun ks vs env3 => R (dk :: ks) (dv :: vs) env3
    | _, _ => False
def aDisp (ps : List (AE' × AE')) : AE' := fun env R => aPairs ps env fun ks vs env1 => ks.all isKey = true ∧ ks.Nodup ∧ ks.length ≤ 15 ∧ R (.new (.dic ks vs)) env1
def SndPs (K : Fg) (ts : List (TE × TE)) (ps : List (AE' × AE')) : Prop := ∀ (Y : Ad) (H : Hp) (σ : L2.St) (env : AEnv) (R : List D → List D → AEnv → Prop) (Q : List (V × V) → Hp → Prop), Rep K Y H σ env → aPairs ps env R →
  (∀ us H' env' ks vs, Rep K Y H' σ env' → Adv σ Y env H Y env' H' → RDs K H' (Pw Y σ env') (us.map (·.1)) ks → RDs K H' (Pw Y σ env') (us.map (·.2)) vs → R ks vs env' → Q us H') → tPairs ts σ H Q
def APs (X : Cx) (pos : Pos) (keys : List (Option Expr)) (values : List Expr) (ps : List (AE' × AE')) : Prop := ∃ ts, PPs X pos keys values ts ∧ SndPs X.K ts ps
section
variable {X : Cx} {pos : Pos} {k v : Expr} {keys : List (Option Expr)} {values : List Expr} {ps : List (AE' × AE')} {fk fv : AE'}
theorem aps_nil : APs X pos [] [] [] := ⟨[], pps_nil, fun Y H σ env R Q rep q k => k [] H env [] [] rep Adv.refl .nil .nil q⟩
theorem aps_cons (hk : AE X k fk) (hv : AE X v fv) (hr : APs X pos keys values ps) : APs X pos (some k :: keys) (v :: values) ((fk, fv) :: ps) := by
  obtain ⟨t1, p1, s1⟩ := hk.frz
  obtain ⟨t2, p2, s2⟩ := hv.frz
  obtain ⟨ts, p3, s3⟩ := hr
  refine ⟨_, pps_cons p1 p2 p3, fun Y H σ env R Q rep q kk => ?_⟩
  refine s1 Y H σ env _ _ rep q fun x H1 env1 r1 Y1 rep1 g1 ok1 q1 => ?_
  refine s2 Y1 H1 σ env1 _ _ rep1 q1 fun y H2 env2 r2 Y2 rep2 g2 ok2 q2 => ?_
  match r1, ok1, r2, ok2, q2 with
  | .dat dk, ok1, .dat dv, ok2, q2 =>
    obtain ⟨ey1, rd1⟩ := ok1
    obtain ⟨ey2, rd2⟩ := ok2
    subst ey1
    subst ey2
    refine s3 Y2 H2 σ env2 _ _ rep2 q2 fun us H3 env3 ks vs rep3 g3 a b q3 => ?_
    exact kk ((x, y) :: us) H3 env3 (dk :: ks) (dv :: vs) rep3 ((g1.trans g2).trans g3) (.cons ((g2.trans g3).rd rd1) a) (.cons (g3.rd rd2) b) q3
theorem kvs_of {K : Fg} {H : Hp} {P : Ad} : ∀ {us : List (V × V)} {ks vs : List D}, RDs K H P (us.map (·.1)) ks → RDs K H P (us.map (·.2)) vs → ks.all isKey = true → ∃ kvs : List (Key × V), us = kvs.map (fun kv => (kV kv.1, kv.2)) ∧ ks = kvs.map (fun kv => kD kv.1) ∧ RDs K H P (kvs.map (·.2)) vs
  | [], _, _, .nil, .nil, _ => ⟨[], rfl, rfl, .nil⟩
  | (x, y) :: us, dk :: ks, dv :: vs, .cons r1 t1, .cons r2 t2, h => by
    rw [List.all_cons, Bool.and_eq_true] at h
    obtain ⟨key, rfl⟩ := isKey_of h.1
    obtain ⟨kvs, e1, e2, r⟩ := kvs_of t1 t2 h.2
    have ex : x = kV key := RC.key (.inl r1)
    subst ex
    exact ⟨(key, y) :: kvs, by rw [e1]; rfl, by rw [e2]; rfl, .cons r2 r⟩
theorem merge_nodup : ∀ (kvs acc : List (Key × V)), ((acc ++ kvs).map fun kv => kD kv.1).Nodup → mergeK acc kvs = acc ++ kvs
  | [], acc, _ => by simp [mergeK]
  | (key, v) :: r, acc, h => by
    have nk : ¬ (acc.any fun kv => decide (kv.1 = key)) = true := fun z => by
      have m := (mem_key kD_inj key acc).mpr z
      rw [List.map_append, List.nodup_append] at h
      exact h.2.2 _ m _ List.mem_cons_self rfl
    have e : putK acc key v = acc ++ [(key, v)] := by
      unfold putK
      rw [if_neg nk]
    have := merge_nodup r (acc ++ [(key, v)]) (by rw [List.append_assoc]; exact h)
    rw [List.append_assoc] at this
    have e2 : mergeK acc ((key, v) :: r) = mergeK (putK acc key v) r := rfl
    rw [e2, e]
    exact this
theorem ae_disp (h : APs X pos keys values ps) (hall : keys.all (·.isSome) = true := by rfl) (hl : keys.length = values.length := by rfl) (h0 : keys ≠ [] := by exact fun h => by cases h) (h15 : keys.length ≤ 15 := by decide) : AE X (.Dict keys values pos) (aDisp ps) := by
  obtain ⟨ts, p, s⟩ := h
  refine ⟨_, pe_disp p hall hl h0 h15, fun Y H σ env R Q rep q k => ?_⟩
  intro a ha
  have nf := rep.fresh ha
  have sm : Same H (upd H a (.dK [])) := same_upd ha
  have yn : ∀ b, (Y b ∨ b = a) → Y b ∨ H b = none := fun b z => z.imp id fun e => by rw [e]; exact ha
  have rep1 : Rep X.K (fun b => Y b ∨ b = a) (upd H a (.dK [])) σ env := rep.grow yn sm fun b z => by
    rcases z with z | z
    · obtain ⟨o, e, m⟩ := rep.yim b z
      exact ⟨o, sm b o e, m⟩
    · subst z
      exact ⟨_, upd_same, trivial⟩
  have g0 : Adv σ Y env H (fun b => Y b ∨ b = a) env (upd H a (.dK [])) := Adv.grow rep sm (fun _ z => .inl z) yn
  refine s _ _ σ env _ _ rep1 q fun us H2 env2 ks vs rep2 g2 r1 r2 q2 => ?_
  have hp : H2 a = some (.dK []) := (g2.ky a (.inr rfl)).trans upd_same
  obtain ⟨isk, nd, l15, q2⟩ := q2
  obtain ⟨kvs, e1, e2, r⟩ := kvs_of r1 r2 isk
  have em : mergeK [] kvs = kvs := by
    have := merge_nodup kvs [] (by rw [List.nil_append, ← e2]; exact nd)
    rwa [List.nil_append] at this
  refine ⟨hp, kvs, e1, by rw [e2, List.length_map] at l15; exact l15, ?_⟩
  rw [em]
  -- the dict is filled
  have n2 : ¬ Own σ env2 a := fun ⟨i, d, e, w⟩ => (rep2.ownY e w).1 (.inr rfl)
  have kp : ∀ b o, H2 b = some o → b ≠ a → (upd H2 a (.dK kvs)) b = some o := fun b o e nb => by rw [upd_ne nb]; exact e
  have go : Go (fun b => b = a) (Pw (fun b => Y b ∨ b = a) σ env2) (Pw (fun b => Y b ∨ b = a) σ env2) H2 (upd H2 a (.dK kvs)) := ⟨fun b o e nb => .inl (kp b o e nb), fun _ z => .inl z⟩
  have sub : ∀ b, b = a → Pw (fun b => Y b ∨ b = a) σ env2 b := fun b e => .inl (.inr e)
  have rep3 : Rep X.K (fun b => Y b ∨ b = a) (upd H2 a (.dK kvs)) σ env2 := by
    refine ⟨rep2.len, fun i d e => ?_, fun i d e => ?_, fun b z => ?_, rep2.inj, rep2.ony⟩
    · obtain ⟨v, w, rd⟩ := rep2.dat i d e
      exact ⟨v, w, rd.go go sub⟩
    · obtain ⟨p', w, np, ro⟩ := rep2.own i d e
      exact ⟨p', w, np, RO.go go sub (upd_ne fun e' => n2 (by rw [← e']; exact ⟨i, d, e, .inl w⟩)) (fun q' m => upd_ne fun e' => n2 (by rw [← e']; exact ⟨i, d, e, .inr m⟩)) ro⟩
    · by_cases e : b = a
      · subst e; exact ⟨_, upd_same, trivial⟩
      · obtain ⟨o, w, m⟩ := rep2.yim b z
        exact ⟨o, by rw [upd_ne e]; exact w, m⟩
  refine k _ (upd H2 a (.dK kvs)) env2 (.new (.dic ks vs)) _ rep3 ?_ ⟨a, rfl, rfl, fun z => ?_, kvs, upd_same, e2, r.go go sub⟩ q2
  · have g3 := g0.trans g2
    refine ⟨fun b o e n => ?_, fun b z => ?_, g3.yu, g3.yn, g3.sh, g3.ow, fun b o e => ?_⟩
    · have nb : b ≠ a := fun e' => by subst e'; rw [ha] at e; cases e
      have := g3.keep b o e n
      unfold KeepO at this ⊢
      rw [upd_ne nb]
      exact this
    · have nb : b ≠ a := fun e' => nf (.inl (e' ▸ z))
      rw [upd_ne nb]
      exact g3.ky b z
    · by_cases nb : b = a
      · subst nb; exact ⟨_, upd_same⟩
      · rw [upd_ne nb]
        exact g3.live b o e
  · rcases z with z | z
    · exact nf (.inl z)
    · exact n2 z
end
end AL
namespace AL
open PySem L2
/-! AL21: short names for the printed derivations. -/
def fSub : Op2 := fI0 fun i j => .int (i - j)
def fMul : Op2 := fII CMul fun i j => .int (i * j)
def fDiv : Op2 := fII CDiv fun i j => .int (i / j)
def fMod : Op2 := fII (fun _ j => 0 < j) fun i j => .int (i % j)
def fPow : Op2 := fII CPow fun i j => .int (i ^ j.toNat)
def fLt : Op2 := fI0 fun i j => .bl (decide (i < j))
def fLe : Op2 := fI0 fun i j => .bl (decide (i ≤ j))
def fGt : Op2 := fI0 fun i j => .bl (decide (j < i))
def fGe : Op2 := fI0 fun i j => .bl (decide (j ≤ i))
section
variable {X : Cx} {a b : Expr} {fa fb : AE'} {pos : Pos} {k : Nat}
theorem ae_add (ha : AE X a fa) (hb : AE X b fb) : AE X (.BinOp a .Add b pos) (aOp fAdd fa fb) := ae_op or_add (os_add _) ha hb
theorem ae_sub (ha : AE X a fa) (hb : AE X b fb) : AE X (.BinOp a .Sub b pos) (aOp fSub fa fb) := ae_op op_sub os_i0 ha hb
theorem ae_mul (ha : AE X a fa) (hb : AE X b fb) : AE X (.BinOp a .Mult b pos) (aOp fMul fa fb) := ae_op op_mul os_ii ha hb
theorem ae_div (ha : AE X a fa) (hb : AE X b fb) : AE X (.BinOp a .FloorDiv b pos) (aOp fDiv fa fb) := ae_op op_fdiv os_ii ha hb
theorem ae_mod (ha : AE X a fa) (hb : AE X b fb) : AE X (.BinOp a .Mod b pos) (aOp fMod fa fb) := ae_op op_mod os_ii ha hb
theorem ae_pow (ha : AE X a fa) (hb : AE X b fb) : AE X (.BinOp a .Pow b pos) (aOp fPow fa fb) := ae_op op_pow os_ii ha hb
theorem ae_lt (ha : AE X a fa) (hb : AE X b fb) : AE X (.Compare a [.Lt] [b] pos) (aOp fLt fa fb) := ae_cmpR op_lt os_b0 ha hb (nomark _)
theorem ae_le (ha : AE X a fa) (hb : AE X b fb) : AE X (.Compare a [.LtE] [b] pos) (aOp fLe fa fb) := ae_cmpR op_le os_b0 ha hb (nomark _)
theorem ae_gt (ha : AE X a fa) (hb : AE X b fb) : AE X (.Compare a [.Gt] [b] pos) (aOp fGt fa fb) := ae_cmpR op_gt os_b0 ha hb (nomark _)
theorem ae_ge (ha : AE X a fa) (hb : AE X b fb) : AE X (.Compare a [.GtE] [b] pos) (aOp fGe fa fb) := ae_cmpR op_ge os_b0 ha hb (nomark _)
theorem at_lt (ha : AE X a fa) (hb : AE X b fb) : AT X (.Compare a [.Lt] [b] pos) (aB (aOp fLt fa fb)) := at_cmp op_lt os_b0 ha hb (nomark _)
theorem at_le (ha : AE X a fa) (hb : AE X b fb) : AT X (.Compare a [.LtE] [b] pos) (aB (aOp fLe fa fb)) := at_cmp op_le os_b0 ha hb (nomark _)
theorem at_gt (ha : AE X a fa) (hb : AE X b fb) : AT X (.Compare a [.Gt] [b] pos) (aB (aOp fGt fa fb)) := at_cmp op_gt os_b0 ha hb (nomark _)
theorem at_ge (ha : AE X a fa) (hb : AE X b fb) : AT X (.Compare a [.GtE] [b] pos) (aB (aOp fGe fa fb)) := at_cmp op_ge os_b0 ha hb (nomark _)
theorem ae_eq (hr : Room k X.A) (ha : AE X a fa) (hb : AE X b fb) : AE X (.Compare a [.Eq] [b] pos) (aOp fEq fa fb) := ae_cmpR (op_eqD (by have := hr.un; omega)) (os_eq _) ha hb (nomark _)
theorem ae_ne (hr : Room k X.A) (ha : AE X a fa) (hb : AE X b fb) : AE X (.Compare a [.NotEq] [b] pos) (aOp fNe fa fb) := ae_cmpR (op_neD (by have := hr.un; omega)) (os_ne _) ha hb (nomark _)
theorem at_eq (hr : Room k X.A) (ha : AE X a fa) (hb : AE X b fb) : AT X (.Compare a [.Eq] [b] pos) (aB (aOp fEq fa fb)) := at_cmp (op_eqD (by have := hr.un; omega)) (os_eq _) ha hb (nomark _)
theorem at_ne (hr : Room k X.A) (ha : AE X a fa) (hb : AE X b fb) : AT X (.Compare a [.NotEq] [b] pos) (aB (aOp fNe fa fb)) := at_cmp (op_neD (by have := hr.un; omega)) (os_ne _) ha hb (nomark _)
theorem ae_isN (ha : AE X a fa) (hb : AE X b fb) : AE X (.Compare a [.Is] [b] pos) (aOp fIsN fa fb) := ae_cmpR op_isN (os_isN _) ha hb (nomark _)
theorem ae_notN (ha : AE X a fa) (hb : AE X b fb) : AE X (.Compare a [.IsNot] [b] pos) (aOp fNotN fa fb) := ae_cmpR op_notN (os_notN _) ha hb (nomark _)
theorem at_isN (ha : AE X a fa) (hb : AE X b fb) : AT X (.Compare a [.Is] [b] pos) (aB (aOp fIsN fa fb)) := at_cmp op_isN (os_isN _) ha hb (nomark _)
theorem at_notN (ha : AE X a fa) (hb : AE X b fb) : AT X (.Compare a [.IsNot] [b] pos) (aB (aOp fNotN fa fb)) := at_cmp op_notN (os_notN _) ha hb (nomark _)
theorem ae_in (hr : Room k X.A) (ha : AE X a fa) (hb : AE X b fb) (hm : behindInMarks .In b = false := by rfl) : AE X (.Compare a [.In] [b] pos) (aOp (fIn false) fa fb) := ae_cmpR (or_in hr) (os_in _) ha hb hm
theorem ae_notIn (hr : Room k X.A) (ha : AE X a fa) (hb : AE X b fb) (hm : behindInMarks .NotIn b = false := by rfl) : AE X (.Compare a [.NotIn] [b] pos) (aOp (fIn true) fa fb) := ae_cmpR (or_notIn hr) (os_notIn _) ha hb hm
theorem at_in (hr : Room k X.A) (ha : AE X a fa) (hb : AE X b fb) (hm : behindInMarks .In b = false := by rfl) : AT X (.Compare a [.In] [b] pos) (aB (aOp (fIn false) fa fb)) := at_cmp (or_in hr) (os_in _) ha hb hm
theorem at_notIn (hr : Room k X.A) (ha : AE X a fa) (hb : AE X b fb) (hm : behindInMarks .NotIn b = false := by rfl) : AT X (.Compare a [.NotIn] [b] pos) (aB (aOp (fIn true) fa fb)) := at_cmp (or_notIn hr) (os_notIn _) ha hb hm
end
/-- a def of the module as it stands there -/
structure DefAt (K : Fg) (mg : Str → Option Value) (x : Str) (st : Stmt) (ps : List Str) (f : Addr) (fd : FuncData) : Prop where
  fn : Fun K x x st f fd
  mg : mg x = some (.ref f)
  kp : PySem.W.keepIn K (.ref f) = true
  bi : Binds K fd ps []
/-- a method of a class -/
structure MethAt (K : Fg) (C : Addr) (x qual : Str) (st : Stmt) (ps : List Str) (f : Addr) (fd : FuncData) : Prop where
  fn : Fun K x qual st f fd
  me : Meth K C x f
  bi : Binds K fd ps []
/-- a class with a plain __init__ -/
structure ClsAt (K : Fg) (mg : Str → Option Value) (x qual : Str) (st : Stmt) (ps : List Str) (C f : Addr) (fd : FuncData) : Prop where
  cl : Cls K C
  ma : Mk K C f
  mg : mg x = some (.ref C)
  fn : Fun K "__init__" qual st f fd
  bi : Binds K fd ps []
end AL
namespace AL
open PySem L2
/-! AL22: tuples that are known to stand in the heap (hup), dicts whose keys are tuples. -/
def hupD (l : List D) : D := .dit l (.non :: l)
def kT (k : List Key) : D := .tup (k.map kD)
theorem kT_inj {a b : List Key} (h : kT a = kT b) : a = b := by
  injection h with h
  exact map_kD_inj h
/-- a heap tuple is a tuple -/
def hupL : D → Option (List D)
  | .dit l (.non :: m) => if m = l then some l else none
  | _ => none
theorem hupL_of {d : D} {l : List D} (h : hupL d = some l) : d = hupD l := by
  unfold hupL at h
  split at h
  · rename_i a m
    by_cases e : m = a
    · rw [if_pos e] at h
      cases h
      subst e
      rfl
    · rw [if_neg e] at h; cases h
  · cases h
theorem hupL_hup (l : List D) : hupL (hupD l) = some l := by
  show (if l = l then some l else none) = some l
  rw [if_pos rfl]
theorem RC.hup {K : Fg} {H : Hp} {P : Ad} {v : V} {l : List D} (h : RC K H P v (hupD l)) : ∃ a us, v = .ref a ∧ H a = some (.tup us) ∧ ¬ P a ∧ us.length ≤ sizeLine ∧ RDs K H P us l := by
  have lens : ∀ {kvs : List (List Key × V)}, l = (kvs.map fun kv => D.tup (kv.1.map kD)) → RDs K H P (kvs.map (·.2)) (.non :: l) → False := fun {kvs} e r => by
    have h1 := r.length
    have h2 := congrArg List.length e
    rw [List.length_map, List.length_cons] at h1
    rw [List.length_map] at h2
    omega
  rcases h with h | ⟨p, e, h⟩
  · unfold hupD at h
    cases h with
    | dT s n e r => exact (lens e r).elim
    | hup s n z r => exact ⟨_, _, rfl, s, n, z, r⟩
  · obtain ⟨kvs, q, e2, r⟩ := (show ∃ kvs, H p = some (.dT kvs) ∧ l = (kvs.map fun kv => D.tup (kv.1.map kD)) ∧ RDs K H P (kvs.map (·.2)) (.non :: l) from h)
    exact (lens e2 r).elim
theorem RC.hupKey {K : Fg} {H : Hp} {P : Ad} {v : V} {k : List Key} (h : RC K H P v (hupD (k.map kD))) : ∃ b, v = .ref b ∧ H b = some (.tup (k.map kV)) := by
  obtain ⟨a, us, e, s, _, _, r⟩ := h.hup
  rw [r.keys] at s
  exact ⟨a, e, s⟩
/-- a heap tuple read as a tuple -/
def aW (a : AE') : AE' := fun env R => a env fun r env1 => match r with
  | .dat d => match hupL d with
    | some l => R (.dat (.tup l)) env1
    | none => False
  | _ => False
theorem AE.w {X : Cx} {e : Expr} {a : AE'} (h : AE X e a) : AE X e (aW a) := by
  obtain ⟨t, p, s⟩ := h
  refine ⟨t, p, fun Y H σ env R Q rep q k => ?_⟩
  refine s Y H σ env _ _ rep q fun v H1 env1 r Y1 rep1 g1 ok1 q1 => ?_
  match r, ok1, q1 with
  | .dat d, ok1, q1 =>
    obtain ⟨ey, rd⟩ := ok1
    cases w : hupL d with
    | none => simp only [w] at q1
    | some l =>
      simp only [w] at q1
      have := hupL_of w
      subst this
      obtain ⟨a, us, e, s, n, z, r⟩ := RC.hup (.inl rd)
      subst e
      exact k _ H1 env1 (.dat (.tup l)) Y1 rep1 g1 ⟨ey, .tup (.inl ⟨.inl s, n, z⟩) r⟩ q1
/-- tuple(list): a new tuple -/
def fTupleH : Op1 := fun d F => match d with
  | .lst l => F (.dat (hupD l))
  | _ => False
/-! dicts with tuples as keys -/
theorem dit_get {K : Fg} {H : Hp} {P : Ad} {v : V} {ks vs : List D} {k : List Key} {y : V} (h : RC K H P v (.dit ks vs)) (hl : vs.length = ks.length) (hy : RC K H P y (hupD (k.map kD))) :
    ∃ p ov, v = .ref p ∧ DGet H p y ov ∧ IsD H p ∧ (ov.isSome = decide (kT k ∈ ks)) ∧ (∀ d, dGet ks vs (kT k) = some d → ∃ w, ov = some w ∧ RD K H P w d) ∧ (dGet ks vs (kT k) = none → ov = none) := by
  obtain ⟨p, e, kvs, hp, rfl, r⟩ := h.dit hl
  obtain ⟨b, eb, hb⟩ := hy.hupKey
  refine ⟨p, valV kvs k, e, .inr ⟨kvs, k, b, hp, eb, hb, rfl⟩, .inr ⟨kvs, hp⟩, ?_, ?_⟩
  · rw [← valV_any k kvs, Bool.eq_iff_iff, decide_eq_true_iff]
    exact (mem_key (g := kT) kT_inj k kvs).symm
  · rcases get_val (g := kT) kT_inj k r with ⟨d, w, e1, e2, r1⟩ | ⟨e1, e2⟩
    · refine ⟨fun d' q => ?_, fun q => ?_⟩
      · have q' : dGet (kvs.map fun kv => kT kv.1) vs (kT k) = some d' := q
        rw [e1] at q'; cases q'
        exact ⟨w, e2, r1⟩
      · have q' : dGet (kvs.map fun kv => kT kv.1) vs (kT k) = none := q
        rw [e1] at q'; cases q'
    · refine ⟨fun d' q => ?_, fun q => e2⟩
      have q' : dGet (kvs.map fun kv => kT kv.1) vs (kT k) = some d' := q
      rw [e1] at q'; cases q'
/-- a dict, its tuple key, as data -/
def ditK (d k : D) : Option (List D × List D × List D) := match d, hupL k with
  | .dit ks vs, some l => if vs.length = ks.length ∧ l.all isKey = true then some (ks, vs, l) else none
  | _, _ => none
theorem ditK_of {d k : D} {ks vs l : List D} (h : ditK d k = some (ks, vs, l)) : d = .dit ks vs ∧ vs.length = ks.length ∧ ∃ kk : List Key, k = hupD (kk.map kD) ∧ l = kk.map kD := by
  unfold ditK at h
  split at h
  · rename_i a b m e
    split at h
    · rename_i c
      cases h
      obtain ⟨kk, rfl⟩ := keys_of c.2
      exact ⟨rfl, c.1, kk, hupL_of e, rfl⟩
    · cases h
  · cases h
theorem ditK_mk {ks vs l : List D} (h : vs.length = ks.length) (hk : l.all isKey = true) : ditK (.dit ks vs) (hupD l) = some (ks, vs, l) := by
  unfold ditK
  rw [hupL_hup]
  show (if vs.length = ks.length ∧ l.all isKey = true then some (ks, vs, l) else none) = _
  rw [if_pos ⟨h, hk⟩]
@[irreducible] def fIxT : Op2 := fun d k F => ∃ ks vs l z, ditK d k = some (ks, vs, l) ∧ dGet ks vs (.tup l) = some z ∧ F (.dat z)
@[irreducible] def fInT (neg : Bool) : Op2 := fun k d F => ∃ ks vs l, ditK d k = some (ks, vs, l) ∧ F (.dat (.bl (if neg then !decide (.tup l ∈ ks) else decide (.tup l ∈ ks))))
theorem os_ixT (K : Fg) : OpS K (fun x y H Q => ∃ a v, x = .ref a ∧ DGet H a y (some v) ∧ Q v H) fIxT := by
  intro Y H σ env x y d e F Q R cx cy f k
  unfold fIxT at f
  obtain ⟨ks, vs, l, z, ek, e1, f⟩ := f
  obtain ⟨rfl, hl, kk, rfl, rfl⟩ := ditK_of ek
  obtain ⟨p, ov, e2, g, _, _, h3, _⟩ := dit_get cx hl cy
  obtain ⟨w, rfl, r⟩ := h3 z e1
  exact ⟨p, w, e2, g, fin_dat R k r f⟩
theorem os_inT (K : Fg) : OpS K (rInDc false) (fInT false) := by
  intro Y H σ env x y d e F Q R cx cy f k
  unfold fInT at f
  obtain ⟨ks, vs, l, ek, f⟩ := f
  obtain ⟨rfl, hl, kk, rfl, rfl⟩ := ditK_of ek
  obtain ⟨p, ov, e1, g, _, e2, _⟩ := dit_get cy hl cx
  refine ⟨p, ov, e1, g, ?_⟩
  show Q (.bl ov.isSome) H
  rw [e2]
  exact fin_dat R k (.bl _) f
theorem os_notInT (K : Fg) : OpS K (rInDc true) (fInT true) := by
  intro Y H σ env x y d e F Q R cx cy f k
  unfold fInT at f
  obtain ⟨ks, vs, l, ek, f⟩ := f
  obtain ⟨rfl, hl, kk, rfl, rfl⟩ := ditK_of ek
  obtain ⟨p, ov, e1, g, _, e2, _⟩ := dit_get cy hl cx
  refine ⟨p, ov, e1, g, ?_⟩
  show Q (.bl (!ov.isSome)) H
  rw [e2]
  exact fin_dat R k (.bl _) f
section
variable {X : Cx} {a b : Expr} {fa fb : AE'} {pos : Pos} {j : Nat}
theorem ae_ixT (hr : Room j X.A) (ha : AE X a fa) (hb : AE X b fb) (hs : PlainIx b := by exact fun _ _ => rfl) : AE X (.Subscript a b pos) (aOp fIxT fa fb) := by
  obtain ⟨t, p, s⟩ := ha
  obtain ⟨t2, p2, s2⟩ := hb
  exact ⟨_, pe_ix (ix_dict (by have := hr.un; omega)) p p2 hs, snd_op (os_ixT X.K) s s2⟩
theorem ae_inT (hr : Room j X.A) (ha : AE X a fa) (hb : AE X b fb) (hm : behindInMarks .In b = false := by rfl) : AE X (.Compare a [.In] [b] pos) (aOp (fInT false) fa fb) := ae_cmpR (op_inDc (by have := hr.un; omega)) (os_inT _) ha hb hm
theorem ae_notInT (hr : Room j X.A) (ha : AE X a fa) (hb : AE X b fb) (hm : behindInMarks .NotIn b = false := by rfl) : AE X (.Compare a [.NotIn] [b] pos) (aOp (fInT true) fa fb) := ae_cmpR (op_notInDc (by have := hr.un; omega)) (os_notInT _) ha hb hm
theorem at_inT (hr : Room j X.A) (ha : AE X a fa) (hb : AE X b fb) (hm : behindInMarks .In b = false := by rfl) : AT X (.Compare a [.In] [b] pos) (aB (aOp (fInT false) fa fb)) := at_cmp (op_inDc (by have := hr.un; omega)) (os_inT _) ha hb hm
theorem at_notInT (hr : Room j X.A) (ha : AE X a fa) (hb : AE X b fb) (hm : behindInMarks .NotIn b = false := by rfl) : AT X (.Compare a [.NotIn] [b] pos) (aB (aOp (fInT true) fa fb)) := at_cmp (op_notInDc (by have := hr.un; omega)) (os_notInT _) ha hb hm
end
/-! d.get(k, e) -/
@[irreducible] def getT (d k e : D) (R : D → Prop) : Prop := ∃ ks vs l, ditK d k = some (ks, vs, l) ∧ R ((dGet ks vs (.tup l)).getD e)
def isDit : D → Bool
  | .dit ks vs => decide (vs.length = ks.length)
  | _ => false
def aGetT (o k e : AE') : AE' := fun env R => o env fun r env1 => (∃ d, val env1 r = some d ∧ isDit d = true) ∧ aFrz k env1 fun rk env2 => aFrz e env2 fun re env3 => match val env3 r, rk, re with
  | some d, .dat key, .dat dflt => getT d key dflt fun z => R (.dat z) env3
  | _, _, _ => False
theorem ae_getT {X : Cx} {o e f : Expr} {apos cpos : Pos} {fo fk fe : AE'} {j : Nat} (hr : Room j X.A) (ho : AE X o fo) (hk : AE X e fk) (he : AE X f fe) (m : M2 X o "get" apos e f cpos := by exact ⟨rfl, rfl, rfl, rfl⟩) : AE X (.Call (.Attribute o "get" apos) [e, f] [] cpos) (aGetT fo fk fe) := by
  obtain ⟨t1, p1, s1⟩ := ho
  obtain ⟨t2, p2, s2⟩ := hk.frz
  obtain ⟨t3, p3, s3⟩ := he.frz
  refine ⟨_, pe_dget2 (by have := hr.un; omega) p1 p2 p3 m, fun Y H σ env R Q rep q k => ?_⟩
  refine s1 Y H σ env _ _ rep q fun v H1 env1 r1 Y1 rep1 g1 ok1 q1 => ?_
  obtain ⟨⟨d0, e0, isd⟩, q1⟩ := q1
  obtain ⟨d1, e1, c1⟩ := ok1.rc rep1
  rw [e0] at e1
  cases e1
  match d0, c1, isd with
  | .dit ks0 vs0, c1, isd =>
    obtain ⟨p, ep, kvs, hrd, _, _⟩ := c1.dit (by simpa [isDit] using isd)
    refine ⟨p, ep, .inr ⟨kvs, hrd⟩, ?_⟩
    refine s2 Y1 H1 σ env1 _ _ rep1 q1 fun vk H2 env2 r2 Y2 rep2 g2 ok2 q2 => ?_
    refine s3 Y2 H2 σ env2 _ _ rep2 q2 fun ve H3 env3 r3 Y3 rep3 g3 ok3 q3 => ?_
    obtain ⟨d, ed, cd⟩ := ok1.later (g2.trans g3) rep3
    have gg := (g1.trans g2).trans g3
    rw [ed] at q3
    match r2, ok2, r3, ok3, q3 with
    | .dat key, ok2, .dat dflt, ok3, q3 =>
      unfold getT at q3
      obtain ⟨ks, vs, l, ek, q3⟩ := q3
      obtain ⟨rfl, hl, kk, rfl, rfl⟩ := ditK_of ek
      obtain ⟨ey2, rd2⟩ := ok2
      obtain ⟨ey3, rd3⟩ := ok3
      subst ey2
      subst ey3
      obtain ⟨p', ov, ep', g, _, _, hs, hn⟩ := dit_get cd hl (.inl (g3.rd rd2))
      rw [ep] at ep'
      cases ep'
      refine ⟨ov, g, ?_⟩
      have rd : RD X.K H3 (Pw Y3 σ env3) (ov.getD ve) ((dGet ks vs (.tup (kk.map kD))).getD dflt) := by
        cases w : dGet ks vs (.tup (kk.map kD)) with
        | none => rw [hn w]; exact rd3
        | some z =>
          obtain ⟨u, e2, r⟩ := hs z w
          rw [e2]
          exact r
      exact k _ H3 env3 (.dat _) Y (rep3.less gg.yu) gg.drop ⟨rfl, rd.less (pw_less gg.yu)⟩ q3
/-! d[k] = v -/
@[irreducible] def setAtT (j : Nat) (k d : D) (env : AEnv) (N : AEnv → Prop) : Prop := ∃ d0 ks vs l, env[j]? = some (.own d0) ∧ ditK d0 k = some (ks, vs, l) ∧ ks.length < sizeLine ∧ N (env.set j (.own (.dit (dPutK ks (.tup l)) (dPutW ks vs (.tup l) d))))
def agSubT (o i : AE') : AG' := fun d env N => o env fun r env1 => i env1 fun s env2 => match r, val env2 s with
  | .at j, some k => setAtT j k d env2 N
  | _, _ => False
theorem dputT_ok {K : Fg} {H : Hp} {P : Ad} {kvs : List (List Key × V)} {vs : List D} {k : List Key} {v : V} {d : D} (r : RDs K H P (kvs.map (·.2)) vs) (hv : RD K H P v d) :
    dPutK (kvs.map fun kv => kT kv.1) (kT k) = (putK kvs k v).map (fun kv => kT kv.1) ∧ RDs K H P ((putK kvs k v).map (·.2)) (dPutW (kvs.map fun kv => kT kv.1) vs (kT k) d) := by
  unfold dPutK dPutW putK
  by_cases h : (kvs.any fun kv => decide (kv.1 = k)) = true
  · have h' : kT k ∈ (kvs.map fun kv => kT kv.1) := (mem_key kT_inj k kvs).mpr h
    rw [if_pos h', if_pos h', if_pos h]
    exact ⟨(put_keys (g := kT) k v kvs).symm, put_map kT_inj hv r⟩
  · have h' : ¬ kT k ∈ (kvs.map fun kv => kT kv.1) := fun z => h ((mem_key kT_inj k kvs).mp z)
    rw [if_neg h', if_neg h', if_neg h]
    rw [List.map_append, List.map_append]
    exact ⟨rfl, r.append (.cons hv .nil)⟩
theorem set_atT_ok {K : Fg} {B : Nat → Bool} {Y : Ad} {H : Hp} {σ : L2.St} {env : AEnv} {o i v : V} {d k : D} {j : Nat} {N : AEnv → Prop} {Q : Hp → Prop} (rep : Rep K Y H σ env) (ho : σ[j]? = some (some o)) (hk : RC K H (Pw Y σ env) i k) (hv : RD K H (Pw Y σ env) v d)
    (q : setAtT j k d env N) (fin : ∀ H' env', Rep K Y H' σ env' → AdvS B σ Y env H Y σ env' H' → N env' → Q H') : rSetD o i v H Q := by
  unfold setAtT at q
  obtain ⟨d0, ks, vs, l, w, ek, hz, q⟩ := q
  obtain ⟨rfl, hl, kk, rfl, rfl⟩ := ditK_of ek
  obtain ⟨p, hp, np, kvs, hu, ek2, r⟩ := rep.own j _ w
  rw [ho] at hp; cases hp
  subst ek2
  obtain ⟨b, eb, hb⟩ := hk.hupKey
  obtain ⟨e1, r2⟩ := dputT_ok (k := kk) r hv
  obtain ⟨a, b2⟩ := rep.mut (B := B) (o := .dT (putK kvs kk v)) (d1 := .dit (dPutK (kvs.map fun kv => kT kv.1) (kT kk)) (dPutW (kvs.map fun kv => kT kv.1) vs (kT kk) d)) w ho fun P pw g => ⟨_, upd_same, e1, Go.rds g (fun a e => by subst e; exact .inr ⟨j, _, w, .inl ho⟩) r2⟩
  exact ⟨p, _, rfl, .inr ⟨kvs, kk, b, hu, eb, hb, by simpa using hz, rfl⟩, fin _ _ a b2 q⟩
theorem ag_subT {X : Cx} {B : Nat → Bool} {pos : Pos} {o i : Expr} {fo fi : AE'} {k : Nat} (hr : Room k X.A) (ho : AE X o fo) (hi : AE X i fi)
    (ha : ∀ v, assign (.Subscript o i pos) X.env v = (do
      let ov ← holding [v] (eval o X.env)
      let iv ← holding [v, ov] (eval i X.env)
      standAt pos
      holding [v, ov, iv] (setItem ov iv v)
      release [v, ov, iv] []) := by intro _; rfl) : AG X B (.Subscript o i pos) (agSubT fo fi) := by
  obtain ⟨t1, p1, s1⟩ := ho
  obtain ⟨t2, p2, s2⟩ := hi
  refine ⟨_, pg_sub p1 p2 (set_dict (by have := hr.un; omega)) ha, fun Y H σ env v d N Q rep rd q k => ?_⟩
  refine s1 Y H σ env _ _ rep q fun ov H1 env1 r1 Y1 rep1 g1 ok1 q1 => ?_
  refine s2 Y1 H1 σ env1 _ _ rep1 q1 fun iv H2 env2 r2 Y2 rep2 g2 ok2 q2 => ?_
  obtain ⟨ky, e2, c2⟩ := ok2.rc rep2
  have gg := g1.trans g2
  have repY := rep2.less gg.yu
  simp only [e2] at q2
  match r1, ok1, q2 with
  | .at j, ok1, q2 =>
    refine set_atT_ok (B := B) repY ok1.2.1 (c2.less (pw_less gg.yu)) (gg.drop.rd rd) q2 fun H' env' rep' g' q' => k H' σ env' rep' (gg.drop.toS.trans rep g') q'
/-! for k in d -/
def iSeqT (te : TE) : TI := fun σ H R => te σ H fun x H1 => ∃ d kvs, x = .ref d ∧ ((∃ o, H1 d = some (.frz o (.dT kvs)) ∧ R (Itkt d o kvs) H1) ∨ (H1 d = some (.dT kvs) ∧ ∀ od, R (Itkt d od kvs) (upd H1 d (.frz od (.dT kvs)))))
theorem pi_seqT {X : Cx} {tg e : Expr} {te : TE} (he : PE X e te) : PI X tg e (iSeqT te) := by
  refine ⟨fun pins s σ H R I h => ?_⟩
  refine thn (he.run pins s σ H _ I h) fun u s1 ⟨x, H1, I1, rx, d, kvs, ex, q⟩ => ?_
  subst ex
  obtain rfl : u = Value.ref d := rx
  have go : ∀ (H2 : Hp) (o : Obj), Inv X pins σ H2 s1 → H2 d = some (.frz o (.dT kvs)) → R (Itkt d o kvs) H2 → wpAny (model X.prog X.w) X.A (pyIter (.ref d)) (PIE X pins σ tg R) X.xe s1 := fun H2 o I2 hd q => by
    obtain ⟨hs, hgd, hx, es, ep, hdt, hsz, ent⟩ := I2.frzT hd
    refine iter_keys hs hgd hx hdt (pi_one (tk := s1.toks) I2 _ (turn_keysT _ hdt) ⟨_, Heap.get?_push_size _ rfl, rfl, ?_⟩ q)
    rw [hsz] <;> rfl
  rcases q with ⟨o, hd, q⟩ | ⟨hd, q⟩
  · exact go H1 o I1 hd q
  · obtain ⟨od, I2⟩ := I1.lock hd trivial
    exact go _ od I2 upd_same (q od)
def hupOf : D → D
  | .tup l => hupD l
  | d => d
def smallT : D → Prop
  | .tup l => l.length ≤ sizeLine
  | _ => False
def aiSeqT (a : AE') : AI' := fun env R => aFrz a env fun r env1 => match r with
  | .dat (.dit ks vs) => vs.length = ks.length ∧ ks.length ≤ sizeLine ∧ (∀ k ∈ ks, smallT k) ∧ R (ks.map hupOf) env1
  | _ => False
theorem ai_seqT {X : Cx} {tg e : Expr} {a : AE'} (h : AE X e a) : AI X tg e (aiSeqT a) := by
  obtain ⟨t, p, s⟩ := h.frz
  refine ⟨_, pi_seqT p, fun Y H σ env R Q rep q k => ?_⟩
  refine s Y H σ env _ _ rep q fun v H1 env1 r1 Y1 rep1 g1 ok1 q1 => ?_
  match r1, ok1, q1 with
  | .dat (.dit ks vs), ok1, q1 =>
    obtain ⟨ey, rd⟩ := ok1
    subst ey
    obtain ⟨hl, _, sm, q1⟩ := q1
    cases rd with
    | hup hr n z r =>
      rw [List.length_cons] at hl
      omega
    | dT hr n e1 r =>
      rename_i d kvs
      subst e1
      have em : (kvs.map fun kv => D.tup (kv.1.map kD)).map hupOf = kvs.map fun kv => D.dit (kv.1.map kD) (.non :: kv.1.map kD) := by
        rw [List.map_map]
        rfl
      rw [em] at q1
      have sz : ∀ kv ∈ kvs, kv.1.length ≤ sizeLine := fun kv hkv => by
        have := sm (D.tup (kv.1.map kD)) (List.mem_map.mpr ⟨kv, hkv, rfl⟩)
        have h2 : (kv.1.map kD).length ≤ sizeLine := this
        rwa [List.length_map] at h2
      refine ⟨_, kvs, rfl, ?_⟩
      rcases hr with hr | ⟨o, hr⟩
      · refine .inr ⟨hr, fun od => ?_⟩
        obtain ⟨rep2, g2⟩ := rep1.lockT (od := od) hr n
        exact k _ _ env1 _ rep2 (g1.trans g2) (walk_keysT upd_same n sz) q1
      · exact .inl ⟨o, hr, k _ H1 env1 _ rep1 g1 (walk_keysT hr n sz) q1⟩
/-! dict(d) -/
def fDict : Op1 := fun d F => match d with
  | .dic ks vs => F (.new (.dic ks vs))
  | _ => False
theorem rs_dict (K : Fg) : Rd1S K (fun xs H Q => ∃ (a : Addr) (kvs : List (Key × V)), xs = [.ref a] ∧ Rd H a (.dK kvs) ∧ ∀ p, H p = none → Q (.ref p) (upd H p (.dK kvs))) fDict := by
  intro Y H σ env x d F Q R c f k
  match d, c, f with
  | .dic ks vs, c, f =>
    obtain ⟨p, e, kvs, hr, e2, r⟩ := c.dic
    subst e
    exact ⟨p, kvs, rfl, hr, fun q n => fin_new (d := .dic ks vs) R k n ⟨kvs, upd_same, e2, rds_new r n⟩ f⟩
theorem rs_tupleH (K : Fg) : Rd1S K (fun xs H Q => ∃ p ys, xs = [V.ref p] ∧ ((SqL K H p ys ∧ ∀ l, H l = none → Q (.ref l) (upd H l (.tup ys))) ∨ (SqT K H p ys ∧ Q (.ref p) H))) fTupleH := by
  intro Y H σ env x d F Q R c f k
  match d, c, f with
  | .lst l, c, f =>
    obtain ⟨p, us, e, h, r, hl⟩ := c.lst
    subst e
    exact ⟨p, us, rfl, .inl ⟨.of h, fun q n => fin_hup R k r hl f n⟩⟩
end AL
/-! AL23: sorted of data. -/
namespace AL
section
open PySem PySem.Calls PyProof.Rows PySem.W
variable {prog : Program} {w : World} {A : Around} {E : Value → Shared → Prop} {s : Shared}
/-- the list that a gathering makes -/
def gath (h : Heap) (vs : List Value) : Heap :=
  (h.push (seqObj "list" #[] 0)).update h.objs.size (Obj.mapSeq (· ++ vs.toArray))
/-- the items of a tuple, gathered -/
theorem coll_tup {t : Addr} {vs : List Value} {Q : List Value → Shared → Prop} (ht : s.heap.IsTuple t vs.toArray) (hsz : vs.length ≤ sizeLine)
    (h : Q vs { s with heap := gath s.heap vs }) :
    wpAny (model prog w) A (collect (.ref t)) Q E s := by
  obtain ⟨o, ho, hc, n, hd⟩ := id ht
  have own0 : (s.heap.push (seqObj "list" #[] 0)).get? s.heap.objs.size = some (seqObj "list" #[] 0) := Heap.get?_push_size _ rfl
  unfold collect
  refine wpAny_bind (wpAny_runValue
    (codeAny_builtin entry_proto_collect' ?_))
  show wpAny _ _ (do
    again (.builtin "list.__iadd__" ⟨[← newList [], .ref t], []⟩)) _ _ s
  refine wpAny_bind (wpAny_newList
    (wpAny_pure ⟨Code.quiet_builtin _ (by decide +kernel), codeAny_builtin entry_list_iadd' ?_⟩))
  show wpAny _ _ (Builtin.List.listExtendWith (.ref s.heap.objs.size) (.ref t) (.ref s.heap.objs.size)) _ _
    { s with heap := s.heap.push (seqObj "list" #[] 0) }
  unfold Builtin.List.listExtendWith
  have ho2 := Heap.get?_push_of_some (seqObj "list" #[] 0) ho
  refine wpAny_bind (wpAny_typeOf (T := "tuple") ⟨o, ho2, hc⟩ ?_)
  have eT : (Value.type "tuple" == Value.type "tuple") = true := by rfl
  rw [if_pos (by
    rw [eT]
    simp)]
  refine wpAny_bind (listItems_at ho2 hd ?_)
  refine wpAny_bind (listItems_at (xs := #[]) (n := 0)
    own0 rfl ?_)
  rw [if_neg (by
    simp)]
  refine wpAny_bind (listUpdate_at (xs := #[]) (n := 0)
    own0 rfl ?_ (Nat.zero_le _) (by
      show (#[] ++ vs.toArray).size ≤ sizeLine + 1
      rw [Array.size_append, List.size_toArray]
      show 0 + vs.length ≤ _
      omega))
  refine wpAny_pure ?_
  show wpAny (model prog w) A (do
    let ob ← load s.heap.objs.size
    match ob.data with
    | .seq xs _ => pure xs.toList
    | _ => unsupported "internal:collect") Q E
      { s with heap := gath s.heap vs }
  refine wpAny_bind (wpAny_load
    (get?_update_seq own0 _) ?_)
  show wpAny _ _ (pure
    ((#[] : Array Value) ++ vs.toArray).toList) Q E _
  have e : ((#[] : Array Value) ++ vs.toArray).toList = vs := by
    simp
  rw [e]
  exact wpAny_pure h
/-- sorted of a tuple, by what its own list.sort does -/
theorem sortT_by {t : Addr} {vs : List Value} {Q : Value → Shared → Prop} (ht : s.heap.IsTuple t vs.toArray) (hL : vs.length ≤ sizeLine)
    (body : ∀ E' : Value → Shared → Prop, wpAny (model prog w) A.in1.in1
      (Builtin.«list.sort» ⟨[.ref (s.heap.objs.size + 1)], []⟩)
      (fun f s' => f = .done (.ret .none) ∧ Q (.ref (s.heap.objs.size + 1)) s') E' { s with heap := copyHeap s.heap vs }) :
    wpAny (model prog w) A
      (call (.builtin "sorted") [.ref t] []) Q E s := by
  refine call_function_entry_kw kind_sorted plain_sorted
    entry_sorted (args_sorted1 _) ?_
  unfold Builtin.«sorted»
  refine wpAny_bind (m := checkCount "sorted" 1 1 _)
    (wpAny_pure ?_)
  refine wpAny_bind (coll_tup ht hL ?_)
  refine wpAny_bind (wpAny_newList ?_
    hL)
  have hsz : (gath s.heap vs).objs.size = s.heap.objs.size + 1 := by
    unfold gath
    rw [Heap.size_update]
    exact size_push' _ _
  show wpAny _ _ _ _ _
    { s with heap := copyHeap s.heap vs }
  rw [hsz]
  refine wpAny_bind (wpAny_holding (wpAny_call_entry_kw slot_list_sort
    ⟨_, copyHeap_at s.heap vs, rfl⟩ entry_list_sort ?body (args_list_sort _)))
  case body =>
    refine wpAny_mono (body _) (fun f s' hf => ?_)
      fun _ _ e => e
    obtain ⟨rfl, hq⟩ := hf
    exact ⟨_, rfl, wpAny_pure
      ⟨_, rfl, hq⟩⟩
end
open PySem L2
/-- sorted(xs), xs a list or a tuple of data that can be compared place by place -/
def rSortD (K : Fg) : List V → Hp → VK → Prop := fun vs H Q => ∃ (a : Addr) (ps : List (V × D)), vs = [V.ref a] ∧ (SqL K H a (ps.map (·.1)) ∨ SqT K H a (ps.map (·.1))) ∧ (∀ p ∈ ps, Dp K H p.1 p.2.pd) ∧ PySem.W.AllAlike (ps.map fun p => p.2.pd) ∧ PySem.W.Sortable (ps.map fun p => p.2.pd) ∧
  (∀ p ∈ ps, p.2.pd.depth ≤ 60) ∧ ∀ q, H q = none → Q (.ref q) (upd H q (.lst ((ps.mergeSort (PySem.W.dataLe false fun p => p.2.pd)).map (·.1))))
theorem each_zip {α β γ : Type} {R : α → γ → Prop} {f : β → α} : ∀ {bs : List β} {vs : List γ}, Paired R (bs.map f) vs → PySem.W.EachIs (fun v b => R (f b) v) vs bs
  | [], _, .nil => .nil
  | b :: bs, _, .cons h t => .cons h (each_zip t)
theorem zip_each {α β γ : Type} {R : α → γ → Prop} {f : β → α} : ∀ {bs : List β} {vs : List γ}, PySem.W.EachIs (fun v b => R (f b) v) vs bs → Paired R (bs.map f) vs
  | _, _, .nil => .nil
  | _, _, .cons h t => .cons h (zip_each t)
theorem each_and {α β : Type} {R S : α → β → Prop} : ∀ {vs : List α} {bs : List β}, PySem.W.EachIs R vs bs → (∀ b ∈ bs, ∀ v, R v b → S v b) → PySem.W.EachIs S vs bs
  | _, _, .nil, _ => .nil
  | _, _, .cons h t, k => .cons (k _ List.mem_cons_self _ h) (each_and t fun b hb => k b (List.mem_cons_of_mem _ hb))
theorem cr_sortD {X : Cx} (hu : X.A.units + 65 < cLine) : CallR X (.builtin "sorted") (rSortD X.K) := by
  intro pins s σ H vs us Q I r h
  obtain ⟨a, ps, rfl, hs, hd, hal, hk, hdep, q⟩ := h
  have fin : ∀ (its : List Value), Vals (ps.map (·.1)) its → its.length ≤ sizeLine → ∀ out : List Value, out.length = ps.length → PySem.W.EachIs (fun v p => RelV p.1 v) out (ps.mergeSort (PySem.W.dataLe false fun p => p.2.pd)) →
      EP X pins σ Q (.ref (s.heap.objs.size + 1)) { s with heap := PyProof.Rows.sortedAll s.heap its (List.toArray out) } := fun its rv hz out hl e => by
    obtain ⟨ep, he⟩ := PyProof.Rows.sortedAll_at s.heap its out.toArray
    have hlen : ((ps.mergeSort (PySem.W.dataLe false fun p => p.2.pd)).map (·.1)).length ≤ sizeLine := by
      rw [List.length_map, List.length_mergeSort]
      have := rv.length
      rw [List.length_map] at this
      omega
    exact ⟨.ref _, upd H (s.heap.objs.size + 1) (.lst ((ps.mergeSort (PySem.W.dataLe false fun p => p.2.pd)).map (·.1))), I.laid (t' := s.toks) (fun _ _ => PyProof.Rows.sortedAll_old) (Nat.le_succ _) ⟨hlen, out, ep, zip_each e, he⟩, rfl, q _ (I.hok.fresh (Nat.le_succ _))⟩
  have er : ∀ its : List Value, Vals (ps.map (·.1)) its → PySem.W.EachIs (fun v p => RelV p.1 v) its ps ∧ PySem.W.EachIs (fun v p => ∃ as, Reads s.heap v p.2.pd as) its ps := fun its rv => by
    have e := each_zip (f := fun p : V × D => p.1) rv
    exact ⟨e, each_and e fun p hp v rel => Dp.reads I _ _ _ (hd p hp) rel⟩
  have dep : ∀ p ∈ ps, X.A.units + 2 + p.2.pd.depth < cLine := fun p hp => by have := hdep p hp; omega
  rcases hs with hs | hs
  · obtain ⟨its, rv, hl, hz⟩ := I.list hs
    rw [Vals.ref1 r]
    obtain ⟨e1, e2⟩ := er its rv
    have hz2 : its.length ≤ sizeLine := by rw [← rv.length]; exact hz
    exact PySem.W.sorted_data (bs := ps) hl.isList e1 e2 hal hk (by rw [List.length_map] at hz; exact hz) dep fun out h1 h2 => fin its rv hz2 out h1 h2
  · obtain ⟨its, rv, hl, hz⟩ := I.tuple hs
    rw [Vals.ref1 r]
    obtain ⟨e1, e2⟩ := er its rv
    have hz2 : its.length ≤ sizeLine := by rw [← rv.length]; exact hz
    have hzp : ps.length ≤ sizeLine := by rw [List.length_map] at hz; exact hz
    have er' : PySem.W.EachIs (fun v p => ∃ as, Reads (PySem.W.sortingHeap (PySem.W.copyHeap s.heap its) (s.heap.objs.size + 1) its) v (p.2.pd) as) its ps :=
      e2.mono fun _ _ ⟨as, r⟩ => ⟨as, PyProof.Rows.Reads.keeps (fun _ _ => PySem.W.sorting_copy_old) r⟩
    refine sortT_by (show s.heap.IsTuple a its.toArray from hl) hz2 fun E' => ?_
    refine PySem.W.list_sort_vals (s := { s with heap := PySem.W.copyHeap s.heap its }) (PySem.W.copyHeap_at s.heap its)
      (PySem.W.SortsAt.data (s := { s with heap := PySem.W.sortingHeap (PySem.W.copyHeap s.heap its) (s.heap.objs.size + 1) its }) (PySem.W.each_map (R := fun v d => ∃ as, Reads (PySem.W.sortingHeap (PySem.W.copyHeap s.heap its) (s.heap.objs.size + 1) its) v d as) (fun p : V × D => p.2.pd) er') hal hk (PySem.W.bound_map dep)) hz2 ⟨rfl, ?_⟩
    exact fin its rv hz2 _ (by rw [PySem.W.sortVals_length false rfl]; exact e1.length) (PySem.W.sortVals_data false e1 er' hal)
/-- the sorted list, by data -/
def sortD (l : List D) : List D := l.mergeSort (PySem.W.dataLe false D.pd)
structure SortOk (l : List D) : Prop where
  al : PySem.W.AllAlike (l.map D.pd)
  so : PySem.W.Sortable (l.map D.pd)
  sh : ∀ d ∈ l, d.sh ∧ d.pd.depth ≤ 60
def fSortD : Op1 := fun d F => match d with
  | .lst l => SortOk l ∧ F (.new (.lst (sortD l)))
  | .tup l => SortOk l ∧ F (.new (.lst (sortD l)))
  | _ => False
theorem zip_fst {α β : Type} : ∀ {as : List α} {bs : List β}, as.length = bs.length → (as.zip bs).map (·.1) = as ∧ (as.zip bs).map (·.2) = bs
  | [], [], _ => ⟨rfl, rfl⟩
  | a :: as, b :: bs, h => by
    obtain ⟨h1, h2⟩ := zip_fst (as := as) (bs := bs) (by simpa using h)
    exact ⟨by rw [List.zip_cons_cons, List.map_cons, h1], by rw [List.zip_cons_cons, List.map_cons, h2]⟩
theorem RDs.zipAll {K : Fg} {H : Hp} {P : Ad} : ∀ {us : List V} {ds : List D}, RDs K H P us ds → ∀ p ∈ us.zip ds, RD K H P p.1 p.2
  | _, _, .nil, p, h => by cases h
  | _, _, .cons r t, p, h => by
    rw [List.zip_cons_cons] at h
    rcases List.mem_cons.mp h with e | h
    · rw [e]; exact r
    · exact RDs.zipAll t p h
theorem RDs.ofPairs {K : Fg} {H : Hp} {P : Ad} : ∀ {ps : List (V × D)}, (∀ p ∈ ps, RD K H P p.1 p.2) → RDs K H P (ps.map (·.1)) (ps.map (·.2))
  | [], _ => .nil
  | p :: ps, h => .cons (h p List.mem_cons_self) (RDs.ofPairs fun q hq => h q (List.mem_cons_of_mem _ hq))
theorem rs_sortD (K : Fg) : Rd1S K (rSortD K) fSortD := by
  intro Y H σ env x d F Q R c f k
  have go : ∀ (a : Addr) (us : List V) (l : List D), RDs K H (Pw Y σ env) us l → (SqL K H a us ∨ SqT K H a us) → l.length ≤ sizeLine → SortOk l → F (.new (.lst (sortD l))) → rSortD K [V.ref a] H Q := fun a us l r hs hl ok f => by
    have el := r.length
    obtain ⟨z1, z2⟩ := zip_fst el
    have pz := r.zipAll
    have ez : (us.zip l).map (fun p => p.2.pd) = l.map D.pd := by
      rw [← z2, List.map_map]
      rw [z2]
      rfl
    have inl : ∀ p ∈ us.zip l, p.2 ∈ l := fun p hp => (List.of_mem_zip hp).2
    have es : ((us.zip l).mergeSort (PySem.W.dataLe false fun p => p.2.pd)).map (·.2) = sortD l := by
      unfold sortD
      have := PySem.W.sort_maps (fun p : V × D => p.2) (r := PySem.W.dataLe false fun p : V × D => p.2.pd) (s := PySem.W.dataLe false D.pd) (l := us.zip l) fun _ _ _ _ => rfl
      rw [this, z2]
    refine ⟨a, us.zip l, rfl, by rw [z1]; exact hs, fun p hp => RC.dp (.inl (pz p hp)) (ok.sh _ (inl p hp)).1, by rw [ez]; exact ok.al, by rw [ez]; exact ok.so, fun p hp => (ok.sh _ (inl p hp)).2, fun q n => ?_⟩
    have r2 : RDs K H (Pw Y σ env) (((us.zip l).mergeSort (PySem.W.dataLe false fun p => p.2.pd)).map (·.1)) (sortD l) := by
      rw [← es]
      exact RDs.ofPairs fun p hp => pz p (List.mem_mergeSort.mp hp)
    refine fin_lst R k r2 ?_ f n
    unfold sortD
    rw [List.length_mergeSort]
    omega
  match d, c, f with
  | .lst l, c, f =>
    obtain ⟨p, us, e, h, r, hl⟩ := c.lst
    subst e
    exact go p us l r (.inl (.of h)) hl f.1 f.2
  | .tup l, c, f =>
    obtain ⟨p, us, e, h, r, rd, hl⟩ := c.tup
    subst e
    exact go p us l r (.inr h) hl f.1 f.2
end AL
namespace AL
open PySem L2
/-! AL24: a loop over a list that stays owned; reverse, pop; isinstance of an own class; sorted of ints, downwards. -/
section
variable {K : Fg} {σ : L2.St} {Y : Ad} {env : AEnv} {H : Hp}
/-- an owned slot is hidden -/
theorem own_hide {i : Nat} {l : D} {p : Addr} (R : Rep K Y H σ env) (h : env[i]? = some (.own l)) (hr : regA l = []) (hp : σ[i]? = some (some (.ref p))) (a : Addr) : Own σ (env.set i .un) a ↔ Own σ env a ∧ a ≠ p := by
  have hi : i < env.length := (List.getElem?_eq_some_iff.mp h).1
  constructor
  · rintro ⟨j, d, e, w⟩
    by_cases z : i = j
    · subst z
      rw [List.getElem?_set_self hi] at e; cases e
    · rw [List.getElem?_set_ne z] at e
      exact ⟨⟨j, d, e, w⟩, fun q => by subst q; exact z (R.inj i j l d a h e (.inl hp) w)⟩
  · rintro ⟨⟨j, d, e, w⟩, n⟩
    have z : ¬ i = j := fun z => by
      subst z
      rw [h] at e; cases e
      rcases w with w | w
      · rw [hp] at w; cases w
        exact n rfl
      · rw [hr] at w; cases w
    exact ⟨j, d, by rw [List.getElem?_set_ne z]; exact e, w⟩
theorem Rep.hide {i : Nat} {l : List D} {p : Addr} (R : Rep K Y H σ env) (h : env[i]? = some (.own (.lst l))) (hp : σ[i]? = some (some (.ref p))) :
    Rep K (fun a => Y a ∨ a = p) H σ (env.set i .un) ∧ ∀ a, Pw (fun a => Y a ∨ a = p) σ (env.set i .un) a ↔ Pw Y σ env a := by
  have hi : i < env.length := (List.getElem?_eq_some_iff.mp h).1
  have oh := own_hide R h rfl hp
  have pw : ∀ a, Pw (fun a => Y a ∨ a = p) σ (env.set i .un) a ↔ Pw Y σ env a := fun a => by
    constructor
    · rintro ((z | z) | z)
      · exact .inl z
      · subst z; exact .inr ⟨i, _, h, .inl hp⟩
      · exact .inr ((oh a).mp z).1
    · rintro (z | z)
      · exact .inl (.inl z)
      · by_cases e : a = p
        · exact .inl (.inr e)
        · exact .inr ((oh a).mpr ⟨z, e⟩)
  obtain ⟨q, hq, np, ro⟩ := R.own i _ h
  rw [hp] at hq; cases hq
  have back : ∀ (j : Nat) (e : AV), (env.set i .un)[j]? = some e → e ≠ .un → env[j]? = some e ∧ i ≠ j := fun j e q n => by
    by_cases z : i = j
    · subst z
      rw [List.getElem?_set_self hi] at q; cases q
      exact absurd rfl n
    · rw [List.getElem?_set_ne z] at q
      exact ⟨q, z⟩
  refine ⟨⟨by rw [List.length_set]; exact R.len, fun j e q => ?_, fun j e q => ?_, fun a z => ?_, fun j k e f a q1 q2 w1 w2 => R.inj j k e f a (back j _ q1 (fun z => by cases z)).1 (back k _ q2 (fun z => by cases z)).1 w1 w2, fun j e a q m z => ?_⟩, pw⟩
  · obtain ⟨v, w, r⟩ := R.dat j e (back j _ q (fun z => by cases z)).1
    exact ⟨v, w, r.less fun a z => (pw a).mp z⟩
  · obtain ⟨q1, z⟩ := back j _ q (fun z => by cases z)
    obtain ⟨p', w, n, r⟩ := R.own j e q1
    refine ⟨p', w, fun y => ?_, r.less fun a z => (pw a).mp z⟩
    rcases y with y | y
    · exact n y
    · subst y
      exact z (R.inj i j _ e p' h q1 (.inl hp) (.inl w))
  · rcases z with z | z
    · exact R.yim a z
    · subst z; exact (R.ownY h (.inl hp)).2
  · obtain ⟨q1, w⟩ := back j _ q (fun z => by cases z)
    rcases z with z | z
    · exact R.ony j e a q1 m z
    · subst z; exact w (R.inj i j _ e a h q1 (.inl hp) (.inr m))
/-- and shown again -/
theorem Rep.unhide {σ' : L2.St} {H' : Hp} {env' : AEnv} {Y' Y2 : Ad} {i : Nat} {l : List D} {us : List V} {p : Addr} (R : Rep K Y' H' σ' env') (yy : ∀ a, Y' a ↔ Y2 a ∨ a = p) (np : ¬ Y2 p) (h : env'[i]? = some .un) (hp : σ'[i]? = some (some (.ref p))) (hu : H' p = some (.lst us)) (r : RDs K H' (Pw Y' σ' env') us l) (hl : us.length ≤ sizeLine) :
    Rep K Y2 H' σ' (env'.set i (.own (.lst l))) ∧ (∀ a, Pw Y2 σ' (env'.set i (.own (.lst l))) a ↔ Pw Y' σ' env' a) ∧ ∀ a, Own σ' (env'.set i (.own (.lst l))) a → Own σ' env' a ∨ a = p := by
  have hi : i < env'.length := (List.getElem?_eq_some_iff.mp h).1
  have back : ∀ (j : Nat) (e : AV), (env'.set i (.own (.lst l)))[j]? = some e → (i = j ∧ e = .own (.lst l)) ∨ (env'[j]? = some e ∧ i ≠ j) := fun j e q => by
    by_cases z : i = j
    · subst z
      rw [List.getElem?_set_self hi] at q; cases q
      exact .inl ⟨rfl, rfl⟩
    · rw [List.getElem?_set_ne z] at q
      exact .inr ⟨q, z⟩
  have ow : ∀ a, Own σ' (env'.set i (.own (.lst l))) a → Own σ' env' a ∨ a = p := fun a ⟨j, d, q, w⟩ => by
    rcases back j _ q with ⟨z, ed⟩ | ⟨q, _⟩
    · subst z
      cases ed
      rcases w with w | w
      · rw [hp] at w; cases w
        exact .inr rfl
      · cases w
    · exact .inl ⟨j, d, q, w⟩
  have pw : ∀ a, Pw Y2 σ' (env'.set i (.own (.lst l))) a ↔ Pw Y' σ' env' a := fun a => by
    constructor
    · rintro (z | z)
      · exact .inl ((yy a).mpr (.inl z))
      · rcases ow a z with z | z
        · exact .inr z
        · exact .inl ((yy a).mpr (.inr z))
    · rintro (z | ⟨j, d, q, w⟩)
      · rcases (yy a).mp z with z | z
        · exact .inl z
        · subst z
          exact .inr ⟨i, _, List.getElem?_set_self hi, .inl hp⟩
      · have z : i ≠ j := fun z => by
          subst z
          rw [h] at q; cases q
        exact .inr ⟨j, d, by rw [List.getElem?_set_ne z]; exact q, w⟩
  have notp : ∀ (j : Nat) (d : D), env'[j]? = some (.own d) → ¬ OwnA σ' j d p := fun j d q w => (R.ownY q w).1 ((yy p).mpr (.inr rfl))
  have own0 : ∀ a, OwnA σ' i (.lst l) a → a = p := fun a w => by
    rcases w with w | w
    · rw [hp] at w; cases w; rfl
    · cases w
  refine ⟨⟨by rw [List.length_set]; exact R.len, fun j e q => ?_, fun j e q => ?_, fun a z => R.yim a ((yy a).mpr (.inl z)), fun j k e f a q1 q2 w1 w2 => ?_, fun j e a q m z => ?_⟩, pw, ow⟩
  · rcases back j _ q with ⟨_, z⟩ | ⟨q, _⟩
    · cases z
    · obtain ⟨v, w, r⟩ := R.dat j e q
      exact ⟨v, w, r.less fun a z => (pw a).mp z⟩
  · rcases back j _ q with ⟨z, e1⟩ | ⟨q, _⟩
    · subst z
      cases e1
      exact ⟨p, hp, np, us, hu, r.less fun a z => (pw a).mp z, hl⟩
    · obtain ⟨p', w, n, r⟩ := R.own j e q
      exact ⟨p', w, fun z => n ((yy p').mpr (.inl z)), r.less fun a z => (pw a).mp z⟩
  · rcases back j _ q1 with ⟨z, e1⟩ | ⟨q1, _⟩
    · rcases back k _ q2 with ⟨z2, _⟩ | ⟨q2, _⟩
      · exact z.symm.trans z2
      · subst z; cases e1
        have := own0 a w1
        subst this
        exact absurd w2 (notp k f q2)
    · rcases back k _ q2 with ⟨z2, e2⟩ | ⟨q2, _⟩
      · subst z2; cases e2
        have := own0 a w2
        subst this
        exact absurd w1 (notp j e q1)
      · exact R.inj j k e f a q1 q2 w1 w2
  · rcases back j _ q with ⟨_, e1⟩ | ⟨q, _⟩
    · cases e1; cases m
    · exact R.ony j e a q m ((yy a).mpr (.inl z))
end
/-- the ends of a body in which slot i is hidden -/
def hidA (i : Nat) (l : List D) (A : AEnds) : AEnds where
  nx := fun env => A.nx (env.set i (.own (.lst l)))
  rt := fun r env => r ≠ .at i ∧ A.rt r (env.set i (.own (.lst l)))
  bk := fun env => A.bk (env.set i (.own (.lst l)))
  ct := fun env => A.ct (env.set i (.own (.lst l)))
/-- for t in x, x an owned list that the body does not speak of -/
def aForO (i : Nat) (g : AG') (b : AS') : AS' := fun A env => match env[i]? with
  | some (.own (.lst l)) => l.length ≤ sizeLine → forL g b (hidA i l A) l (env.set i .un)
  | _ => False
theorem as_forO {X : Cx} {B : Nat → Bool} {tg : Expr} {x : Str} {body : List Stmt} {g : AG'} {b : AS'} {pos p2 : Pos} (i : Nat) (hp : PassesOwn (model X.prog X.w) X.A X.env X.xe) (hc : X.calm = true) (hg : AG X (fun j => B j || j == i) tg g) (hb : ASs X (fun j => B j || j == i) body b)
    (hN : X.N[i]? = some x := by rfl) (hv : Vis X.env.scope x := by first | exact Or.inl rfl | exact Or.inr (Or.inl rfl) | exact Or.inr (Or.inr rfl)) (hd : (x == ("__debug__" : Str)) = false := by decide) (hcd : (x == ("__classdict__" : Str)) = false := by decide)
    (hs : ∀ z, foldedSetIterable (.Name x p2) X.env z = pure z := by intro _; rfl) : AS X B (.For tg (.Name x p2) body [] pos) (aForO i g b) := by
  obtain ⟨tg', pG, sG⟩ := hg
  obtain ⟨tb, pB, sB⟩ := hb
  refine ⟨_, ps_for hp hc (pi_list (pe_var hN hv hd hcd)) pG pB hs, fun Y H0 σ0 env0 D A rep0 q k => ?_⟩
  unfold aForO at q
  match w0 : env0[i]?, q with
  | some (.own (.lst l)), q =>
    obtain ⟨p, hp0, np, us, hu, rus, hl⟩ := rep0.own i _ w0
    obtain ⟨rep1, pw1⟩ := rep0.hide w0 hp0
    have q1 := q (by rw [← rus.length]; exact hl)
    have rus1 : RDs X.K H0 (Pw (fun a => Y a ∨ a = p) σ0 (env0.set i .un)) us l := rus.less fun a z => (pw1 a).mp z
    have hi : i < env0.length := (List.getElem?_eq_some_iff.mp w0).1
    have oh := own_hide rep0 w0 rfl hp0
    -- behind: the slot as it was
    have shw : ∀ {H' : Hp} {σ' : L2.St} {env' : AEnv} {Y' Y2 : Ad}, Rep X.K Y' H' σ' env' → AdvS (fun j => B j || j == i) σ0 (fun a => Y a ∨ a = p) (env0.set i .un) H0 Y' σ' env' H' → (∀ a, Y' a ↔ Y2 a ∨ a = p) → ¬ Y2 p → (∀ a, Y a → Y2 a) → (∀ a, Y2 a → Y a ∨ H0 a = none ∨ Own σ0 env0 a) →
        Rep X.K Y2 H' σ' (env'.set i (.own (.lst l))) ∧ AdvS B σ0 Y env0 H0 Y2 σ' (env'.set i (.own (.lst l))) H' ∧ (∀ a, Pw Y2 σ' (env'.set i (.own (.lst l))) a ↔ Pw Y' σ' env' a) ∧ env'[i]? = some .un := fun {H' σ' env' Y' Y2} r a yy n2 yu yn => by
      have st : σ'[i]? = some (some (.ref p)) := (a.st i (by simp)).trans hp0
      have un : env'[i]? = some .un := by
        have s := a.pr i (by simp)
        rw [List.getElem?_set_self hi] at s
        match w : env'[i]?, s with
        | some .un, _ => rfl
      have hu' : H' p = some (.lst us) := (a.ky p (.inr rfl)).trans hu
      obtain ⟨r2, pw2, ow2⟩ := r.unhide yy n2 un st hu' (a.rds rep1 rus1) hl
      refine ⟨r2, ⟨fun c o h n => a.keep c o h fun z => n ((oh c).mp z).1, fun c z => a.ky c (.inl z), yu, yn, fun c z => ?_, a.live, fun j bj => a.st j (by simp [bj]), fun j bj => ?_, a.len⟩, pw2, un⟩
      · rcases ow2 c z with z | z
        · exact (a.ow c z).imp (fun z => ((oh c).mp z).1) id
        · subst z; exact .inl ⟨i, _, w0, .inl hp0⟩
      · by_cases e : i = j
        · subst e
          rw [List.getElem?_set_self (by rw [← r.len, a.len, rep0.len]; exact hi), w0]
          exact Sh.refl _
        · rw [List.getElem?_set_ne e]
          have s := a.pr j (by simp [bj])
          rwa [List.getElem?_set_ne e] at s
    have same : ∀ {H' : Hp} {σ' : L2.St} {env' : AEnv}, Rep X.K (fun a => Y a ∨ a = p) H' σ' env' → AdvS (fun j => B j || j == i) σ0 (fun a => Y a ∨ a = p) (env0.set i .un) H0 (fun a => Y a ∨ a = p) σ' env' H' → Rep X.K Y H' σ' (env'.set i (.own (.lst l))) ∧ AdvS B σ0 Y env0 H0 Y σ' (env'.set i (.own (.lst l))) H' := fun r a =>
      let z := shw r a (fun a => Iff.rfl) np (fun _ h => h) fun _ h => .inl h
      ⟨z.1, z.2.1⟩
    have kb : EOk X.K (fun j => B j || j == i) (fun a => Y a ∨ a = p) H0 σ0 (env0.set i .un) D (hidA i l A) := by
      refine ⟨fun H' σ' env' r a q => ?_, fun v H' σ' env' z Y' r a ok q => ?_, fun H' σ' env' r a q => ?_, fun H' σ' env' r a q => ?_⟩
      · obtain ⟨r2, a2⟩ := same r a
        exact k.nx H' σ' _ r2 a2 q
      · obtain ⟨ni, q⟩ := q
        match z, ok, ni, q with
        | .dat d, ok, _, q =>
          obtain ⟨ey, rd⟩ := ok
          subst ey
          obtain ⟨r2, a2, pw2, _⟩ := shw r a (fun a => Iff.rfl) np (fun _ h => h) fun _ h => .inl h
          exact k.rt v H' σ' _ (.dat d) Y r2 a2 ⟨rfl, rd.less fun a z => (pw2 a).mp z⟩ q
        | .new d, ok, _, q =>
          obtain ⟨p2, e, ey, n, ro⟩ := ok
          have yy : ∀ a, Y' a ↔ (Y a ∨ a = p2) ∨ a = p := fun a => by
            rw [ey]
            exact ⟨fun z => z.elim (fun z => z.elim (fun z => .inl (.inl z)) .inr) fun z => .inl (.inr z), fun z => z.elim (fun z => z.elim (fun z => .inl (.inl z)) .inr) fun z => .inl (.inr z)⟩
          have n2 : ¬ (Y p ∨ p = p2) := fun z => by
            rcases z with z | z
            · exact np z
            · subst z
              exact n (.inl (.inr rfl))
          obtain ⟨r2, a2, pw2, _⟩ := shw (Y2 := fun a => Y a ∨ a = p2) r a yy n2 (fun _ h => .inl h) fun b h => by
            rcases h with h | h
            · exact .inl h
            · subst h
              rcases a.yn b (by rw [ey]; exact .inr rfl) with z | z | z
              · exact absurd (.inl z) n
              · exact .inr (.inl z)
              · exact .inr (.inr ((oh b).mp z).1)
          refine k.rt v H' σ' _ (.new d) _ r2 a2 ⟨p2, e, rfl, fun z => n ?_, ro.less fun a z => (pw2 a).mp z⟩ q
          rcases z with z | ⟨j, d2, e2, w2⟩
          · exact .inl (.inl z)
          · have hl2 : i < env'.length := by rw [← r.len, a.len, rep0.len]; exact hi
            by_cases e3 : i = j
            · subst e3
              have st : σ'[i]? = some (some (.ref p)) := (a.st i (by simp)).trans hp0
              rw [List.getElem?_set_self hl2] at e2; cases e2
              rcases w2 with w2 | w2
              · rw [st] at w2
                cases w2
                exact .inl (.inr rfl)
              · cases w2
            · rw [List.getElem?_set_ne e3] at e2
              exact .inr ⟨j, d2, e2, w2⟩
        | .nrg ks es d, ok, _, q =>
          obtain ⟨p2, e, ey, n, ro⟩ := ok
          have yy : ∀ a, Y' a ↔ (Y a ∨ NewA p2 (.rg ks es d) a) ∨ a = p := fun a => by
            rw [ey]
            exact ⟨fun z => z.elim (fun z => z.elim (fun z => .inl (.inl z)) .inr) fun z => .inl (.inr z), fun z => z.elim (fun z => z.elim (fun z => .inl (.inl z)) .inr) fun z => .inl (.inr z)⟩
          have n2 : ¬ (Y p ∨ NewA p2 (.rg ks es d) p) := fun z => by
            rcases z with z | z
            · exact np z
            · exact n p z (.inl (.inr rfl))
          obtain ⟨r2, a2, pw2, _⟩ := shw (Y2 := fun a => Y a ∨ NewA p2 (.rg ks es d) a) r a yy n2 (fun _ h => .inl h) fun b h => by
            rcases h with h | h
            · exact .inl h
            · rcases a.yn b (by rw [ey]; exact .inr h) with z | z | z
              · exact absurd (.inl z) (n b h)
              · exact .inr (.inl z)
              · exact .inr (.inr ((oh b).mp z).1)
          refine k.rt v H' σ' _ (.nrg ks es d) _ r2 a2 ⟨p2, e, rfl, fun b hb z => n b hb ?_, ro.less fun a z => (pw2 a).mp z⟩ q
          rcases z with z | ⟨j, d2, e2, w2⟩
          · exact .inl (.inl z)
          · have hl2 : i < env'.length := by rw [← r.len, a.len, rep0.len]; exact hi
            by_cases e3 : i = j
            · subst e3
              have st : σ'[i]? = some (some (.ref p)) := (a.st i (by simp)).trans hp0
              rw [List.getElem?_set_self hl2] at e2; cases e2
              rcases w2 with w2 | w2
              · rw [st] at w2
                cases w2
                exact .inl (.inr rfl)
              · cases w2
            · rw [List.getElem?_set_ne e3] at e2
              exact .inr ⟨j, d2, e2, w2⟩
        | .at j, ok, ni, q =>
          obtain ⟨e, h, d, w⟩ := ok
          obtain ⟨ey, w⟩ := (⟨e, w⟩ : _ ∧ _)
          subst ey
          obtain ⟨r2, a2, pw2, _⟩ := shw r a (fun a => Iff.rfl) np (fun _ h => h) fun _ h => .inl h
          have e3 : i ≠ j := fun z => ni (by rw [z])
          exact k.rt v H' σ' _ (.at j) Y r2 a2 ⟨rfl, h, d, by rw [List.getElem?_set_ne e3]; exact w⟩ q
      · obtain ⟨r2, a2⟩ := same r a
        exact k.bk H' σ' _ r2 a2 q
      · obtain ⟨r2, a2⟩ := same r a
        exact k.ct H' σ' _ r2 a2 q
    refine ⟨_, hp0, p, rfl, ⟨us, .of hu⟩, ?_⟩
    refine ⟨fun n m σ H => ∃ env, m = l.length - n ∧ n ≤ l.length ∧ Rep X.K (fun a => Y a ∨ a = p) H σ env ∧ AdvS (fun j => B j || j == i) σ0 (fun a => Y a ∨ a = p) (env0.set i .un) H0 (fun a => Y a ∨ a = p) σ env H ∧ forL g b (hidA i l A) (l.drop n) env, ⟨_, env0.set i .un, rfl, Nat.zero_le _, rep1, AdvS.refl, q1⟩, ?_⟩
    rintro n m σ H ⟨env, rfl, hn, rep, adv, q⟩
    have hpl : H p = some (.lst us) := (adv.ky p (.inr rfl)).trans hu
    have rl := adv.rds rep1 rus1
    by_cases hlt : n < l.length
    · obtain ⟨v, hv, rv⟩ := rl.get (List.getElem?_eq_getElem hlt)
      refine .inr ⟨⟨us, v, .of hpl, hv⟩, fun σ' H' => ∃ env', Rep X.K (fun a => Y a ∨ a = p) H' σ' env' ∧ AdvS (fun j => B j || j == i) σ0 (fun a => Y a ∨ a = p) (env0.set i .un) H0 (fun a => Y a ∨ a = p) σ' env' H' ∧ forL g b (hidA i l A) (l.drop (n + 1)) env', fun σ' H' ⟨env', r', a', q'⟩ => ⟨_, by omega, env', rfl, hlt, r', a', q'⟩, fun y H3 z => ?_⟩
      obtain ⟨e3, fx⟩ := z
      subst e3
      have := fx us (.of hpl)
      rw [hv] at this
      cases this
      rw [List.drop_eq_getElem_cons hlt] at q
      refine sG _ H3 σ env _ l[n] _ _ rep rv q fun H4 σ4 env4 rep4 g4 q4 => ?_
      have adv4 := adv.trans rep1 g4
      refine sB _ H4 σ4 env4 _ _ rep4 q4 ⟨fun H5 σ5 env5 r5 a5 q5 => ⟨env5, r5, adv4.trans rep1 a5, q5⟩, fun v H5 σ5 env5 r Y5 r5 a5 ok5 q5 => kb.rt v H5 σ5 env5 r Y5 r5 (adv4.trans rep1 a5) ok5 q5,
        fun H5 σ5 env5 r5 a5 q5 => kb.nx H5 σ5 env5 r5 (adv4.trans rep1 a5) q5, fun H5 σ5 env5 r5 a5 q5 => ⟨env5, r5, adv4.trans rep1 a5, q5⟩⟩
    · have e : n = l.length := by omega
      subst e
      rw [List.drop_length] at q
      exact .inl ⟨⟨us, .of hpl, by rw [rus.length]; exact Nat.le_refl _⟩, kb.nx H σ env rep adv q⟩
end AL
namespace AL
open PySem L2
/-! AL25: reverse, pop; isinstance of an own class; sorted of ints, downwards. -/
theorem RDs.reverse {K : Fg} {H : Hp} {P : Ad} {us : List V} {ds : List D} (r : RDs K H P us ds) : RDs K H P us.reverse ds.reverse := by
  induction us generalizing ds with
  | nil => cases r; exact .nil
  | cons u us ih =>
    cases r with
    | cons r t =>
      rw [List.reverse_cons, List.reverse_cons]
      exact (ih t).append (.cons r .nil)
def aMut0 (i : Nat) (f : List D → (List D → D → Prop) → Prop) : AE' := fun env R => match env[i]? with
  | some (.own (.lst l)) => f l fun l' z => R (.dat z) (env.set i (.own (.lst l')))
  | _ => False
def fReverse (l : List D) (N : List D → D → Prop) : Prop := N l.reverse .non
def fPop (l : List D) (N : List D → D → Prop) : Prop := ∃ z, l[l.length - 1]? = some z ∧ N l.dropLast z
theorem RDs.dropLast {K : Fg} {H : Hp} {P : Ad} {us : List V} {ds : List D} (r : RDs K H P us ds) : RDs K H P us.dropLast ds.dropLast := by
  rw [List.dropLast_eq_take, List.dropLast_eq_take, r.length]
  exact r.take _
section
variable {X : Cx} {x : Str} {pos apos cpos : Pos}
theorem ae_reverse (i : Nat) (hN : X.N[i]? = some x := by rfl) (hv : Vis X.env.scope x := by first | exact Or.inl rfl | exact Or.inr (Or.inl rfl) | exact Or.inr (Or.inr rfl)) (hd : (x == ("__debug__" : Str)) = false := by decide) (hcd : (x == ("__classdict__" : Str)) = false := by decide)
    (hbase : attributeBase (.Name x pos) "reverse" X.env (eval (.Name x pos) X.env) = eval (.Name x pos) X.env := by rfl) (hline : (apos.endLine == cpos.line) = true := by rfl) :
    AE X (.Call (.Attribute (.Name x pos) "reverse" apos) [] [] cpos) (aMut0 i fReverse) := by
  refine ⟨_, pe_bm0 PySem.F.plainAttrs_list PySem.F.slot_list_reverse PySem.F.type_list_reverse mt_reverse (pe_var hN hv hd hcd) hbase hline, fun Y H σ env R Q rep q k => ?_⟩
  unfold aMut0 at q
  match w : env[i]?, q with
  | some (.own (.lst l)), q =>
    obtain ⟨p, hp, np, us, hu, r, hl⟩ := rep.own i _ w
    obtain ⟨a, b, c⟩ := mut_lst (us' := us.reverse) (l' := l.reverse) rep w hp r.reverse (by rw [List.length_reverse, ← r.length]; exact hl)
    exact ⟨.ref p, hp, .inl ⟨rfl, us, .of hu⟩, p, us, rfl, rfl, hu, k .non _ _ (.dat .non) Y a b ⟨rfl, .non⟩ q⟩
theorem ae_pop (i : Nat) (hN : X.N[i]? = some x := by rfl) (hv : Vis X.env.scope x := by first | exact Or.inl rfl | exact Or.inr (Or.inl rfl) | exact Or.inr (Or.inr rfl)) (hd : (x == ("__debug__" : Str)) = false := by decide) (hcd : (x == ("__classdict__" : Str)) = false := by decide)
    (hbase : attributeBase (.Name x pos) "pop" X.env (eval (.Name x pos) X.env) = eval (.Name x pos) X.env := by rfl) (hline : (apos.endLine == cpos.line) = true := by rfl) :
    AE X (.Call (.Attribute (.Name x pos) "pop" apos) [] [] cpos) (aMut0 i fPop) := by
  refine ⟨_, pe_bm0 PySem.F.plainAttrs_list PySem.F.slot_list_pop PySem.F.type_list_pop mt_pop (pe_var hN hv hd hcd) hbase hline, fun Y H σ env R Q rep q k => ?_⟩
  unfold aMut0 at q
  match w : env[i]?, q with
  | some (.own (.lst l)), q =>
    obtain ⟨z, hz, q⟩ := q
    obtain ⟨p, hp, np, us, hu, r, hl⟩ := rep.own i _ w
    obtain ⟨v, hv', rz⟩ := r.get hz
    obtain ⟨a, b, c⟩ := mut_lst (us' := us.dropLast) (l' := l.dropLast) rep w hp r.dropLast (by rw [List.length_dropLast, ← r.length]; omega)
    exact ⟨.ref p, hp, .inl ⟨rfl, us, .of hu⟩, p, us, v, rfl, rfl, hu, by rw [r.length]; exact hv', k v _ _ (.dat z) Y a b ⟨rfl, c rz⟩ q⟩
end
/-- isinstance(e, C) of an instance of C -/
def aIsC (C : Addr) (a : AE') : AE' := fun env R => a env fun r env1 => (∃ ns l, val env1 r = some (.obj C ns l)) ∧ R (.dat (.bl true)) env1
theorem ae_isC {X : Cx} {e : Expr} {a : AE'} {x : Str} {C : Addr} {p p2 pos : Pos} (c : C8.InsC X.K C) (ha : AE X e a) (hg : Gl X "isinstance") (hm : X.mg "isinstance" = none) (gC : Gl X x) (mC : X.mg x = some (.ref C)) (dC : (x == ("__debug__" : Str)) = false := by decide)
    (he : starEach [e, .Name x p2] X.env = (false, eval e X.env) :: starEach [.Name x p2] X.env := by rfl) (he2 : starEach [.Name x p2] X.env = (false, eval (.Name x p2) X.env) :: starEach [] X.env := by rfl) (hpl : (backTo pos (starEach [.Name x p2] X.env)).any (·.1) = false := by rfl) :
    AE X (.Call (.Name "isinstance" p) [e, .Name x p2] [] pos) (aIsC C a) := by
  obtain ⟨t, pe, s⟩ := ha
  refine ⟨_, pe_callB (C8.call_isC c) hg hm (by decide +kernel) (pa_cons pe (pa_cons (pe_glob (v := .ref C) gC mC rfl dC) pa_nil he2) he) (by decide) (by decide) he hpl, fun Y H σ env R Q rep q k => ?_⟩
  refine s Y H σ env _ _ rep q fun v H' env' z Y' rep' g ok q' => ?_
  obtain ⟨⟨ns, l, e1⟩, q'⟩ := q'
  obtain ⟨d, e2, cd⟩ := ok.rc rep'
  rw [e1] at e2
  cases e2
  obtain ⟨b, dx, fs, e3, hb, _, _⟩ := cd.obj
  subst e3
  exact ⟨b, dx, fs, rfl, hb, k (.bl true) H' env' (.dat (.bl true)) Y (rep'.less g.yu) g.drop ⟨rfl, .bl true⟩ q'⟩
/-- sorted(l, reverse=True), ints -/
def aSortedR (a : AE') : AE' := fun env R => a env fun r env1 => match val env1 r with
  | some (.lst l) => ∃ ns : List Int, l = ns.map D.int ∧ ∀ ns' : List Int, ns'.Perm ns → ns'.Pairwise (· ≥ ·) → R (.new (.lst (ns'.map D.int))) env1
  | _ => False
theorem ae_sortedR {X : Cx} {e : Expr} {a : AE'} {p pos kpos p2 : Pos} {j : Nat} (he : AE X e a) (hg : Gl X "sorted") (hm : X.mg "sorted" = none)
    (h1 : backTo pos (starEach [e] X.env) = (false, eval e X.env) :: backTo pos (starEach [] X.env) := by rfl) (hpl : (backTo pos (starEach [e] X.env)).any (·.1) = false := by rfl)
    (hall : (backToKw pos (keywordEach [⟨some "reverse", .Constant (.bool true) j p2, kpos⟩] X.env)).all (·.1.isSome) = true := by rfl) (hnone : (backToKw pos (keywordEach [⟨some "reverse", .Constant (.bool true) j p2, kpos⟩] X.env)).any (·.1.isNone) = false := by rfl)
    (hks : (backToKw pos (keywordEach [⟨some "reverse", .Constant (.bool true) j p2, kpos⟩] X.env)).filterMap (·.1) = [Str.ofString "reverse"] := by rfl) (hna : starEach [e] X.env = (false, eval e X.env) :: starEach [] X.env := by rfl) :
    AE X (.Call (.Name "sorted" p) [e] [⟨some "reverse", .Constant (.bool true) j p2, kpos⟩] pos) (aSortedR a) := by
  obtain ⟨t, pe, s⟩ := he
  refine ⟨_, pe_callBK (cr_sortedRev (b := true)) hg hm PyProof.Rows.boot_sorted (pa_cons pe pa_nil hna) (pk_cons pe_bl pk_nil) (by decide) (by decide) h1 hpl hall hnone hks, fun Y H σ env R Q rep q k => ?_⟩
  refine s Y H σ env _ _ rep q fun v H1 env1 r Y1 rep1 g1 ok1 q1 => ?_
  obtain ⟨d, e1, c⟩ := ok1.rc rep1
  simp only [e1] at q1
  match d, c, q1 with
  | .lst l, c, q1 =>
    obtain ⟨ns, rfl, q1⟩ := q1
    obtain ⟨p, us, e, hu, ru, hl⟩ := c.lst
    subst e
    have := ru.ofInts
    subst this
    refine ⟨p, ns, rfl, rfl, .of hu, fun ns' q pm od n => ?_⟩
    have repY := rep1.less g1.yu
    exact fin_lst (F := fun z => R z env1) repY (fun w H4 z Y4 rep4 g4 ok4 q4 => k w H4 env1 z Y4 rep4 (g1.drop.trans g4) ok4 q4) (RDs.ints ns') (by
      have := pm.length_eq
      rw [List.length_map] at hl ⊢
      omega) (q1 ns' pm od) n
/-- min, max of two ints -/
def fMin2 : OpN := fun ds F => match ds with
  | [.int i, .int j] => F (.dat (.int (if j < i then j else i)))
  | _ => False
def fMax2 : OpN := fun ds F => match ds with
  | [.int i, .int j] => F (.dat (.int (if j > i then j else i)))
  | _ => False
theorem cs_min2 (K : Fg) : CallS K (fun xs H Q => ∃ i j, xs = [V.int i, V.int j] ∧ Q (.int (if j < i then j else i)) H) fMin2 := by
  intro Y H σ env us ds F Q R r f k
  match ds, r, f with
  | [.int i, .int j], .cons r1 (.cons r2 .nil), f =>
    cases r1
    cases r2
    exact ⟨i, j, rfl, fin_dat R k (.int _) f⟩
theorem cs_max2 (K : Fg) : CallS K (fun xs H Q => ∃ i j, xs = [V.int i, V.int j] ∧ Q (.int (if j > i then j else i)) H) fMax2 := by
  intro Y H σ env us ds F Q R r f k
  match ds, r, f with
  | [.int i, .int j], .cons r1 (.cons r2 .nil), f =>
    cases r1
    cases r2
    exact ⟨i, j, rfl, fin_dat R k (.int _) f⟩
/-- a def that is never called -/
def SNever : ASp := fun _ _ => False
theorem fn_dead {P : Program} {w : World} {K : Fg} {mg : Str → Option Value} {base : Heap} {x qual : Str} {st : Stmt} {f : Addr} {fd : FuncData} {N ps : List Str} (F : Fun K x qual st f fd) (Sc : FnScope N ps (defScope st)) : FnOk P w K mg base CX0 1 f fd ps (toSp K SNever) :=
  F.ok Sc (fun vs H Q E h => (let ⟨_, _, _, _, z, _⟩ := h; z).elim) (fun cdv A outer s H vs Q E hr h => (let ⟨_, _, _, _, z, _⟩ := h; z).elim)
theorem cr_sortR {X : Cx} {k : Nat} (hr : Room k X.A) : CallR X (.builtin "sorted") (rSortD X.K) := cr_sortD (by have := hr.un; omega)
/-- list(d), d an owned dict -/
def aListOwn (a : AE') : AE' := fun env R => a env fun r env1 => match r with
  | .at i => match env1[i]? with
    | some (.own (.dic ks _)) => ks.length ≤ sizeLine ∧ R (.new (.lst ks)) env1
    | _ => False
  | _ => False
theorem ae_listOwn {X : Cx} {x : Str} {p pos : Pos} {e : Expr} {a : AE'} (hc : X.calm = true) (ha : AE X e a) (hg : Gl X x) (hm : X.mg x = none) (hv : bootBuiltins x = some (.type "list") := by decide +kernel) (hn : x ≠ "__name__" := by decide) (hdb : (x == ("__debug__" : Str)) = false := by decide)
    (he : starEach [e] X.env = (false, eval e X.env) :: starEach [] X.env := by rfl) : AE X (.Call (.Name x p) [e] [] pos) (aListOwn a) := by
  obtain ⟨u, pe, s⟩ := ha
  refine ⟨_, pe_callTy (call_list_dK hc) hg hm hv (pa_cons pe pa_nil he) hn hdb he rfl, fun Y H σ env R Q rep q k => ?_⟩
  refine s Y H σ env _ _ rep q fun v H1 env1 r Y1 rep1 g1 ok1 q1 => ?_
  match r, ok1, q1 with
  | .at i, ok1, q1 =>
    obtain ⟨ey, hi, _⟩ := ok1
    subst ey
    have q2 : (match env1[i]? with
      | some (.own (.dic ks _)) => ks.length ≤ sizeLine ∧ R (.new (.lst ks)) env1
      | _ => False) := q1
    match w : env1[i]?, q2 with
    | some (.own (.dic ks vs)), q2 =>
      obtain ⟨hz, q1⟩ := q2
      obtain ⟨b, hb, np, kvs, hr, e2, r⟩ := rep1.own i _ w
      rw [hi] at hb
      cases hb
      refine ⟨b, kvs, rfl, hr, fun q n => ?_⟩
      have rk : RDs X.K H1 (Pw Y1 σ env1) (kvs.map fun kv => kV kv.1) ks := by
        rw [e2]
        have := RDs.keysOf (K := X.K) (H := H1) (P := Pw Y1 σ env1) (kvs.map (·.1))
        rw [List.map_map, List.map_map] at this
        exact this
      exact fin_lst (F := fun z => R z env1) rep1 (fun w H4 z Y4 rep4 g4 ok4 q4 => k w H4 env1 z Y4 rep4 (g1.trans g4) ok4 q4) rk hz q1 n
end AL
namespace AL
open PySem L2 PyProof.Rows
/-! AL26: list(d.values()); len(set(t)) of a tuple of ints. -/
section
variable {X : Cx} {e : Expr} {td : TE} {p apos cpos pos : Pos}
def tListVals (td : TE) : TE := fun σ H Q => td σ H fun x H1 => ∃ d kvs, x = .ref d ∧ Rd H1 d (.dK kvs) ∧ ∀ q, H1 q = none → Q (.ref q) (upd H1 q (.lst (kvs.map (·.2))))
theorem pe_listVals (hc : X.calm = true) (hg : Gl X "list") (hm : X.mg "list" = none) (he : PE X e td) (hbase : attributeBase e "values" X.env (eval e X.env) = eval e X.env := by rfl) (hline : (apos.endLine == cpos.line) = true := by rfl)
    (na : starEach [.Call (.Attribute e "values" apos) [] [] cpos] X.env = (false, eval (.Call (.Attribute e "values" apos) [] [] cpos) X.env) :: starEach [] X.env := by rfl) :
    PE X (.Call (.Name "list" p) [.Call (.Attribute e "values" apos) [] [] cpos] [] pos) (tListVals td) := by
  refine ⟨fun pins s σ H Q I h => ?_⟩
  refine Call_ (ld_blt I hg hm PyProof.Rows.boot_list (PyProof.Rows.callWith_type1 (PyProof.Rows.args_cons (wpAny_Call_method (T := "dict") (id := "dict.values") hbase rfl hline F.plainAttrs_dict F.slot_dict_values F.type_dict_values (thn (he.run pins s σ H _ I h) fun u s1 ⟨x, H1, I1, rx, d, kvs, ex, hd, q⟩ => ?_)) na) na))
  subst ex
  obtain rfl : u = Value.ref d := rx
  obtain ⟨z, hs, vs, kv, hdo⟩ := dk_rd I1.hok hd
  obtain ⟨ep, hm2⟩ := hdo.dictAt
  have hl : kvs.length = vs.length := Paired.length kv
  refine ⟨hdo.typeIs, hdo.mapOf.noDict, ?_⟩
  have I2 : Inv X pins σ H1 { s1 with heap := s1.heap.push { cls := .type "dict_values", data := .fields #[.ref d] } } := I1.kept (t' := s1.toks) fun b ob q => Heap.get?_push_of_some _ q
  refine method_meetsIn F.slot_dict_values F.entry_dict_values rfl (PySem.evalArgs_none ⟨rfl, hdo.typeIs, F.args_dict_values_1 _, _, meets_dict_values (mixKind X.prog X.w) d hs, ⟨vs, hdo⟩, ?_⟩)
  refine PyProof.Rows.args_nil (?_ : wpAny (model X.prog X.w) X.A (call (.type "list") [.ref s1.heap.objs.size]) (EP X pins σ Q) X.xe { s1 with heap := s1.heap.push { cls := .type "dict_values", data := .fields #[.ref d] } })
  refine PySem.W.kdl_call (PySem.W.kdl_values (knd := mixKind X.prog X.w) (kvs := vs) (ep := ep) (r := s1.heap.objs.size) (d := d)) (I2.ok.hd hc) ⟨⟨_, Heap.get?_push_size _ rfl, rfl, rfl⟩, hm2.push _⟩ (by rw [← hl]; exact z) fun h' tk acc' c' hkeep hS hacc => ?_
  refine ⟨.ref (s1.heap.push { cls := .type "dict_values", data := .fields #[.ref d] }).objs.size, upd H1 _ (.lst (kvs.map (·.2))), I2.laid hkeep (Nat.le_refl _) (show ObjOk X.prog X.w _ _ _ (.lst (kvs.map (·.2))) from ⟨?_, acc'.toList, c', ?_, ?_⟩), rfl, q _ (I2.hok.fresh (Nat.le_refl _))⟩
  · rw [List.length_map]; exact z
  · have el : acc'.toList.length = acc'.size := by simp
    refine vals_of_at (by rw [List.length_map, el, hacc.1, hl]) fun j x w h1 h2 => ?_
    obtain ⟨k, hky⟩ := hacc.2 j w (by rw [← Array.getElem?_toList]; exact h2)
    rw [List.getElem?_map] at h1
    cases hk : kvs[j]? with
    | none => rw [hk] at h1; cases h1
    | some kv1 =>
      rw [hk] at h1
      cases h1
      obtain ⟨k1, v1⟩ := kv1
      obtain ⟨u, hu, ru⟩ := kv_get kv hk
      rw [hky] at hu
      cases hu
      exact ru
  · rw [Array.toArray_toList]; exact hS
/-- list(d.values()) -/
def aListVals (a : AE') : AE' := fun env R => a env fun r env1 => match val env1 r with
  | some (.dic _ vs) => vs.length ≤ sizeLine ∧ R (.new (.lst vs)) env1
  | _ => False
theorem ae_listVals {a : AE'} (hc : X.calm = true) (ha : AE X e a) (hg : Gl X "list") (hm : X.mg "list" = none) (hbase : attributeBase e "values" X.env (eval e X.env) = eval e X.env := by rfl) (hline : (apos.endLine == cpos.line) = true := by rfl)
    (na : starEach [.Call (.Attribute e "values" apos) [] [] cpos] X.env = (false, eval (.Call (.Attribute e "values" apos) [] [] cpos) X.env) :: starEach [] X.env := by rfl) :
    AE X (.Call (.Name "list" p) [.Call (.Attribute e "values" apos) [] [] cpos] [] pos) (aListVals a) := by
  obtain ⟨t, pe, s⟩ := ha
  refine ⟨_, pe_listVals hc hg hm pe hbase hline na, fun Y H σ env R Q rep q k => ?_⟩
  refine s Y H σ env _ _ rep q fun v H1 env1 r Y1 rep1 g1 ok1 q1 => ?_
  obtain ⟨d, e1, c⟩ := ok1.rc rep1
  simp only [e1] at q1
  match d, c, q1 with
  | .dic ks vs, c, q1 =>
    obtain ⟨hz, q1⟩ := q1
    have repY := rep1.less g1.yu
    obtain ⟨b, e, kvs, hr, e2, r⟩ := (c.less (pw_less g1.yu)).dic
    subst e
    refine ⟨b, kvs, rfl, hr, fun q n => ?_⟩
    exact fin_lst (F := fun z => R z env1) repY (fun w H4 z Y4 rep4 g4 ok4 q4 => k w H4 env1 z Y4 rep4 (g1.drop.trans g4) ok4 q4) r hz q1 n
/-! len(set(t)) -/
def tLenSetT (K : PySem.W.Frag) (ta : TE) : TE := fun σ H Q => ta σ H fun x H1 => ∃ (l : Addr) (ns : List Int), x = .ref l ∧ SqT K H1 l (ns.map V.int) ∧ ns.length ≤ 4000 ∧ ∀ ms : List Int, ms.Nodup → (∀ k, k ∈ ms ↔ k ∈ ns) → Q (.int (ms.length : Nat)) H1
theorem pe_lenSetT {a : Expr} {ta : TE} {p2 q : Pos} (hg : Gl X "len") (hm : X.mg "len" = none) (hg2 : Gl X "set") (hm2 : X.mg "set" = none) (ha : PE X a ta) (hc : X.calm = true := by rfl)
    (na : starEach [a] X.env = (false, eval a X.env) :: starEach [] X.env := by rfl) : PE X (.Call (.Name "len" p) [.Call (.Name "set" p2) [a] [] q] [] pos) (tLenSetT X.K ta) := by
  refine ⟨fun pins s σ H Q I h => ?_⟩
  refine Call_ (ld_blt I hg hm boot_len ?_)
  refine PyProof.Rows.callWith_builtin1 (PyProof.Rows.args_cons ?_ rfl) rfl rfl
  refine Call_ (ld_blt I hg2 hm2 boot_set ?_)
  refine PyProof.Rows.callWith_type1 (PyProof.Rows.args_cons (thn (ha.run pins s σ H _ I h) fun v s1 ⟨x, H1, I1, r1, q1⟩ => PyProof.Rows.args_nil ?_) na) na rfl
  obtain ⟨l, ns, rfl, hq, hl, q1⟩ := q1
  cases r1
  obtain ⟨its, r, pl, hz⟩ := I1.tuple hq
  refine call_set_tupI ns (I1.ok.hd hc) pl (by simpa using RZ.intsAre_vals r) (by unfold scanBound; omega) fun h' tk c hS _ hk => ?_
  refine PyProof.Rows.args_nil ?_
  obtain ⟨o, es, ep, t, ho, hex, hd, hg', hn, hmem, hb, hf, hsz, _⟩ := hS
  have I2 : Inv X pins σ H1 { s1 with heap := h', toks := tk } := I1.kept fun b o e => hk b o e
  have el : (es.toList.map keyOf).length = es.size := by rw [List.length_map, Array.length_toList]
  have q2 := q1 (es.toList.map keyOf) hn fun k => by rw [← hmem k]; simp
  rw [el] at q2
  have sb : es.size < 2 ^ 62 := Nat.lt_trans hb (by unfold scanBound; decide)
  exact call_len_set ho hex hd hf (by omega) ⟨.int es.size, H1, I2.tok _, ⟨_, rfl⟩, q2⟩
/-- len(set(t)), t a tuple of ints -/
def aLenSetT (a : AE') : AE' := fun env R => a env fun r env1 => match val env1 r with
  | some (.tup l) => ∃ ns : List Int, l = ns.map D.int ∧ ns.length ≤ 4000 ∧ ∀ ms : List Int, ms.Nodup → (∀ k, k ∈ ms ↔ k ∈ ns) → R (.dat (.int (ms.length : Nat))) env1
  | _ => False
theorem ae_lenSetT {a : Expr} {fa : AE'} {p2 q : Pos} (hc : X.calm = true) (ha : AE X a fa) (hg : Gl X "len") (hm : X.mg "len" = none) (hg2 : Gl X "set") (hm2 : X.mg "set" = none)
    (na : starEach [a] X.env = (false, eval a X.env) :: starEach [] X.env := by rfl) : AE X (.Call (.Name "len" p) [.Call (.Name "set" p2) [a] [] q] [] pos) (aLenSetT fa) := by
  obtain ⟨t, pe, s⟩ := ha
  refine ⟨_, pe_lenSetT hg hm hg2 hm2 pe hc na, fun Y H σ env R Q rep q k => ?_⟩
  refine s Y H σ env _ _ rep q fun v H1 env1 r Y1 rep1 g1 ok1 q1 => ?_
  obtain ⟨d, e1, c⟩ := ok1.rc rep1
  simp only [e1] at q1
  match d, c, q1 with
  | .tup l, c, q1 =>
    obtain ⟨ns, rfl, hl, q1⟩ := q1
    have repY := rep1.less g1.yu
    obtain ⟨b, us, e, hs, r, _⟩ := (c.less (pw_less g1.yu)).tup
    subst e
    have := r.ofInts
    subst this
    refine ⟨b, ns, rfl, hs, hl, fun ms nd hk => ?_⟩
    exact fin_dat (F := fun z => R z env1) repY (fun w H4 z Y4 rep4 g4 ok4 q4 => k w H4 env1 z Y4 rep4 (g1.drop.trans g4) ok4 q4) (.int _) (q1 ms nd hk)
end
/-- a def that is not called so deep -/
theorem fn_deadK {P : Program} {w : World} {K : Fg} {mg : Str → Option Value} {base : Heap} {x qual : Str} {st : Stmt} {f : Addr} {fd : FuncData} {N ps : List Str} {S : ASp} {k : Nat} (F : Fun K x qual st f fd) (Sc : FnScope N ps (defScope st)) (no : ∀ avs R, S avs R → False := by exact fun _ _ z => z) : FnOk P w K mg base CX0 (k + 1) f fd ps (toSp K S) :=
  F.ok Sc (fun vs H Q E h => (let ⟨_, _, _, _, z, _⟩ := h; no _ _ z).elim) (fun cdv A outer s H vs Q E hr h => (let ⟨_, _, _, _, z, _⟩ := h; no _ _ z).elim)
end AL
namespace AL
open PySem L2 PyProof.Rows
/-! AL27: a loop over a list that is owned or is data. -/
theorem PS_or {X : Cx} {st : Stmt} {t t' : TS} (h : PS X st t) (h' : PS X st t') : PS X st (fun D σ H => t D σ H ∨ t' D σ H) := ⟨fun pins s σ H D I q => q.elim (h.run pins s σ H D I) (h'.run pins s σ H D I)⟩
theorem AS.or {X : Cx} {B : Nat → Bool} {st : Stmt} {a a' : AS'} (h : AS X B st a) (h' : AS X B st a') : AS X B st (fun A env => a A env ∨ a' A env) := by
  obtain ⟨t, p, s⟩ := h
  obtain ⟨t', p', s'⟩ := h'
  exact ⟨_, PS_or p p', fun Y H σ env D A rep q k => q.elim (fun q => .inl (s Y H σ env D A rep q k)) fun q => .inr (s' Y H σ env D A rep q k)⟩
theorem AS.imp {X : Cx} {B : Nat → Bool} {st : Stmt} {a a' : AS'} (h : AS X B st a) (m : ∀ A env, a' A env → a A env) : AS X B st a' := by
  obtain ⟨t, p, s⟩ := h
  exact ⟨t, p, fun Y H σ env D A rep q k => s Y H σ env D A rep (m A env q) k⟩
def aForX (i : Nat) (g : AG') (b : AS') : AS' := fun A env => match env[i]? with
  | some (.own (.lst l)) => l.length ≤ sizeLine → forL g b (hidA i l A) l (env.set i .un)
  | some (.dat d) => itemsR d fun l => forL g b A l env
  | _ => False
theorem as_forX {X : Cx} {B : Nat → Bool} {st : Stmt} {g : AG'} {b : AS'} (i : Nat) (h : AS X B st (aFor (aiSeq (aVar i)) g b)) (h' : AS X B st (aForO i g b)) : AS X B st (aForX i g b) :=
  (h.or h').imp fun A env q => by
    unfold aForX at q
    match w : env[i]?, q with
    | some (.own (.lst l)), q =>
      right
      show aForO i g b A env
      unfold aForO
      rw [w]
      exact q
    | some (.dat d), q =>
      left
      show aFor (aiSeq (aVar i)) g b A env
      unfold aFor aiSeq aFrz aVar
      rw [w]
      exact q
end AL
namespace AL
open PySem L2
/-! AL28: a new thing kept within an owned object; a store into a thing within; while. -/
section
variable {K : Fg} {B : Nat → Bool} {σ : L2.St} {Y Y1 : Ad} {env : AEnv} {H : Hp}
/-- an owned thing changes and takes in a new one -/
theorem Rep.adopt {i : Nat} {d d1 : D} {p q : Addr} {o : HO} (R : Rep K Y1 H σ env) (ey : Y1 = fun a => Y a ∨ a = q) (nq : ¬ Pw Y σ env q) (h : env[i]? = some (.own d)) (hp : σ[i]? = some (some (.ref p)))
    (hreg : ∀ a, a ∈ regA d1 ↔ a = q ∨ a ∈ regA d) (ro : ∀ P : Ad, (∀ a, P a ↔ Pw Y1 σ env a) → Go (fun a => a = p) (Pw Y1 σ env) P H (upd H p o) → RO K (upd H p o) P p d1) (mo : Mut (some o)) :
    Rep K Y (upd H p o) σ (env.set i (.own d1)) ∧ ∀ (H0 : Hp) (σ0 : L2.St) (env0 : AEnv), (∀ a, Y1 a → Y a ∨ H0 a = none) → AdvS B σ0 Y env0 H0 Y1 σ env H → AdvS B σ0 Y env0 H0 Y σ (env.set i (.own d1)) (upd H p o) := by
  have hi : i < env.length := (List.getElem?_eq_some_iff.mp h).1
  have Yq : Y1 q := by rw [ey]; exact .inr rfl
  have yy : ∀ a, Y a → Y1 a := fun a z => by rw [ey]; exact .inl z
  have oA : ∀ a, OwnA σ i d1 a ↔ a = q ∨ OwnA σ i d a := fun a => by
    unfold OwnA
    rw [hreg]
    exact ⟨fun z => z.elim (fun z => .inr (.inl z)) fun z => z.elim .inl fun z => .inr (.inr z), fun z => z.elim (fun z => .inr (.inl z)) fun z => z.elim .inl fun z => .inr (.inr z)⟩
  have back : ∀ (j : Nat) (e : D), (env.set i (.own d1))[j]? = some (.own e) → (i = j ∧ e = d1) ∨ (env[j]? = some (.own e) ∧ i ≠ j) := fun j e w => by
    by_cases z : i = j
    · subst z
      rw [List.getElem?_set_self hi] at w; cases w
      exact .inl ⟨rfl, rfl⟩
    · rw [List.getElem?_set_ne z] at w
      exact .inr ⟨w, z⟩
  have bk : ∀ (j : Nat) (e : D) (a : Addr), (env.set i (.own d1))[j]? = some (.own e) → OwnA σ j e a → (i = j ∧ a = q) ∨ ∃ e', env[j]? = some (.own e') ∧ OwnA σ j e' a := fun j e a w z => by
    rcases back j e w with ⟨c, ed⟩ | ⟨w1, _⟩
    · subst c ed
      rcases (oA a).mp z with z | z
      · exact .inl ⟨rfl, z⟩
      · exact .inr ⟨d, h, z⟩
    · exact .inr ⟨e, w1, z⟩
  have ow : ∀ a, Own σ (env.set i (.own d1)) a ↔ a = q ∨ Own σ env a := fun a => by
    constructor
    · rintro ⟨j, e, w, z⟩
      rcases bk j e a w z with ⟨_, c⟩ | ⟨e', w', z'⟩
      · exact .inl c
      · exact .inr ⟨j, e', w', z'⟩
    · rintro (z | ⟨j, e, w, z⟩)
      · exact ⟨i, d1, List.getElem?_set_self hi, (oA a).mpr (.inl z)⟩
      · by_cases c : i = j
        · subst c
          rw [h] at w; cases w
          exact ⟨_, d1, List.getElem?_set_self hi, (oA a).mpr (.inr z)⟩
        · exact ⟨j, e, by rw [List.getElem?_set_ne c]; exact w, z⟩
  have pw : ∀ a, Pw Y σ (env.set i (.own d1)) a ↔ Pw Y1 σ env a := fun a => by
    unfold Pw
    rw [ow, ey]
    exact ⟨fun z => z.elim (fun z => .inl (.inl z)) fun z => z.elim (fun z => .inl (.inr z)) .inr, fun z => z.elim (fun z => z.elim .inl fun z => .inr (.inl z)) fun z => .inr (.inr z)⟩
  obtain ⟨np, _⟩ := R.ownY h (.inl hp)
  have qp : q ≠ p := fun z => np (by rw [← z]; exact Yq)
  have nown : ∀ (j : Nat) (e : D), env[j]? = some (.own e) → ¬ OwnA σ j e q := fun j e w z => nq (.inr ⟨j, e, w, z⟩)
  have g : Go (fun a => a = p) (Pw Y1 σ env) (Pw Y σ (env.set i (.own d1))) H (upd H p o) := ⟨fun a u w n => .inl (by rw [upd_ne n]; exact w), fun a z => .inl ((pw a).mp z)⟩
  have sub : ∀ a, a = p → Pw Y1 σ env a := fun a z => by subst z; exact .inr ⟨i, d, h, .inl hp⟩
  refine ⟨⟨by rw [List.length_set]; exact R.len, fun j e w => ?_, fun j e w => ?_, fun a z => ?_, fun j k e f a q1 q2 w1 w2 => ?_, fun j e a w m z => ?_⟩, fun H0 σ0 env0 yn ga => ⟨fun a u w n => ?_, fun a z => ?_, fun _ z => z, fun a z => .inl z, fun a z => ?_, fun a u w => ?_, ga.st, fun j bj => ?_, ga.len⟩⟩
  · by_cases z : i = j
    · subst z
      rw [List.getElem?_set_self hi] at w; cases w
    · rw [List.getElem?_set_ne z] at w
      obtain ⟨v, w, r⟩ := R.dat j e w
      exact ⟨v, w, r.go g sub⟩
  · rcases back j e w with ⟨z, e1⟩ | ⟨w1, z⟩
    · subst z e1
      exact ⟨p, hp, fun z => np (yy p z), ro _ pw g⟩
    · obtain ⟨p', w, n, r⟩ := R.own j e w1
      have ne : ∀ a, OwnA σ j e a → a ≠ p := fun a wa e' => by
        subst e'
        exact z (R.inj i j d e a h w1 (.inl hp) wa)
      exact ⟨p', w, fun z => n (yy p' z), RO.go g sub (upd_ne (ne p' (.inl w))) (fun q m => upd_ne (ne q (.inr m))) r⟩
  · by_cases e : a = p
    · subst e; exact absurd (yy a z) np
    · obtain ⟨u, w, m⟩ := R.yim a (yy a z)
      exact ⟨u, by rw [upd_ne e]; exact w, m⟩
  · rcases bk j e a q1 w1 with ⟨c1, d1⟩ | ⟨e', q1, w1⟩
    · rcases bk k f a q2 w2 with ⟨c2, _⟩ | ⟨f', q2, w2⟩
      · exact c1.symm.trans c2
      · subst d1; exact (nown k f' q2 w2).elim
    · rcases bk k f a q2 w2 with ⟨_, d2⟩ | ⟨f', q2, w2⟩
      · subst d2; exact (nown j e' q1 w1).elim
      · exact R.inj j k e' f' a q1 q2 w1 w2
  · rcases bk j e a w (.inr m) with ⟨_, c⟩ | ⟨e', q', w'⟩
    · subst c; exact nq (.inl z)
    · exact (R.ownY q' w').1 (yy a z)
  · refine (ga.keep a u w n).trans fun u' k => .inl ?_
    rw [upd_ne]
    · exact k
    · intro e
      subst e
      rcases ga.ow a ⟨i, d, h, .inl hp⟩ with z | z
      · exact n z
      · rw [w] at z; cases z
  · rw [upd_ne fun e => np (by rw [← e]; exact yy a z)]
    exact ga.ky a z
  · rcases (ow a).mp z with z | z
    · subst z
      rcases yn a Yq with z | z
      · exact (nq (.inl z)).elim
      · exact .inr z
    · exact ga.ow a z
  · obtain ⟨u', w'⟩ := ga.live a u w
    by_cases e : a = p
    · subst e; exact ⟨o, upd_same⟩
    · exact ⟨u', by rw [upd_ne e]; exact w'⟩
  · refine (ga.pr j bj).trans ?_
    by_cases e : i = j
    · subst e
      rw [List.getElem?_set_self hi, h]
      exact fun a m => (hreg a).mpr (.inr m)
    · rw [List.getElem?_set_ne e]
      exact Sh.refl _
end
/-- x.f = e: e a new thing that stays within the owned object x -/
def aFldOwn (i : Nat) (C : Addr) (f : Str) (a : AE') : AS' := fun A env => a env fun r env1 => match r, env1[i]? with
  | .new d, some (.own (.obj C' ns l)) => C' = C ∧ ns.length < 1000 ∧ ∀ q : Addr, A.nx (env1.set i (.own (.rg [q] [d] (.obj C (oPut f (.ptr q) ns l).1 (oPut f (.ptr q) ns l).2))))
  | _, _ => False
section
variable {X : Cx} {B : Nat → Bool} {x f m : Str} {e o : Expr} {es : List Expr} {pos p pos' apos : Pos} {a : AE'} {C : Addr}
theorem as_fldown (i : Nat) (c : Cls X.K C) (n : NoAttr X.K C f) (h : AE X e a) (hN : X.N[i]? = some x := by rfl) (hv : Vis X.env.scope x := by first | exact Or.inl rfl | exact Or.inr (Or.inl rfl) | exact Or.inr (Or.inr rfl)) (hd : (x == ("__debug__" : Str)) = false := by decide)
    (hcd : (x == ("__classdict__" : Str)) = false := by decide) (hs : swapsWith e (some (.Attribute (.Name x p) f pos')) pos.line X.env = pure false := by rfl) : AS X B (.Assign [.Attribute (.Name x p) f pos'] e pos) (aFldOwn i C f a) := by
  obtain ⟨t, pe, s⟩ := h
  refine ⟨_, ps_fld (pe_var hN hv hd hcd) pe hs, fun Y H σ env D A rep q' k => ?_⟩
  refine s Y H σ env _ _ rep q' fun v H1 env1 r Y1 rep1 g1 ok q1 => ?_
  match r, ok, w : env1[i]?, q1 with
  | .new d, ok, some (.own (.obj C' ns l)), q1 =>
    obtain ⟨q, ev, ey, nq, rq⟩ := ok
    subst ev
    obtain ⟨rfl, hl, q1⟩ := q1
    obtain ⟨q0, hq, np, dx, fs, ha, en, r⟩ := rep1.own i _ w
    subst en
    obtain ⟨e1, r2⟩ := r.putF (f := f) (RD.ptr q)
    have Yq : Y1 q := by rw [ey]; exact .inr rfl
    have qp : q ≠ q0 := fun z => np (by rw [← z]; exact Yq)
    obtain ⟨r3, g3⟩ := rep1.adopt (B := B) (o := .ins C' dx (putF f (.ref q) fs)) (d1 := .rg [q] [d] (.obj C' (oPut f (.ptr q) (fs.map (·.1)) l).1 (oPut f (.ptr q) (fs.map (·.1)) l).2)) ey nq w hq
      (fun a => by
        show a ∈ [q] ↔ a = q ∨ a ∈ ([] : List Addr)
        simp)
      (fun P pw g => by
        have sub : ∀ a, a = q0 → Pw Y1 σ env1 a := fun a e => by subst e; exact .inr ⟨i, _, w, .inl hq⟩
        exact ⟨⟨dx, _, upd_same, e1, Go.rds g sub r2⟩, ⟨RO0.go g sub (upd_ne qp) rq, trivial⟩, List.nodup_cons.mpr ⟨by simpa using qp.symm, by simp⟩⟩) trivial
    exact ⟨_, hq, q0, C', dx, fs, rfl, ha, c, n, by simpa using hl, k.nx _ σ _ r3 (g3 H σ env g1.yn g1.toS) (q1 q)⟩
end
/-! ### a store into a thing within -/
/-- k: v in a list or a dict -/
def setIn (e k d : D) (N : D → Prop) : Prop := match e, k with
  | .lst l, .int i => ∃ m, ixN l.length i = some m ∧ N (.lst (l.set m d))
  | .dic ks vs, k => isKey k = true ∧ ks.length < sizeLine ∧ N (.dic (dPutK ks k) (dPutW ks vs k d))
  | _, _ => False
@[irreducible] def setPtr (i : Nat) (q : Addr) (k d : D) (env : AEnv) (N : AEnv → Prop) : Prop := match env[i]? with
  | some (.own (.rg ks es d0)) => ∃ m e, ks[m]? = some q ∧ es[m]? = some e ∧ setIn e k d fun e1 => N (env.set i (.own (.rg ks (es.set m e1) d0)))
  | _ => False
/-- o[j] = v: o leads to a thing within the owned thing i -/
def agPtr (i : Nat) (o j : AE') : AG' := fun d env N => o env fun r env1 => j env1 fun s env2 => match r, val env2 s with
  | .dat (.ptr q), some k => setPtr i q k d env2 N
  | _, _ => False
theorem ROL.get {K : Fg} {H : Hp} {P : Ad} : ∀ {ks : List Addr} {es : List D} {m : Nat} {q : Addr} {e : D}, ROL K H P ks es → ks[m]? = Option.some q → es[m]? = Option.some e → RO0 K H P q e
  | k :: ks, x :: es, 0, q, e, h, a, b => by cases a; cases b; exact h.1
  | k :: ks, x :: es, m + 1, q, e, h, a, b => ROL.get (m := m) h.2 (by simpa using a) (by simpa using b)
  | [], _, _, _, _, _, a, _ => by simp at a
  | _ :: _, [], _, _, _, _, _, b => by simp at b
theorem ROL.put {K : Fg} {H H' : Hp} {P0 P1 P2 : Ad} (g : Go P0 P1 P2 H H') (s : ∀ a, P0 a → P1 a) {q : Addr} {e1 : D} (hk : ∀ a, a ≠ q → H' a = H a) (r : RO0 K H' P2 q e1) : ∀ {ks : List Addr} {es : List D} {m : Nat}, ks.Nodup → ROL K H P1 ks es → ks[m]? = Option.some q → ROL K H' P2 ks (es.set m e1)
  | k :: ks, x :: es, 0, nd, h, a => by
    cases a
    exact ⟨r, ROL.go g s (fun b hb => hk b fun z => by subst z; exact (List.nodup_cons.mp nd).1 hb) h.2⟩
  | k :: ks, x :: es, m + 1, nd, h, a => by
    have a' : ks[m]? = Option.some q := by simpa using a
    exact ⟨h.1.go g s (hk k fun z => by subst z; exact (List.nodup_cons.mp nd).1 (List.mem_of_getElem? a')), ROL.put g s hk r (List.nodup_cons.mp nd).2 h.2 a'⟩
  | [], _, _, _, _, a => by simp at a
  | _ :: _, [], _, _, h, _ => h.elim
theorem set_ptr_ok {K : Fg} {B : Nat → Bool} {Y : Ad} {H : Hp} {σ : L2.St} {env : AEnv} {i : V} {d k : D} {j : Nat} {v : V} {q : Addr} {N : AEnv → Prop} {Q : Hp → Prop} (rep : Rep K Y H σ env) (hk : RC K H (Pw Y σ env) i k) (hv : RD K H (Pw Y σ env) v d)
    (w : setPtr j q k d env N) (fin : ∀ H' env', Rep K Y H' σ env' → AdvS B σ Y env H Y σ env' H' → N env' → Q H') : rSetL (.ref q) i v H Q ∨ rSetD (.ref q) i v H Q := by
  unfold setPtr at w
  match c : env[j]?, w with
  | some (.own (.rg ks es d0)), w =>
    obtain ⟨m, e, hm, he, w⟩ := w
    obtain ⟨p, hp, np, ro0, rol, nd⟩ := rep.own j _ c
    have ndk := (List.nodup_cons.mp nd).2
    have hq : q ∈ ks := List.mem_of_getElem? hm
    have qp : p ≠ q := fun z => (List.nodup_cons.mp nd).1 (by rw [z]; exact hq)
    have oq : OwnA σ j (.rg ks es d0) q := .inr hq
    have sub : ∀ a, a = q → Pw Y σ env a := fun a z => by subst z; exact .inr ⟨j, _, c, oq⟩
    have rq := rol.get hm he
    have fin2 : ∀ (o : HO) (e1 : D), Mut (some o) → (∀ P : Ad, Go (fun a => a = q) (Pw Y σ env) P H (upd H q o) → RO0 K (upd H q o) P q e1) → N (env.set j (.own (.rg ks (es.set m e1) d0))) → Q (upd H q o) := fun o e1 mo ro w => by
      obtain ⟨a, b⟩ := rep.mutA (B := B) (x := q) (o := o) (d1 := .rg ks (es.set m e1) d0) c hp oq rfl (fun P pw g => ⟨ro0.go g sub (upd_ne qp), rol.put g sub (fun a n => upd_ne n) (ro P g) ndk hm, nd⟩) mo
      exact fin _ _ a b w
    match e, k, hk, rq, w with
    | .lst l, .int z, hk, rq, w =>
      obtain ⟨m', hm', w⟩ := w
      obtain ⟨us, hu, r, hl⟩ := rq
      exact .inl ⟨q, us, z, m', rfl, hk.int, hu, by rw [r.length]; exact hm', fin2 (.lst (us.set m' v)) (.lst (l.set m' d)) trivial (fun P g => ⟨_, upd_same, Go.rds g sub (r.set hv m'), by rw [List.length_set]; exact hl⟩) w⟩
    | .dic kk vs, k, hk, rq, w =>
      obtain ⟨hkey, hz, w⟩ := w
      obtain ⟨ky, rfl⟩ := isKey_of hkey
      obtain ⟨kvs, hu, ek, r⟩ := rq
      subst ek
      obtain ⟨e1, r2⟩ := dput_ok (k := ky) r hv
      exact .inr ⟨q, _, rfl, .inl ⟨kvs, ky, hu, hk.key, by simpa using hz, rfl⟩, fin2 (.dK (putK kvs ky v)) (.dic (dPutK (kvs.map fun kv => kD kv.1) (kD ky)) (dPutW (kvs.map fun kv => kD kv.1) vs (kD ky) d)) trivial (fun P g => ⟨_, upd_same, e1, Go.rds g sub r2⟩) w⟩
section
variable {X : Cx} {B : Nat → Bool} {pos : Pos}
theorem ag_ptr {o i : Expr} {fo fi : AE'} (s : Nat) {k : Nat} (hr : Room k X.A) (ho : AE X o fo) (hi : AE X i fi)
    (ha : ∀ v, assign (.Subscript o i pos) X.env v = (do
      let ov ← holding [v] (eval o X.env)
      let iv ← holding [v, ov] (eval i X.env)
      standAt pos
      holding [v, ov, iv] (setItem ov iv v)
      release [v, ov, iv] []) := by intro _; rfl) : AG X B (.Subscript o i pos) (agPtr s fo fi) := by
  obtain ⟨t1, p1, s1⟩ := ho
  obtain ⟨t2, p2, s2⟩ := hi
  refine ⟨_, pg_sub p1 p2 (PSet.or set_list (set_dict (by have := hr.un; omega))) ha, fun Y H σ env v d N Q rep rd q k => ?_⟩
  refine s1 Y H σ env _ _ rep q fun ov H1 env1 r1 Y1 rep1 g1 ok1 q1 => ?_
  refine s2 Y1 H1 σ env1 _ _ rep1 q1 fun iv H2 env2 r2 Y2 rep2 g2 ok2 q2 => ?_
  obtain ⟨ky, e2, c2⟩ := ok2.rc rep2
  have gg := g1.trans g2
  have repY := rep2.less gg.yu
  simp only [e2] at q2
  match r1, ok1, q2 with
  | .dat (.ptr q), ok1, q2 =>
    obtain ⟨_, rp⟩ := ok1
    cases rp
    refine set_ptr_ok (B := B) repY (c2.less (pw_less gg.yu)) (gg.drop.rd rd) q2 fun H' env' rep' g' q' => k H' σ env' rep' (gg.drop.toS.trans rep g') q'
end
/-! ### while -/
/-- at most n turns -/
def whileN (t : AT') (b : AS') (A : AEnds) : Nat → AEnv → Prop
  | 0, _ => False
  | n + 1, env => t env fun bb env1 => brP bb (b { nx := whileN t b A n, ct := whileN t b A n, bk := A.nx, rt := A.rt } env1) (A.nx env1)
def aWhile (t : AT') (b : AS') : AS' := fun A env => ∃ n, whileN t b A n env
section
variable {X : Cx} {B : Nat → Bool} {pos : Pos}
theorem as_while {c : Expr} {body : List Stmt} {t : AT'} {b : AS'} (hp : PassesOwn (model X.prog X.w) X.A X.env X.xe) (hc : AT X c t) (hb : ASs X B body b) : AS X B (.While c body [] pos) (aWhile t b) := by
  obtain ⟨t1, p1, s1⟩ := hc
  obtain ⟨t2, p2, s2⟩ := hb
  refine ⟨_, ps_while hp p1 p2, fun Y H0 σ0 env0 D A rep0 q k => ?_⟩
  obtain ⟨n0, q⟩ := q
  refine ⟨fun n σ H => ∃ env, Rep X.K Y H σ env ∧ AdvS B σ0 Y env0 H0 Y σ env H ∧ whileN t b A n env, ⟨n0, env0, rep0, AdvS.refl, q⟩, ?_⟩
  rintro m σ H ⟨env, rep, adv, q⟩
  match m, q with
  | n + 1, q =>
    refine s1.then rep q fun bb H1 env1 rep1 g1 q1 => ?_
    have adv1 := adv.trans rep0 g1.toS
    cases bb with
    | true =>
      rw [if_pos rfl]
      refine ⟨fun σ' H' => ∃ env', Rep X.K Y H' σ' env' ∧ AdvS B σ0 Y env0 H0 Y σ' env' H' ∧ whileN t b A n env', fun σ' H' z => ⟨n, Nat.lt_succ_self _, z⟩, ?_⟩
      exact s2 Y H1 σ env1 _ { nx := whileN t b A n, ct := whileN t b A n, bk := A.nx, rt := A.rt } rep1 (by simpa using q1) ⟨fun H5 σ5 env5 r5 a5 q5 => ⟨env5, r5, adv1.trans rep0 a5, q5⟩, fun v H5 σ5 env5 r Y5 r5 a5 ok5 q5 => k.rt v H5 σ5 env5 r Y5 r5 (adv1.trans rep0 a5) ok5 q5,
        fun H5 σ5 env5 r5 a5 q5 => k.nx H5 σ5 env5 r5 (adv1.trans rep0 a5) q5, fun H5 σ5 env5 r5 a5 q5 => ⟨env5, r5, adv1.trans rep0 a5, q5⟩⟩
    | false =>
      rw [if_neg Bool.false_ne_true]
      exact k.nx H1 σ env1 rep1 adv1 (by simpa using q1)
end
end AL
namespace AL
open PySem L2 PySem.Spec PyProof.Rows
/-! AL29: len(set(t)) of a tuple of keys (ints, texts). -/
section
variable {P : Program} {w : World} {A : Around} {E : Value → Shared → Prop} {s : Shared}
def memB (ks : List L2.Key) (k : L2.Key) : Bool := ks.any fun j => decide (j = k)
theorem memB_iff {ks : List L2.Key} {k : L2.Key} : memB ks k = true ↔ k ∈ ks := by
  unfold memB
  rw [List.any_eq_true]
  exact ⟨fun ⟨j, h, e⟩ => by rw [← of_decide_eq_true e]; exact h, fun h => ⟨k, h, decide_eq_true rfl⟩⟩
theorem memB_snoc {ks : List L2.Key} {k z : L2.Key} : memB (ks ++ [z]) k = (memB ks k || decide (k = z)) := by
  rw [Bool.eq_iff_iff, Bool.or_eq_true, memB_iff, memB_iff, List.mem_append, List.mem_singleton, decide_eq_true_iff]
theorem setOf_like {h : Heap} {a : Addr} {S S' : L2.Key → Bool} {n n' : Nat} (R : h.SetOf (mixKind P w) a S n) (e : ∀ k, S k = S' k) (en : n = n') : h.SetOf (mixKind P w) a S' n' := by
  obtain ⟨o, es, ep, t, ho, hex, hd, hel, hmem, hb, hf, hsz⟩ := R
  exact ⟨o, es, ep, t, ho, hex, hd, hel, fun k => by rw [← e]; exact hmem k, hb, hf, hsz.trans en⟩
/-- the keys that a set of some of them holds, each once -/
def Hold (ks ms : List L2.Key) : Prop := ms.Nodup ∧ ∀ k, k ∈ ms ↔ k ∈ ks
theorem set_keys {I : Addr} {fp wr : List Addr} {G : Array GenState → Array GenState → Prop} {n : Nat} {Pv : Nat → Value → Prop} {St : Nat → Shared → Prop} {R : Result → Shared → Prop}
    (W : WalksS P w A.in1 I fp wr G n Pv St) (S : Addr) (hSf : S ∉ fp) (ks : List L2.Key) (hn : n = ks.length) (hb : ks.length + 1 < scanBound) (hval : ∀ i v, Pv i v → ∃ k, ks[i]? = some k ∧ RelV (kV k) v) :
    ∀ (m i : Nat) (s : Shared), n - i = m → i ≤ n → St i s → (∃ ms, ms.length ≤ i ∧ Hold (ks.take i) ms ∧ s.heap.SetOf (mixKind P w) S (fun k => memB (ks.take i) k) ms.length) →
      (∀ s' ms, Moved (S :: wr) G s s' → Hold ks ms → s'.heap.SetOf (mixKind P w) S (fun k => memB ks k) ms.length → R (.ok (.ret .none)) s') →
      codeAny (model P w) A (.builtin "set.update.loop" ⟨[.ref S, .ref I], []⟩) R s := by
  have hSw : S ∉ wr := fun h => hSf (W.sub _ h)
  have up : ∀ b ∈ wr, b ∈ S :: wr := fun b hb => List.mem_cons_of_mem _ hb
  intro m
  induction m with
  | zero =>
    intro i s hm hi hst hS hR
    obtain ⟨ms, _, hold, hS⟩ := hS
    obtain rfl : i = n := by omega
    refine codeAny_builtin PyProof.Rows.F.entry_set_update_loop ?_
    rw [Around.under_plainId PyProof.Rows.F.plain_set_update_loop _]
    show wpAny _ A.in1 (pyNext (.ref I) >>= _) _ _ s
    refine wpAny_bind (W.done s _ _ hst fun s' hm => ?_)
    show wpAny _ A.in1 (ret Value.none) _ _ s'
    have e : ks.take i = ks := List.take_of_length_le (by omega)
    rw [e] at hS hold
    exact wpAny_pure (hR s' ms (hm.mono up) hold (setOf_at hS fun o e => hm.heap S o hSw e))
  | succ m ih =>
    intro i s hm hi hst hS hR
    obtain ⟨ms, hle, hold, hS⟩ := hS
    have hlt : i < n := by omega
    refine codeAny_builtin PyProof.Rows.F.entry_set_update_loop ?_
    rw [Around.under_plainId PyProof.Rows.F.plain_set_update_loop _]
    show wpAny _ A.in1 (pyNext (.ref I) >>= _) _ _ s
    refine wpAny_bind (W.item i s _ _ hlt hst fun v s' hP hst' hmv => ?_)
    obtain ⟨z, hz, rz⟩ := hval i v hP
    have hS' : s'.heap.SetOf (mixKind P w) S (fun k => memB (ks.take i) k) ms.length := setOf_at hS fun o e => hmv.heap S o hSw e
    show wpAny _ A.in1 (holding [v] (setAdd S v) >>= _) _ _ s'
    refine wpAny_bind (wpAny_holding ?_)
    unfold setAdd
    refine wpAny_holding ?_
    refine wpAny_bind ((mixKind P w).pyHash (k := z) (kV_is rz) ?_)
    refine wpAny_setAddHashed_of (knd := mixKind P w) (s := { s' with toks := s'.toks + 1 }) (kV_is rz) (key_scan rz) hS' (by unfold scanBound at *; omega) fun h' hsb hS2 => ?_
    have e1 : ks.take (i + 1) = ks.take i ++ [z] := by rw [List.take_add_one, hz]; rfl
    have hS3 : ∃ ms', ms'.length ≤ i + 1 ∧ Hold (ks.take (i + 1)) ms' ∧ h'.SetOf (mixKind P w) S (fun k => memB (ks.take (i + 1)) k) ms'.length := by
      by_cases c : z ∈ ks.take i
      all_goals have cb := (memB_iff (ks := ks.take i) (k := z))
      · refine ⟨ms, by omega, ⟨hold.1, fun k => ?_⟩, ?_⟩
        · rw [hold.2, e1, List.mem_append, List.mem_singleton]
          exact ⟨.inl, fun h => h.elim id fun h => by rw [h]; exact c⟩
        · refine setOf_like hS2 (fun k => ?_) (by rw [if_pos (cb.mpr c)])
          rw [e1]
          exact memB_snoc.symm
      · refine ⟨ms ++ [z], by simpa using hle, ⟨?_, fun k => ?_⟩, ?_⟩
        · refine List.nodup_append.mpr ⟨hold.1, by simp, fun a ha b hb => ?_⟩
          rw [List.mem_singleton.mp hb]
          intro h
          exact c ((hold.2 z).mp (by rw [← h]; exact ha))
        · rw [e1, List.mem_append, List.mem_append, hold.2]
        · refine setOf_like hS2 (fun k => ?_) (by rw [if_neg fun h => c (cb.mp h)]; simp)
          rw [e1]
          exact memB_snoc.symm
    refine wpAny_pure ⟨plainId_quiet PyProof.Rows.F.plain_set_update_loop _, ih (i + 1) _ (by omega) hlt (W.frame _ s' _ _ hst' (Nat.le_succ _) fun b hb o e => ?_) hS3 fun s'' ms2 hm'' hold'' hS'' => ?_⟩
    · rw [hsb.2 b (fun h : b = S => hSf (by rw [← h]; exact hb))]; exact e
    · refine hR s'' ms2 (Moved.trans W.gtrans ((hmv.mono up).then_heap (Nat.le_succ _) fun b o hb e => ?_) hm'') hold'' hS''
      rw [hsb.2 b (fun h : b = S => hb (by rw [h]; exact List.mem_cons_self))]; exact e
/-- the new set ahead of its items -/
def newSetObj (w : World) : Obj := { cls := .type "set", dict := none, data := .set #[] 0 (.fresh 0 0 (!w.params.followText "set-order")) }
set_option maxRecDepth 100000 in
set_option maxHeartbeats 3200000 in
theorem call_set_keys {l : Addr} {items : Array Value} (ks : List L2.Key) {Q : Value → Shared → Prop} (hh : A.handled = none) (hl : s.heap.IsTuple l items) (hit : ∀ (i : Nat) (v : Value), items[i]? = some v → ∃ k, ks[i]? = some k ∧ RelV (kV k) v) (hsz : items.size = ks.length) (hb : ks.length + 1 < scanBound)
    (h : ∀ (h' : Heap) (tk : Nat) ms, Hold ks ms → h'.SetOf (mixKind P w) s.heap.objs.size (fun k => memB ks k) ms.length → (∀ b o, s.heap.get? b = some o → h'.get? b = some o) → Q (.ref s.heap.objs.size) { s with heap := h', toks := tk }) :
    wpAny (model P w) A (call (.type "set") [.ref l]) Q E s := by
  obtain ⟨c, tl, hmro⟩ := PySem.F.called_set.mro
  have hmade := PySem.F.called_set.made
  have hsub := PySem.F.called_set.sub
  refine wpAny_call (codeAny_of_tree ?_)
  show wpAny _ _ (callAny (.type "set") _) _ _ _
  refine wpAny_pure ⟨Code.quiet_builtin _ (by decide +kernel), codeAny_builtin PySem.F.entry_type_call ?_⟩
  rw [Around.under_plain (weight_type_call_type "set" [.ref l] []) rfl]
  have h1 := PySem.F.called_set.notType
  have h2 := PySem.F.called_set.canCreate
  have hct := PySem.F.typeCall_set_1 (.ref l)
  repeat (any_goals (first | assumption | wp_step))
  refine codeAny_mono (L2.code_set_led1 (.ref l) (E := E) (Q₁ := fun obj s₁ => obj = .ref s.heap.objs.size ∧ s₁ = { s with heap := s.heap.push (newSetObj w) }) ⟨rfl, rfl⟩) fun r s₁ hr => ?_
  cases r with
  | error e => exact hr
  | ok fl =>
    cases fl with
    | ret obj =>
      obtain ⟨rfl, rfl⟩ := hr
      have hS : (s.heap.push (newSetObj w)).get? s.heap.objs.size = some (newSetObj w) := Heap.get?_push_size _ rfl
      have hT : Shared.TypeIs { s with heap := s.heap.push (newSetObj w) } (.ref s.heap.objs.size) "set" := ⟨_, hS, rfl⟩
      have hli := PySem.F.called_set.init.lookup
      have hbi := PySem.F.called_set.init.bind (.ref s.heap.objs.size)
      repeat (any_goals (first | assumption | wp_step))
      refine codeAny_mono (codeAny_call_builtin (R := wants (fun r s₂ => r = .none ∧ ∃ h' tk ms, s₂ = { s with heap := h', toks := tk } ∧ Hold ks ms ∧ h'.SetOf (mixKind P w) s.heap.objs.size (fun k => memB ks k) ms.length ∧
          (∀ b o, s.heap.get? b = some o → h'.get? b = some o)) E) PySem.F.called_set.init.plain PySem.F.entry_set_init (check_set_init_1 hT ?_)) fun r₂ s₂ hr₂ => ?_
      · obtain ⟨ol, hol, hcl, nl, hdl⟩ := hl
        obtain ⟨ocls, odict, odata, oslots⟩ := ol
        simp only at hcl hdl
        subst hcl; subst hdl
        have hol' : (s.heap.push (newSetObj w)).get? l = some { cls := .type "tuple", dict := odict, data := .seq items nl, slots := oslots } := Heap.get?_push_of_some _ hol
        have hsls := PySem.F.sub_tuple_set
        have hslf := PySem.F.sub_tuple_frozenset
        have hne : (Value.type "tuple" == Value.type "dict") = false := by decide
        have hl1 : (s.heap.push (newSetObj w)).IsTuple l items := ⟨_, hol', rfl, nl, rfl⟩
        unfold Builtin.«set.__init__» noKeywords Builtin.Frozenset.updateFrom
        generalize hPI : pyIter = PI
        wp_walk
        subst hPI
        refine wpAny_pyIter_tuple hl1 ?_
        refine wpAny_bind (wpAny_runValue ?_)
        have hlS : l < s.heap.objs.size := Heap.lt_size hol
        have hh3 : A.in1.in1.in1.handled = none := by simp [hh]
        have hneI : l ≠ (s.heap.push (newSetObj w)).objs.size := by
          rw [Heap.size_push]; exact Nat.ne_of_lt (Nat.lt_succ_of_lt hlS)
        have hSf : s.heap.objs.size ∉ [(s.heap.push (newSetObj w)).objs.size, l] := by
          rw [Heap.size_push]; simp only [List.mem_cons, List.mem_singleton, List.not_mem_nil, or_false, not_or]
          exact ⟨Nat.ne_of_lt (Nat.lt_succ_self _), Nat.ne_of_gt hlS⟩
        refine set_keys ((Walks.tuple hh3 _ l hneI items).toS) s.heap.objs.size
          hSf ks hsz hb hit (items.size - 0) 0 _ (by omega) (Nat.zero_le _)
          ⟨⟨_, Heap.get?_push_size _ rfl, rfl, rfl⟩, (hl1.push _)⟩ ?hS0 ?hR
        case hS0 =>
          have hget : ((s.heap.push (newSetObj w)).push { cls := .type "tuple_iterator", data := .fields #[.ref l, .int 0 0] }).get? s.heap.objs.size = some (newSetObj w) := Heap.get?_push_of_some _ hS
          exact ⟨[], Nat.le_refl 0, ⟨List.nodup_nil, fun k => by simp⟩, ⟨_, #[], 0, _, hget, ⟨rfl, rfl, rfl⟩, rfl, (fun e he => by simp at he), (fun k => by simp [memB]), (by decide), (by rfl), rfl⟩⟩
        case hR =>
          intro s' ms hm hold hS'
          obtain ⟨h', g2, d', tk', os'⟩ := s'
          have eg : g2 = s.gens := hm.gens
          have ed : d' = s.drawn := hm.drawn
          have eo : os' = s.os := hm.os
          subst eg; subst ed; subst eo
          show wpAny _ _ _ _ _ _
          refine wpAny_pure ?_
          show wpAny _ _ (ret Value.none) _ _ _
          refine wpAny_pure ⟨rfl, h', tk', ms, rfl, hold, hS', fun b o e => ?_⟩
          have hb0 : b < s.heap.objs.size := Heap.lt_size e
          have hb1 : b ≠ s.heap.objs.size := Nat.ne_of_lt hb0
          have hb2 : b ≠ (s.heap.push (newSetObj w)).objs.size := by
            rw [Heap.size_push]; exact Nat.ne_of_lt (Nat.lt_succ_of_lt hb0)
          exact hm.heap b o (by simp only [List.mem_cons, List.mem_singleton, List.not_mem_nil, or_false, not_or]; exact ⟨hb1, hb2⟩) (Heap.get?_push_of_some _ (Heap.get?_push_of_some _ e))
      · cases r₂ with
        | error e => exact hr₂
        | ok fl₂ =>
          cases fl₂ with
          | ret r =>
            obtain ⟨rfl, h', tk, ms, rfl, hold, hS', hk'⟩ := hr₂
            repeat (any_goals (first | assumption | wp_step))
            exact h _ _ _ hold hS' hk'
          | _ => exact hr₂.elim
    | _ => exact hr.elim
end
section
variable {X : Cx} {p apos cpos pos : Pos}
def tLenSetK (K : PySem.W.Frag) (ta : TE) : TE := fun σ H Q => ta σ H fun x H1 => ∃ (l : Addr) (ks : List L2.Key), x = .ref l ∧ SqT K H1 l (ks.map kV) ∧ ks.length ≤ 4000 ∧ ∀ ms, Hold ks ms → Q (.int (ms.length : Nat)) H1
theorem vals_at {us : List V} {vs : List Value} (r : Vals us vs) : ∀ {i : Nat} {v : Value}, vs[i]? = some v → ∃ u, us[i]? = some u ∧ RelV u v := by
  induction r with
  | nil => intro i v h; simp at h
  | cons r t ih =>
    intro i v h
    cases i with
    | zero => simp at h; subst h; exact ⟨_, rfl, r⟩
    | succ i => simpa using ih (i := i) (v := v) (by simpa using h)
theorem pe_lenSetK {a : Expr} {ta : TE} {p2 q : Pos} (hg : Gl X "len") (hm : X.mg "len" = none) (hg2 : Gl X "set") (hm2 : X.mg "set" = none) (ha : PE X a ta) (hc : X.calm = true := by rfl)
    (na : starEach [a] X.env = (false, eval a X.env) :: starEach [] X.env := by rfl) : PE X (.Call (.Name "len" p) [.Call (.Name "set" p2) [a] [] q] [] pos) (tLenSetK X.K ta) := by
  refine ⟨fun pins s σ H Q I h => ?_⟩
  refine Call_ (ld_blt I hg hm boot_len ?_)
  refine PyProof.Rows.callWith_builtin1 (PyProof.Rows.args_cons ?_ rfl) rfl rfl
  refine Call_ (ld_blt I hg2 hm2 boot_set ?_)
  refine PyProof.Rows.callWith_type1 (PyProof.Rows.args_cons (thn (ha.run pins s σ H _ I h) fun v s1 ⟨x, H1, I1, r1, q1⟩ => PyProof.Rows.args_nil ?_) na) na rfl
  obtain ⟨l, ks, rfl, hq, hl, q1⟩ := q1
  cases r1
  obtain ⟨its, r, pl, hz⟩ := I1.tuple hq
  have el : its.toArray.size = ks.length := by
    have := r.length
    rw [List.length_map] at this
    simpa using this.symm
  refine call_set_keys ks (I1.ok.hd hc) pl (fun i v e => ?_) el (by unfold scanBound; omega) fun h' tk ms hold hS hk => ?_
  · obtain ⟨u, hu, ru⟩ := vals_at r (i := i) (v := v) (by simpa using e)
    rw [List.getElem?_map] at hu
    cases hk : ks[i]? with
    | none => rw [hk] at hu; cases hu
    | some k =>
      rw [hk] at hu
      cases hu
      exact ⟨k, rfl, ru⟩
  refine PyProof.Rows.args_nil ?_
  obtain ⟨o, es, ep, t, ho, hex, hd, hel, hmem, hb, hf, hsz⟩ := hS
  have I2 : Inv X pins σ H1 { s1 with heap := h', toks := tk } := I1.kept fun b o e => hk b o e
  have q2 := q1 ms hold
  rw [← hsz] at q2
  have sb : es.size < 2 ^ 62 := Nat.lt_trans hb (by unfold scanBound; decide)
  exact call_len_set ho hex hd hf (by omega) ⟨.int es.size, H1, I2.tok _, ⟨_, rfl⟩, q2⟩
/-- len(set(t)), t a tuple of texts -/
def aLenSetS (a : AE') : AE' := fun env R => a env fun r env1 => match val env1 r with
  | some (.tup l) => ∃ ns : List Str, l = ns.map D.str ∧ ns.length ≤ 4000 ∧ ∀ ms : List Str, ms.Nodup → (∀ k, k ∈ ms ↔ k ∈ ns) → R (.dat (.int (ms.length : Nat))) env1
  | _ => False
theorem ae_lenSetS {a : Expr} {fa : AE'} {p2 q : Pos} (hc : X.calm = true) (ha : AE X a fa) (hg : Gl X "len") (hm : X.mg "len" = none) (hg2 : Gl X "set") (hm2 : X.mg "set" = none)
    (na : starEach [a] X.env = (false, eval a X.env) :: starEach [] X.env := by rfl) : AE X (.Call (.Name "len" p) [.Call (.Name "set" p2) [a] [] q] [] pos) (aLenSetS fa) := by
  obtain ⟨t, pe, s⟩ := ha
  refine ⟨_, pe_lenSetK hg hm hg2 hm2 pe hc na, fun Y H σ env R Q rep q k => ?_⟩
  refine s Y H σ env _ _ rep q fun v H1 env1 r Y1 rep1 g1 ok1 q1 => ?_
  obtain ⟨d, e1, c⟩ := ok1.rc rep1
  simp only [e1] at q1
  match d, c, q1 with
  | .tup l, c, q1 =>
    obtain ⟨ns, rfl, hl, q1⟩ := q1
    have repY := rep1.less g1.yu
    obtain ⟨b, us, e, hs, r, _⟩ := (c.less (pw_less g1.yu)).tup
    subst e
    have := r.ofStrs
    subst this
    refine ⟨b, ns.map Sum.inr, rfl, by rw [List.map_map]; exact hs, by rw [List.length_map]; exact hl, fun ms hold => ?_⟩
    obtain ⟨nd, mm⟩ := hold
    have il : ∀ (l : List L2.Key), (∀ k ∈ l, ∃ x, k = Sum.inr x) → ∃ l' : List Str, l = l'.map Sum.inr := fun l => by
      induction l with
      | nil => exact fun _ => ⟨[], rfl⟩
      | cons k l ih =>
        intro hk
        obtain ⟨x, ex⟩ := hk k List.mem_cons_self
        obtain ⟨l', el⟩ := ih fun k hk' => hk k (List.mem_cons_of_mem _ hk')
        exact ⟨x :: l', by rw [ex, el]; rfl⟩
    obtain ⟨l', rfl⟩ := il ms fun k hk => by
      obtain ⟨x, _, ex⟩ := List.mem_map.mp ((mm k).mp hk)
      exact ⟨x, ex.symm⟩
    have q2 := q1 l' ((List.pairwise_map.mp nd).imp fun h e => h (by rw [e])) fun k => by
      have := mm (Sum.inr k)
      simpa using this
    have q3 := fin_dat (F := fun z => R z env1) repY (fun w H4 z Y4 rep4 g4 ok4 q4 => k w H4 env1 z Y4 rep4 (g1.drop.trans g4) ok4 q4) (.int _) q2
    rw [List.length_map]
    exact q3
end
end AL
namespace AL
open PySem L2 PySem.Spec PyProof.Rows
/-! AL30: dicts that are alike; d.pop(k, x); sum; the values of a dict walked; sorted of a dict. -/
/-! ### d == e, alike -/
def ownR (env : AEnv) : RV → Option D
  | .new d => some d
  | .at i => match env[i]? with
    | some (.own d) => some d
    | _ => none
  | _ => none
theorem ownR_at {K : Fg} {σ : L2.St} {Y Y1 Y2 : Ad} {env1 env2 : AEnv} {H1 H2 : Hp} {v : V} {ks vs : List D} (g : Adv σ Y1 env1 H1 Y2 env2 H2) (R : Rep K Y2 H2 σ env2) : ∀ {r : RV}, ResOk K H1 Y Y1 σ env1 v r → ownR env2 r = some (.dic ks vs) →
    ∃ p kvs, v = .ref p ∧ H2 p = some (.dK kvs) ∧ ks = (kvs.map fun kv => kD kv.1) ∧ RDs K H2 (fun _ => False) (kvs.map (·.2)) vs
  | .new d, ⟨p, e, ey, n, h⟩, w => by
    obtain rfl : d = .dic ks vs := by injection w
    have h2 : RO0 K H2 (Pw Y2 σ env2) p (.dic ks vs) := h.go g.go (fun _ z => .inr z) (g.ky p (by rw [ey]; exact .inr rfl))
    obtain ⟨kvs, a, b, c⟩ := h2
    exact ⟨p, kvs, e, a, b, c.less fun _ z => z.elim⟩
  | .at i, ⟨_, h, _⟩, w => by
    simp only [ownR] at w
    match q : env2[i]?, w with
    | some (.own d), w =>
      obtain rfl : d = .dic ks vs := by injection w
      obtain ⟨p, h', _, kvs, a, b, c⟩ := R.own i _ q
      rw [h] at h'; cases h'
      exact ⟨p, kvs, rfl, a, b, c.less fun _ z => z.elim⟩
def aDicEq (neg : Bool) (a b : AE') : AE' := fun env R => a env fun r env1 => b env1 fun s env2 => match ownR env2 r, ownR env2 s with
  | some (.dic ks vs), some (.dic ls ws) => ks.length = ls.length ∧ (∀ p ∈ ks.zip vs, (∃ n, p.2 = .int n) ∧ dGet ls ws p.1 = some p.2) ∧ R (.dat (.bl (!neg))) env2
  | _, _ => False
theorem alike_ok {K : Fg} {H : Hp} {P P' : Ad} : ∀ {kvs : List (Key × V)} {vs : List D} {lvs : List (Key × V)} {ws : List D}, RDs K H P (kvs.map (·.2)) vs → RDs K H P' (lvs.map (·.2)) ws →
    (∀ p ∈ (kvs.map fun kv => kD kv.1).zip vs, (∃ n, p.2 = D.int n) ∧ dGet (lvs.map fun kv => kD kv.1) ws p.1 = some p.2) → ∀ p ∈ kvs, valV lvs p.1 = some p.2 ∧ flatB p.2 = true
  | [], _, _, _, _, _, _, p, m => by cases m
  | kv :: kvs, _, lvs, ws, .cons r t, r2, h, p, m => by
    rcases List.mem_cons.mp m with e | m
    · subst e
      obtain ⟨⟨n, en⟩, g⟩ := h _ (by rw [List.map_cons, List.zip_cons_cons]; exact List.mem_cons_self)
      simp only at en g
      subst en
      have ep : p.2 = .int n := by cases p; simp only at r ⊢; cases r; rfl
      rcases get_val kD_inj p.1 r2 with ⟨d, w, e1, e2, r3⟩ | ⟨e1, _⟩
      · rw [g] at e1; cases e1
        have ew : w = .int n := by cases r3; rfl
        rw [e2, ew, ep]
        exact ⟨rfl, rfl⟩
      · rw [g] at e1; cases e1
    · exact alike_ok t r2 (fun q hq => h q (by rw [List.map_cons, List.zip_cons_cons]; exact List.mem_cons_of_mem _ hq)) p m
theorem snd_dicEq {K : Fg} {ta tb : TE} {a b : AE'} (neg : Bool) (sa : Snd K ta a) (sb : Snd K tb b) : Snd K (tOp (if neg then rNeDA else rEqDA) ta tb) (aDicEq neg a b) := by
  intro Y H σ env R Q rep h k
  refine sa Y H σ env _ _ rep h fun v H1 env1 r1 Y1 rep1 g1 ok1 q1 => ?_
  refine sb Y1 H1 σ env1 _ _ rep1 q1 fun u H2 env2 r2 Y2 rep2 g2 ok2 q2 => ?_
  match e1 : ownR env2 r1, e2 : ownR env2 r2, q2 with
  | some (.dic ks vs), some (.dic ls ws), q2 =>
    obtain ⟨hl, hp, q2⟩ := q2
    obtain ⟨p, kvs, ev, hp1, ek, rk⟩ := ownR_at g2 rep2 ok1 e1
    obtain ⟨p', lvs, eu, hp2, el, rl⟩ := ownR_at Adv.refl rep2 ok2 e2
    subst ev eu ek el
    have fin := k (.bl (!neg)) H2 env2 (.dat (.bl (!neg))) Y ((rep2.less g2.yu).less g1.yu) (g1.trans g2).drop ⟨rfl, .bl _⟩ q2
    have al := alike_ok rk rl hp
    have hl' : kvs.length = lvs.length := by simpa using hl
    cases neg with
    | true => exact ⟨p, p', kvs, lvs, rfl, rfl, hp1, hp2, hl', al, fin⟩
    | false => exact ⟨p, p', kvs, lvs, rfl, rfl, hp1, hp2, hl', al, fin⟩
section
variable {X : Cx} {a b : Expr} {fa fb : AE'} {pos : Pos} {k : Nat}
theorem ae_dicEq (hr : Room k X.A) (ha : AE X a fa) (hb : AE X b fb) : AE X (.Compare a [.Eq] [b] pos) (aDicEq false fa fb) := let ⟨_, p, s⟩ := ha; let ⟨_, p2, s2⟩ := hb; ⟨_, pe_cmpR (op_eq_dictA (by have := hr.un; omega)) p p2 (nomark _), snd_dicEq false s s2⟩
theorem ae_dicNe (hr : Room k X.A) (ha : AE X a fa) (hb : AE X b fb) : AE X (.Compare a [.NotEq] [b] pos) (aDicEq true fa fb) := let ⟨_, p, s⟩ := ha; let ⟨_, p2, s2⟩ := hb; ⟨_, pe_cmpR (op_ne_dictA (by have := hr.un; omega)) p p2 (nomark _), snd_dicEq true s s2⟩
theorem at_dicEq (hr : Room k X.A) (ha : AE X a fa) (hb : AE X b fb) : AT X (.Compare a [.Eq] [b] pos) (aB (aDicEq false fa fb)) := let ⟨_, p, s⟩ := ha; let ⟨_, p2, s2⟩ := hb; ⟨_, pt_cmpR (op_eq_dictA (by have := hr.un; omega)) p p2 (nomark _), snd_test (snd_dicEq false s s2)⟩
theorem at_dicNe (hr : Room k X.A) (ha : AE X a fa) (hb : AE X b fb) : AT X (.Compare a [.NotEq] [b] pos) (aB (aDicEq true fa fb)) := let ⟨_, p, s⟩ := ha; let ⟨_, p2, s2⟩ := hb; ⟨_, pt_cmpR (op_ne_dictA (by have := hr.un; omega)) p p2 (nomark _), snd_test (snd_dicEq true s s2)⟩
end
/-! ### d.pop(k, x) -/
def dDropK (ks : List D) (k : D) : List D := ks.filter fun j => decide (j ≠ k)
theorem drop_rd {K : Fg} {H : Hp} {P : Ad} {k : Key} : ∀ {kvs : List (Key × V)} {vs : List D}, RDs K H P (kvs.map (·.2)) vs →
    dDropK (kvs.map fun kv => kD kv.1) (kD k) = (dropK kvs k).map (fun kv => kD kv.1) ∧ RDs K H P ((dropK kvs k).map (·.2)) (dDropV (kvs.map fun kv => kD kv.1) vs (kD k))
  | [], _, .nil => ⟨rfl, .nil⟩
  | kv :: kvs, _, .cons r t => by
    obtain ⟨e, ih⟩ := drop_rd (k := k) t
    by_cases c : kv.1 = k
    · have c' : kD kv.1 = kD k := by rw [c]
      refine ⟨?_, ?_⟩
      · unfold dDropK dropK at *
        rw [List.map_cons, List.filter_cons_of_neg (by simpa using c'), List.filter_cons_of_neg (by simpa using c)]
        exact e
      · unfold dropK at *
        rw [List.filter_cons_of_neg (by simpa using c)]
        simp only [List.map_cons, dDropV, if_pos c']
        exact ih
    · have c' : ¬ kD kv.1 = kD k := fun z => c (kD_inj z)
      refine ⟨?_, ?_⟩
      · unfold dDropK dropK at *
        rw [List.map_cons, List.filter_cons_of_pos (by simpa using c'), List.filter_cons_of_pos (by simpa using c), List.map_cons]
        rw [e]
      · unfold dropK at *
        rw [List.filter_cons_of_pos (by simpa using c)]
        simp only [List.map_cons, dDropV, if_neg c']
        exact .cons r ih
/-- an owned dict is stored anew -/
theorem mut_dic {K : Fg} {σ : L2.St} {Y : Ad} {env : AEnv} {H : Hp} {i : Nat} {p : Addr} {ks vs ks' vs' : List D} {us' : List (Key × V)} (R : Rep K Y H σ env) (h : env[i]? = some (.own (.dic ks vs))) (hp : σ[i]? = some (some (.ref p))) (e : ks' = us'.map fun kv => kD kv.1) (r : RDs K H (Pw Y σ env) (us'.map (·.2)) vs') :
    Rep K Y (upd H p (.dK us')) σ (env.set i (.own (.dic ks' vs'))) ∧ Adv σ Y env H Y (env.set i (.own (.dic ks' vs'))) (upd H p (.dK us')) ∧ (∀ {v : V} {d : D}, RD K H (Pw Y σ env) v d → RD K (upd H p (.dK us')) (Pw Y σ (env.set i (.own (.dic ks' vs')))) v d) := by
  have hi : i < env.length := (List.getElem?_eq_some_iff.mp h).1
  obtain ⟨a, b⟩ := R.mut (B := fun _ => false) (o := .dK us') (d1 := .dic ks' vs') h hp fun P pw g => ⟨us', upd_same, e, Go.rds g (fun a e => by subst e; exact .inr ⟨i, _, h, .inl hp⟩) r⟩
  refine ⟨a, ⟨b.keep, b.ky, b.yu, fun a z => .inl z, fun j => ?_, b.ow, b.live⟩, fun rd => b.rd R rd⟩
  by_cases e : i = j
  · subst e
    rw [List.getElem?_set_self hi, h]
    exact fun _ m => m
  · rw [List.getElem?_set_ne e]
    exact Sh.refl _
@[irreducible] def popAt (i : Nat) (k d : D) (env : AEnv) (R : RV → AEnv → Prop) : Prop := match env[i]? with
  | some (.own (.dic ks vs)) => isKey k = true ∧ match dGet ks vs k with
    | some w => R (.dat w) (env.set i (.own (.dic (dDropK ks k) (dDropV ks vs k))))
    | none => R (.dat d) env
  | _ => False
def isDicS (i : Nat) (env : AEnv) : Prop := match env[i]? with
  | some (.own (.dic _ _)) => True
  | _ => False
def aPop2 (i : Nat) (a b : AE') : AE' := fun env R => isDicS i env ∧ a env fun r env1 => b env1 fun s env2 => match val env2 r, s with
  | some k, .dat d => popAt i k d env2 R
  | _, _ => False
section
variable {X : Cx} {x : Str} {e f : Expr} {fa fb : AE'} {pos apos cpos : Pos}
theorem ae_pop2 (i : Nat) (ha : AE X e fa) (hb : AE X f fb) (hN : X.N[i]? = some x := by rfl) (hv : Vis X.env.scope x := by first | exact Or.inl rfl | exact Or.inr (Or.inl rfl) | exact Or.inr (Or.inr rfl)) (hd : (x == ("__debug__" : Str)) = false := by decide) (hcd : (x == ("__classdict__" : Str)) = false := by decide)
    (m : M2 X (.Name x pos) "pop" apos e f cpos := by exact ⟨rfl, rfl, rfl, rfl⟩) : AE X (.Call (.Attribute (.Name x pos) "pop" apos) [e, f] [] cpos) (aPop2 i fa fb) := by
  obtain ⟨t1, p1, s1⟩ := ha
  obtain ⟨t2, p2, s2⟩ := hb
  refine ⟨_, pe_dpop2 (pe_var hN hv hd hcd) p1 p2 m, fun Y H σ env R Q rep q k => ?_⟩
  obtain ⟨q0, q⟩ := q
  unfold isDicS at q0
  match w0 : env[i]?, q0 with
  | some (.own (.dic ks0 vs0)), _ =>
  obtain ⟨p, hp, np, kvs0, hk0, _, _⟩ := rep.own i _ w0
  refine ⟨_, hp, p, rfl, .inl ⟨kvs0, .inl hk0⟩, ?_⟩
  refine s1 Y H σ env _ _ rep q fun v H1 env1 r1 Y1 rep1 g1 ok1 q1 => ?_
  refine s2 Y1 H1 σ env1 _ _ rep1 q1 fun u H2 env2 r2 Y2 rep2 g2 ok2 q2 => ?_
  obtain ⟨ky, e1, c1⟩ := ok1.later g2 rep2
  simp only [e1] at q2
  match r2, ok2, q2 with
  | .dat d, ok2, q2 =>
    obtain ⟨ey, rd⟩ := ok2
    subst ey
    unfold popAt at q2
    match w2 : env2[i]?, q2 with
    | some (.own (.dic ks vs)), q2 =>
      obtain ⟨hkey, q2⟩ := q2
      obtain ⟨k0, rfl⟩ := isKey_of hkey
      obtain ⟨p', hp', np', kvs, hk, ek, rk⟩ := rep2.own i _ w2
      rw [hp] at hp'; cases hp'
      subst ek
      have gg := g1.trans g2
      have repY := rep2.less gg.yu
      refine ⟨kvs, k0, hk, c1.key, fun w hw => ?_, fun hn => ?_⟩
      · rcases get_val kD_inj k0 rk with ⟨d1, w1, f1, f2, r3⟩ | ⟨_, f2⟩
        · rw [hw] at f2; cases f2
          simp only [f1] at q2
          obtain ⟨a1, a2⟩ := drop_rd (k := k0) (rk.less (P' := Pw Y σ env2) (pw_less gg.yu))
          have hi : i < env2.length := (List.getElem?_eq_some_iff.mp w2).1
          have ok3 := mut_dic (us' := dropK kvs k0) repY w2 hp a1 a2
          exact k w _ _ (.dat d1) Y ok3.1 (gg.drop.trans ok3.2.1) ⟨rfl, ok3.2.2 (r3.less (pw_less gg.yu))⟩ q2
        · rw [hw] at f2; cases f2
      · rcases get_val kD_inj k0 rk with ⟨d1, w1, f1, f2, r3⟩ | ⟨f1, _⟩
        · rw [hn] at f2; cases f2
        · simp only [f1] at q2
          exact k u H2 env2 (.dat d) Y repY gg.drop ⟨rfl, rd.less (pw_less gg.yu)⟩ q2
end
/-! ### sum(xs) -/
def fSum : Op1 := fun d F => match d with
  | .lst l => ∃ ns : List Int, l = ns.map D.int ∧ F (.dat (.int ns.sum))
  | _ => False
theorem rs_sum (K : Fg) : Rd1S K (rSum K) fSum := by
  intro Y H σ env x d F Q R c f k
  match d, c, f with
  | .lst l, c, f =>
    obtain ⟨ns, rfl, f⟩ := f
    obtain ⟨p, us, e, h, r, hl⟩ := c.lst
    subst e
    have := r.ofInts
    subst this
    exact ⟨p, ns, rfl, .of h, fin_dat R k (.int _) f⟩
/-! ### for v in d.values() -/
theorem walk_vals {K : Fg} {H : Hp} {P : Ad} {d : Addr} {od : Obj} {kvs : List (Key × V)} {vs : List D} (h : H d = some (.frz od (.dK kvs))) (n : ¬ P d) (r : RDs K H P (kvs.map (·.2)) vs) : WalkOk K (Itd d od kvs) H P vs := by
  intro P0 P2 H2 s g _
  have h2 := (g.at s h n rfl).1
  have r2 := g.rds s r
  have hl : vs.length = kvs.length := by
    have := r.length
    simpa using this.symm
  refine ⟨fun i hi => ?_, h2, by rw [hl]; exact Nat.le_refl _⟩
  have hi' : i < kvs.length := by rw [← hl]; exact hi
  refine ⟨⟨h2, hi'⟩, fun x H3 y => ?_⟩
  obtain ⟨e3, k, hk⟩ := y
  subst e3
  obtain ⟨v, hv, rv⟩ := r2.get (List.getElem?_eq_getElem hi)
  rw [List.getElem?_map, hk] at hv
  cases hv
  exact ⟨Same.refl _, vs[i], List.getElem?_eq_getElem hi, rv⟩
def aiVals (a : AE') : AI' := fun env R => aFrz a env fun r env1 => match r with
  | .dat (.dic _ vs) => vs.length ≤ sizeLine ∧ R vs env1
  | _ => False
theorem ai_vals {X : Cx} {tg e : Expr} {a : AE'} {apos cpos : Pos} (h : AE X e a) (hbase : attributeBase e "values" X.env (eval e X.env) = eval e X.env := by rfl) (hline : (apos.endLine == cpos.line) = true := by rfl) : AI X tg (.Call (.Attribute e "values" apos) [] [] cpos) (aiVals a) := by
  obtain ⟨t, p, s⟩ := h.frz
  refine ⟨_, pi_values (pe_lockv p) hbase hline, fun Y H σ env R Q rep q k => ?_⟩
  refine s Y H σ env _ _ rep q fun v H1 env1 r1 Y1 rep1 g1 ok1 q1 => ?_
  match r1, ok1, q1 with
  | .dat (.dic ks vs), ok1, q1 =>
    obtain ⟨ey, rd⟩ := ok1
    subst ey
    cases rd with
    | dK hr n e1 r =>
      subst e1
      rcases hr with hr | ⟨o, hr⟩
      · refine .inr ⟨_, _, rfl, hr, fun od => ?_⟩
        obtain ⟨rep2, g2⟩ := rep1.lock (od := od) hr n
        exact ⟨_, od, _, rfl, upd_same, k _ _ env1 _ rep2 (g1.trans g2) (walk_vals upd_same n (g2.rds r)) q1.2⟩
      · exact .inl ⟨o, _, _, rfl, hr, _, o, _, rfl, hr, k _ H1 env1 _ rep1 g1 (walk_vals hr n r) q1.2⟩
/-! ### sorted(d) -/
def rSortK : List V → Hp → VK → Prop := fun vs H Q => ∃ (a : Addr) (kvs : List (Key × V)), vs = [.ref a] ∧ Rd H a (.dK kvs) ∧ PySem.W.AllAlike ((kvs.map (·.1)).map fun k => (kD k).pd) ∧ PySem.W.Sortable ((kvs.map (·.1)).map fun k => (kD k).pd) ∧
  ∀ p : Addr, H p = none → Q (.ref p) (upd H p (.lst (((kvs.map (·.1)).mergeSort (PySem.W.dataLe false fun k => (kD k).pd)).map kV)))
theorem each_at {α β : Type} {R : α → β → Prop} : ∀ {us : List α} {ks : List β}, us.length = ks.length → (∀ (j : Nat) (v : α), us[j]? = some v → ∃ k, ks[j]? = some k ∧ R v k) → PySem.W.EachIs R us ks
  | [], [], _, _ => .nil
  | u :: us, k :: ks, hl, h => by
    obtain ⟨k', e, r⟩ := h 0 u rfl
    cases e
    exact .cons r (each_at (by simpa using hl) fun j v e => by simpa using h (j + 1) v (by simpa using e))
  | [], _ :: _, hl, _ => by cases hl
  | _ :: _, [], hl, _ => by cases hl
theorem cr_sortK {X : Cx} (hcalm : X.calm = true) (hu : X.A.units + 65 < cLine) : CallR X (.builtin "sorted") rSortK := by
  intro pins s σ H vs us Q I r h
  obtain ⟨a, kvs, rfl, hd, hal, hso, q⟩ := h
  obtain rfl := Vals.ref1 r
  obtain ⟨zl, lo, ps, rel, dd⟩ := dk_rd I.hok hd
  obtain ⟨ep, hat⟩ := dd.dictAt
  have keys : ps.map (·.1) = kvs.map (·.1) := rel.keys.symm
  have ln : ps.length = kvs.length := by
    have := congrArg List.length keys
    simpa using this
  have small : ps.length ≤ sizeLine := by rw [ln]; exact zl
  refine call_function_entry_kw kind_sorted plain_sorted entry_sorted (args_sorted1 _) ?_
  unfold Builtin.«sorted»
  refine wpAny_bind (m := checkCount "sorted" 1 1 _) (wpAny_pure ?_)
  refine wpAny_bind (PySem.W.kdu_collect (A := X.A.in1) (PySem.W.kdl_dict (knd := mixKind X.prog X.w) (kvs := ps) (ep := ep) lo) (I.ok.hd hcalm) hat small fun h' tk acc kp items => ?_)
  have la : acc.toList.length = (kvs.map (·.1)).length := by rw [Array.length_toList, items.1, ln, List.length_map]
  have e1 : PySem.W.EachIs (fun v k => RelV (kV k) v) acc.toList (kvs.map (·.1)) := each_at la fun j v e => by
    obtain ⟨k, x, e1, e2⟩ := items.2 j v (by rw [← Array.getElem?_toList]; exact e)
    have e3 : (ps.map (·.1))[j]? = some k := by rw [List.getElem?_map, e1]; rfl
    rw [keys] at e3
    refine ⟨k, e3, ?_⟩
    rcases keyIs_shape (show keyIs k v = true from e2) with ⟨i, t, ek, ev⟩ | ⟨z, t, ek, ev⟩
    · subst ek ev; exact ⟨t, rfl⟩
    · subst ek ev; exact ⟨t, rfl⟩
  have I1 : Inv X pins σ H { s with heap := h', toks := tk } := I.kept kp
  have lz : acc.toList.length ≤ sizeLine := by rw [la, List.length_map]; exact zl
  refine wpAny_bind (wpAny_newList ?_ lz)
  have at_ : (h'.push (seqObj "list" acc.toList.toArray 0)).get? h'.objs.size = some (seqObj "list" acc.toList.toArray 0) := Heap.get?_push_size _ rfl
  have er : ∀ hp : Heap, PySem.W.EachIs (fun v k => ∃ as, Reads hp v (kD k).pd as) acc.toList (kvs.map (·.1)) := fun hp => e1.mono fun v k rel => by
    cases k with
    | inl i => obtain ⟨t, rfl⟩ := rel; exact ⟨_, .int _ _⟩
    | inr z => obtain ⟨t, rfl⟩ := rel; exact ⟨_, .str _ _⟩
  refine wpAny_bind (wpAny_holding (wpAny_call_entry_kw slot_list_sort ⟨_, at_, rfl⟩ entry_list_sort ?_ (args_list_sort _)))
  refine PySem.W.list_sort_vals (s := { s with heap := h'.push (seqObj "list" acc.toList.toArray 0), toks := tk }) at_
    (PySem.W.SortsAt.data (PySem.W.each_map (R := fun v d => ∃ as, Reads _ v d as) (fun k : Key => (kD k).pd) (er _)) hal hso fun d hd => ?_) lz ⟨_, rfl, ?_⟩
  · obtain ⟨k, _, rfl⟩ := List.mem_map.mp hd
    have e2 : X.A.in1.in1.units = X.A.units + 2 := rfl
    cases k with
    | inl i => show X.A.in1.in1.units + 0 < _; omega
    | inr z => show X.A.in1.in1.units + 0 < _; omega
  · obtain ⟨ep', he'⟩ := PyProof.Rows.sortedHeap_at (vs := acc.toList) (out := (PySem.W.sortVals _ false acc.toList acc.toList).toArray) at_
    have out := PySem.W.sortVals_data (h' := PySem.W.sortingHeap (h'.push (seqObj "list" acc.toList.toArray 0)) h'.objs.size acc.toList) false e1 (er _) hal
    have lz' : (((kvs.map (·.1)).mergeSort (PySem.W.dataLe false fun k => (kD k).pd)).map kV).length ≤ sizeLine := by rw [List.length_map, List.length_mergeSort, List.length_map]; exact zl
    refine wpAny_pure ⟨_, rfl, .ref h'.objs.size, upd H h'.objs.size (.lst (((kvs.map (·.1)).mergeSort (PySem.W.dataLe false fun k => (kD k).pd)).map kV)), I1.laid (t' := tk) (fun c o e => ?_) (Nat.le_refl _) ⟨lz', _, ep', zip_each out, he'⟩, rfl, q _ (I1.hok.fresh (Nat.le_refl _))⟩
    have lt : c < h'.objs.size := Heap.lt_size e
    rw [PyProof.Rows.sortedHeap_old (Nat.ne_of_lt lt) (by rw [size_push']; exact Nat.lt_succ_of_lt lt)]
    exact Heap.get?_push_of_some _ e
def fSortK : Op1 := fun d F => match d with
  | .dic ks vs => SortOk ks ∧ ks.length ≤ sizeLine ∧ F (.new (.lst (sortD ks)))
  | _ => False
theorem rs_sortK (K : Fg) : Rd1S K rSortK fSortK := by
  intro Y H σ env x d F Q R c f k
  match d, c, f with
  | .dic ks vs, c, f =>
    obtain ⟨ok, hz, f⟩ := f
    obtain ⟨p, e, kvs, hr, ek, r⟩ := c.dic
    subst e ek
    have e1 : (kvs.map fun kv => kD kv.1) = (kvs.map (·.1)).map kD := by rw [List.map_map]; rfl
    have e2 : (kvs.map fun kv => kD kv.1).map D.pd = (kvs.map (·.1)).map fun k => (kD k).pd := by rw [e1, List.map_map]; rfl
    have e3 : sortD (kvs.map fun kv => kD kv.1) = ((kvs.map (·.1)).mergeSort (PySem.W.dataLe false fun k => (kD k).pd)).map kD := by
      unfold sortD
      rw [e1]
      exact (PySem.W.sort_maps kD (r := PySem.W.dataLe false fun k => (kD k).pd) (s := PySem.W.dataLe false D.pd) fun _ _ _ _ => rfl).symm
    refine ⟨p, kvs, rfl, hr, by rw [← e2]; exact ok.al, by rw [← e2]; exact ok.so, fun q n => ?_⟩
    have rr : RDs K H (Pw Y σ env) (((kvs.map (·.1)).mergeSort (PySem.W.dataLe false fun k => (kD k).pd)).map kV) (sortD (kvs.map fun kv => kD kv.1)) := by
      rw [e3]
      exact RDs.keysOf _
    refine fin_lst R k rr ?_ f n
    unfold sortD
    rw [List.length_mergeSort]
    exact hz
end AL
namespace AL
open PySem L2 PySem.Spec PyProof.Rows
/-! AL31: global constants: ints, texts, tuples of texts. -/
section
variable {X : Cx} {x : Str} {pos : Pos}
theorem ae_gI {i : Int} (hg : Gl X x) (h : ∃ t, X.mg x = some (.int i t)) (hd : (x == ("__debug__" : Str)) = false := by decide) : AE X (.Name x pos) (aC (.int i)) := let ⟨t, e⟩ := h; ae_globI hg e ⟨t, rfl⟩ hd
theorem ae_gS {i : Str} (hg : Gl X x) (h : ∃ t, X.mg x = some (.str i t)) (hd : (x == ("__debug__" : Str)) = false := by decide) : AE X (.Name x pos) (aC (.str i)) := let ⟨t, e⟩ := h; ae_globS hg e ⟨t, rfl⟩ hd
/-- a global tuple of texts -/
def GlobT (K : Fg) (mg : Str → Option Value) (x : Str) (ws : List Str) : Prop := ∃ a, mg x = some (.ref a) ∧ KTup K a (ws.map V.str)
theorem ae_gT {ws : List Str} (hg : Gl X x) (h : GlobT X.K X.mg x ws) (hd : (x == ("__debug__" : Str)) = false := by decide) : AE X (.Name x pos) (aC (.tup (ws.map D.str))) := by
  obtain ⟨a, e, kt⟩ := h
  exact ⟨_, pe_glob (v := .ref a) hg e rfl hd, snd_c fun H P => .tup (.inr kt) (RDs.strs ws)⟩
end
theorem cr_sortKR {X : Cx} {k : Nat} (hc : X.calm = true) (hr : Room k X.A) : CallR X (.builtin "sorted") rSortK := cr_sortK hc (by have := hr.un; omega)
def strsB : List Value → List Str → Bool
  | [], [] => true
  | .str x _ :: us, y :: ws => decide (x = y) && strsB us ws
  | _, _ => false
theorem strsB_vals : ∀ {us : List Value} {ws : List Str}, strsB us ws = true → Vals (ws.map V.str) us
  | [], [], _ => .nil
  | .str x t :: us, y :: ws, h => by
    unfold strsB at h
    rw [Bool.and_eq_true, decide_eq_true_iff] at h
    obtain ⟨e, h⟩ := h
    subst e
    exact .cons ⟨t, rfl⟩ (strsB_vals h)
  | [], _ :: _, h => by cases h
  | .str _ _ :: _, [], h => by cases h
  | .none :: _, _, h => by simp [strsB] at h
  | .bool _ :: _, _, h => by simp [strsB] at h
  | .int _ _ :: _, _, h => by simp [strsB] at h
  | .ref _ :: _, _, h => by simp [strsB] at h
  | .type _ :: _, _, h => by simp [strsB] at h
  | .builtin _ :: _, _, h => by simp [strsB] at h
theorem kTup_of {K : Fg} {a : Addr} {od : Option Addr} {its : Array Value} {n : Nat} {sl : Array (Option Value)} {ws : List Str} (h : K.lookup a = some ⟨.type "tuple", od, .seq its n, sl⟩) (hz : decide (its.size ≤ 4096) = true) (hs : strsB its.toList ws = true) : KTup K a (ws.map V.str) :=
  ⟨_, its, n, h, rfl, rfl, Nat.le_trans (of_decide_eq_true hz) (by rw [PySem.sizeLine_eq]; omega), strsB_vals hs⟩
/-! list(d), d a dict that is read -/
def rListK : List V → Hp → VK → Prop := fun xs H Q => ∃ p kvs, xs = [.ref p] ∧ Rd H p (.dK kvs) ∧ ∀ q, H q = none → Q (.ref q) (upd H q (.lst ((kvs.map (·.1)).map kV)))
theorem cr_listK {X : Cx} (hc : X.calm = true) : CallR X (.type "list") rListK := by
  intro pins s σ H xs us Q I r h
  obtain ⟨p, kvs, e, hk, q⟩ := h
  subst e
  obtain rfl := Vals.ref1 r
  obtain ⟨zl, lo, ps, rel, dd⟩ := dk_rd I.hok hk
  obtain ⟨ep, hat⟩ := dd.dictAt
  have keys : ps.map (·.1) = kvs.map (·.1) := rel.keys.symm
  have ln : ps.length = kvs.length := by
    have := congrArg List.length keys
    simpa using this
  refine PySem.W.kdl_call (PySem.W.kdl_dict (knd := mixKind X.prog X.w) (kvs := ps) (ep := ep) lo) (I.ok.hd hc) hat (by rw [ln]; exact zl) fun h' tk acc c' hkeep hS hacc => ?_
  have la : acc.toList.length = (kvs.map (·.1)).length := by rw [Array.length_toList, hacc.1, ln, List.length_map]
  have e1 : PySem.W.EachIs (fun v k => RelV (kV k) v) acc.toList (kvs.map (·.1)) := each_at la fun j v e => by
    obtain ⟨k, x, e1, e2⟩ := hacc.2 j v (by rw [← Array.getElem?_toList]; exact e)
    have e3 : (ps.map (·.1))[j]? = some k := by rw [List.getElem?_map, e1]; rfl
    rw [keys] at e3
    refine ⟨k, e3, ?_⟩
    rcases keyIs_shape (show keyIs k v = true from e2) with ⟨i, t, ek, ev⟩ | ⟨z, t, ek, ev⟩
    · subst ek ev; exact ⟨t, rfl⟩
    · subst ek ev; exact ⟨t, rfl⟩
  exact ⟨.ref s.heap.objs.size, upd H s.heap.objs.size (.lst ((kvs.map (·.1)).map kV)), I.laid hkeep (Nat.le_refl _) (show ObjOk X.prog X.w _ _ _ (.lst ((kvs.map (·.1)).map kV)) from ⟨by rw [List.length_map, List.length_map]; exact zl, acc.toList, c', zip_each e1, by rw [Array.toArray_toList]; exact hS⟩), rfl, q _ (I.hok.fresh (Nat.le_refl _))⟩
def fListK : Op1 := fun d F => match d with
  | .dic ks vs => ks.length ≤ sizeLine ∧ F (.new (.lst ks))
  | _ => False
theorem rs_listK (K : Fg) : Rd1S K rListK fListK := by
  intro Y H σ env x d F Q R c f k
  match d, c, f with
  | .dic ks vs, c, f =>
    obtain ⟨hz, f⟩ := f
    obtain ⟨p, e, kvs, hr, ek, r⟩ := c.dic
    subst e ek
    refine ⟨p, kvs, rfl, hr, fun q n => ?_⟩
    have rr : RDs K H (Pw Y σ env) ((kvs.map (·.1)).map kV) (kvs.map fun kv => kD kv.1) := by
      have := RDs.keysOf (K := K) (H := H) (P := Pw Y σ env) (kvs.map (·.1))
      rw [List.map_map (g := kD)] at this
      exact this
    exact fin_lst R k rr hz f n
end AL
namespace AL
open PySem L2
/-! S0: loops, comprehensions and calls, as they are read in plain Lean. -/
theorem for_ind {g : AG'} {b : AS'} {A : AEnds} {Iv : List D → AEnv → Prop} (hn : ∀ env, Iv [] env → A.nx env)
    (hs : ∀ d ds env (N : AEnv → Prop), (∀ env', Iv ds env' → N env') → Iv (d :: ds) env → g d env fun env1 => b { nx := N, ct := N, bk := A.nx, rt := A.rt } env1) : ∀ items env, Iv items env → forL g b A items env
  | [], env, h => hn env h
  | d :: ds, env, h => hs d ds env _ (fun env' h' => for_ind hn hs ds env' h') h
/-- what a comprehension makes of its items: each gives a value or none -/
inductive Outs (Stp : D → Option D → Prop) : List D → List D → Prop
  | nil : Outs Stp [] []
  | yes {d z : D} {ds zs : List D} : Stp d (some z) → Outs Stp ds zs → Outs Stp (d :: ds) (z :: zs)
  | no {d : D} {ds zs : List D} : Stp d none → Outs Stp ds zs → Outs Stp (d :: ds) zs
def lcK (K : Option D → AEnv → Prop) (vs : List Nat) : RV → AEnv → Prop := fun r env => match r with
  | .dat z => K (some z) (wipeE env vs)
  | _ => False
theorem lc_ind {g : AG'} {t : AT'} {e : AE'} {vs : List Nat} {Ev : AEnv → Prop} {Stp : D → Option D → Prop} : ∀ (items : List D),
    (∀ d, d ∈ items → ∀ env (K : Option D → AEnv → Prop), Ev env → (∀ oz env', Ev env' → Stp d oz → K oz env') → g d env fun env1 => t env1 fun b env2 => brP b (aFrz e env2 (lcK K vs)) (K none (wipeE env2 vs))) →
    ∀ env R, Ev env → (∀ zs env', Outs Stp items zs → Ev env' → R zs env') → lcL g t e vs items R env
  | [], hs, env, R, h, k => k [] env .nil h
  | d :: ds, hs, env, R, h, k => by
    refine hs d List.mem_cons_self env (fun oz env' => match oz with
      | some z => lcL g t e vs ds (fun zs env4 => R (z :: zs) env4) env'
      | none => lcL g t e vs ds R env') h fun oz env' h' st => ?_
    have ih := fun R' k' => lc_ind (Stp := Stp) (Ev := Ev) ds (fun d' hd => hs d' (List.mem_cons_of_mem _ hd)) env' R' h' k'
    cases oz with
    | some z => exact ih _ fun zs env2 o h2 => k _ env2 (.yes st o) h2
    | none => exact ih _ fun zs env2 o h2 => k _ env2 (.no st o) h2
theorem Outs.imp {S S' : D → Option D → Prop} (h : ∀ d oz, S d oz → S' d oz) : ∀ {ds zs : List D}, Outs S ds zs → Outs S' ds zs
  | _, _, .nil => .nil
  | _, _, .yes s o => .yes (h _ _ s) (o.imp h)
  | _, _, .no s o => .no (h _ _ s) (o.imp h)
theorem Outs.len {S : D → Option D → Prop} : ∀ {ds zs : List D}, Outs S ds zs → zs.length ≤ ds.length
  | _, _, .nil => Nat.le_refl _
  | _, _, .yes s o => Nat.succ_le_succ o.len
  | _, _, .no s o => Nat.le_succ_of_le o.len
/-- each item gives a value of its kind -/
theorem Outs.all {S : D → Option D → Prop} {P : D → Prop} (h : ∀ d z, S d (some z) → P z) : ∀ {ds zs : List D}, Outs S ds zs → ∀ z ∈ zs, P z
  | _, _, .nil, z, m => by cases m
  | _, _, .yes s o, z, m => by
    rcases List.mem_cons.mp m with e | e
    · rw [e]; exact h _ _ s
    · exact o.all h z e
  | _, _, .no s o, z, m => o.all h z m
/-- a map -/
theorem Outs.map {α : Type} {S : D → Option D → Prop} {g : α → D} {f : α → D} (h : ∀ a oz, S (g a) oz → oz = some (f a)) : ∀ {xs : List α} {zs : List D}, Outs S (xs.map g) zs → zs = xs.map f
  | [], _, .nil => rfl
  | a :: xs, _, .yes s o => by
    have := h a _ s
    cases this
    rw [o.map h]
    rfl
  | a :: xs, _, .no s o => by
    have := h a _ s
    cases this
theorem map_cons_inv {α β : Type} {g : α → β} {xs : List α} {d : β} {ds : List β} (h : xs.map g = d :: ds) : ∃ a r, xs = a :: r ∧ g a = d ∧ r.map g = ds := by
  cases xs with
  | nil => cases h
  | cons a r =>
    cases h
    exact ⟨a, r, rfl, rfl, rfl⟩
/-- a filter -/
theorem Outs.filter {α : Type} {S : D → Option D → Prop} {g : α → D} {p : α → Bool} (h : ∀ a oz, S (g a) oz → oz = if p a then some (g a) else none) {xs : List α} {zs : List D} (o : Outs S (xs.map g) zs) : zs = (xs.filter p).map g := by
  induction xs generalizing zs with
  | nil => cases o; rfl
  | cons a xs ih =>
    cases o with
    | yes s o =>
      have e := h a _ s
      cases w : p a with
      | true =>
        rw [w] at e
        cases e
        rw [ih o, List.filter_cons, w]
        rfl
      | false => rw [w] at e; cases e
    | no s o =>
      have e := h a _ s
      cases w : p a with
      | true => rw [w] at e; cases e
      | false =>
        rw [ih o, List.filter_cons, w]
        rfl
/-! calls -/
theorem backE_dats : ∀ (ds : List D) (as env : AEnv), backE env (ds.map RV.dat) as = env
  | [], _, _ => by simp [backE]
  | d :: ds, [], env => by simp [backE]
  | d :: ds, a :: as, env => by
    simp only [List.map_cons, backE]
    exact backE_dats ds as env
theorem argsE_dats (env : AEnv) : ∀ ds : List D, argsE env (ds.map RV.dat) = ds.map AV.dat
  | [] => rfl
  | d :: ds => by
    simp only [List.map_cons, argsE]
    rw [argsE_dats env ds]
theorem lents_dats : ∀ ds : List D, lents (ds.map RV.dat) = []
  | [] => rfl
  | d :: ds => by
    simp only [List.map_cons, lents]
    exact lents_dats ds
theorem call_dats {S : ASp} {env : AEnv} (ds : List D) {R : RV → AEnv → Prop} (h : S (ds.map AV.dat) fun r _ => R r env) : callR S (ds.map RV.dat) env R := by
  unfold callR lentOk
  rw [lents_dats, argsE_dats]
  refine ⟨⟨List.nodup_nil, fun i h => by cases h⟩, ?_⟩
  have e : (fun r avs' => R r (backE env (ds.map RV.dat) avs')) = fun r (_ : AEnv) => R r env := by
    funext r avs'
    rw [backE_dats]
  rw [e]
  exact h
/-- the lent slot as it comes back -/
def lentBack (env : AEnv) (j : Nat) (R : RV → AEnv → Prop) : RV → AEnv → Prop := fun r avs => match avs with
  | a :: _ => R r (env.set j a)
  | [] => R r env
theorem call_lent {S : ASp} {env : AEnv} (j : Nat) {d : D} (ds : List D) {R : RV → AEnv → Prop} (e : env[j]? = some (.own d)) (h : S (.own d :: ds.map AV.dat) (lentBack env j R)) : callR S (.at j :: ds.map RV.dat) env R := by
  unfold callR lentOk
  have e1 : argsE env (.at j :: ds.map RV.dat) = .own d :: ds.map AV.dat := by
    simp only [argsE, e]
    rw [argsE_dats]
  rw [e1]
  refine ⟨⟨?_, fun i hi => ?_⟩, ?_⟩
  · simp only [lents, lents_dats]
    exact List.nodup_cons.mpr ⟨by simp, List.nodup_nil⟩
  · simp only [lents, lents_dats, List.mem_cons, List.not_mem_nil, or_false] at hi
    subst hi
    exact ⟨d, e⟩
  · have e2 : (fun r avs' => R r (backE env (.at j :: ds.map RV.dat) avs')) = lentBack env j R := by
      funext r avs'
      cases avs' with
      | nil => rfl
      | cons a as => simp only [backE, backE_dats, lentBack]
    rw [e2]
    exact h
theorem noOwn_one {env : AEnv} {v : Nat} {x : AV} (e : env[v]? = some x) (h : ∀ d, x ≠ .own d) : noOwn env [v] := fun i hi d z => by
  rw [List.mem_singleton] at hi
  subst hi
  rw [e] at z
  exact h d (Option.some.inj z)
theorem noOwn_two {env : AEnv} {v u : Nat} {x y : AV} (e : env[v]? = some x) (h : ∀ d, x ≠ .own d) (e2 : env[u]? = some y) (h2 : ∀ d, y ≠ .own d) : noOwn env [v, u] := fun i hi d z => by
  rcases List.mem_cons.mp hi with q | q
  · subst q
    rw [e] at z
    exact h d (Option.some.inj z)
  · rw [List.mem_singleton] at q
    subst q
    rw [e2] at z
    exact h2 d (Option.some.inj z)
/-! subscripts -/
theorem atI_nat {l : List D} {i : Int} {z : D} (h : 0 ≤ i) (e : l[i.toNat]? = some z) : atI l i = some z := by
  unfold atI
  have hl : i.toNat < l.length := (List.getElem?_eq_some_iff.mp e).1
  have : ixN l.length i = some i.toNat := by
    unfold ixN
    rw [if_pos h, if_pos (by omega)]
  rw [this]
  exact e
theorem ix_lst {l : List D} {i : Int} {z : D} {F : RV → Prop} (h : 0 ≤ i) (e : l[i.toNat]? = some z) (f : F (.dat z)) : fIx (.lst l) (.int i) F := by
  unfold fIx
  exact ⟨z, atI_nat h e, f⟩
theorem ix_tup {l : List D} {i : Int} {z : D} {F : RV → Prop} (h : 0 ≤ i) (e : l[i.toNat]? = some z) (f : F (.dat z)) : fIx (.tup l) (.int i) F := by
  unfold fIx
  exact ⟨z, atI_nat h e, f⟩
theorem ix_dic {ks vs : List D} {k z : D} {F : RV → Prop} (h : isKey k = true) (e : dGet ks vs k = some z) (f : F (.dat z)) : fIx (.dic ks vs) k F := by
  unfold fIx
  exact ⟨h, z, e, f⟩
end AL
namespace AL
open PySem L2
/-! S0b: data of ints, texts, tuples and lists: == is equality. -/
inductive Pl : Nat → D → Prop
  | int (n : Nat) (i : Int) : Pl n (.int i)
  | str (n : Nat) {x : Str} : PyData.strOk x = true → Pl n (.str x)
  | tup {n : Nat} {l : List D} : (∀ d, d ∈ l → Pl n d) → Pl (n + 1) (.tup l)
  | lst {n : Nat} {l : List D} : (∀ d, d ∈ l → Pl n d) → Pl (n + 1) (.lst l)
theorem Pl.up {n m : Nat} {d : D} (h : Pl n d) : n ≤ m → Pl m d := by
  induction h generalizing m with
  | int n i => exact fun _ => .int m i
  | str n hx => exact fun _ => .str m hx
  | tup h ih =>
    intro le
    obtain ⟨k, rfl⟩ : ∃ k, m = k + 1 := ⟨m - 1, by omega⟩
    exact .tup fun d hd => ih d hd (by omega)
  | lst h ih =>
    intro le
    obtain ⟨k, rfl⟩ : ∃ k, m = k + 1 := ⟨m - 1, by omega⟩
    exact .lst fun d hd => ih d hd (by omega)
theorem layAll : ∀ {l : List D}, (∀ d ∈ l, d.pd.canLay0 = true) → PyData.canLayAll0 (pds l) = true
  | [], _ => rfl
  | d :: l, h => by
    simp only [pds, PyData.canLayAll0, Bool.and_eq_true]
    exact ⟨h d List.mem_cons_self, layAll fun e he => h e (List.mem_cons_of_mem _ he)⟩
theorem depAll {n : Nat} : ∀ {l : List D}, (∀ d ∈ l, d.pd.depth ≤ n) → PyData.depthAll (pds l) ≤ n
  | [], _ => by simp [pds, PyData.depthAll]
  | d :: l, h => by
    simp only [pds, PyData.depthAll]
    exact Nat.max_le.mpr ⟨h d List.mem_cons_self, depAll fun e he => h e (List.mem_cons_of_mem _ he)⟩
theorem Pl.lay {n : Nat} {d : D} (h : Pl n d) : d.pd.canLay0 = true := by
  induction h with
  | int n i => simp [D.pd, PyData.canLay0]
  | str n hx => simpa [D.pd, PyData.canLay0] using hx
  | tup h ih =>
    simp only [D.pd, PyData.canLay0]
    exact layAll ih
  | lst h ih =>
    simp only [D.pd, PyData.canLay0]
    exact layAll ih
theorem Pl.dep {n : Nat} {d : D} (h : Pl n d) : d.pd.depth ≤ n := by
  induction h with
  | int n i => simp [D.pd, PyData.depth]
  | str n hx => simp [D.pd, PyData.depth]
  | tup h ih =>
    simp only [D.pd, PyData.depth]
    exact Nat.succ_le_succ (depAll ih)
  | lst h ih =>
    simp only [D.pd, PyData.depth]
    exact Nat.succ_le_succ (depAll ih)
theorem Pl.sh {n : Nat} {d : D} (h : Pl n d) (hn : n ≤ 64 := by decide) : d.sh := by
  unfold D.sh SeqAt.shaped
  rw [h.lay, Bool.true_and, decide_eq_true_iff]
  exact Nat.le_trans h.dep hn
theorem eqvAll_iff : ∀ {l m : List D}, (∀ d ∈ l, ∀ (k : Nat) (e : D), Pl k e → (PyData.eqv d.pd e.pd = true ↔ d = e)) → (∀ e ∈ m, ∃ k, Pl k e) → (PyData.eqvAll (pds l) (pds m) = true ↔ l = m)
  | [], [], _, _ => by simp [pds, PyData.eqvAll]
  | [], _ :: _, _, _ => by simp [pds, PyData.eqvAll]
  | _ :: _, [], _, _ => by simp [pds, PyData.eqvAll]
  | d :: l, e :: m, h1, h2 => by
    simp only [pds, PyData.eqvAll, Bool.and_eq_true, List.cons.injEq]
    obtain ⟨k, hk⟩ := h2 e List.mem_cons_self
    exact and_congr (h1 d List.mem_cons_self k e hk) (eqvAll_iff (fun d hd => h1 d (List.mem_cons_of_mem _ hd)) fun e he => h2 e (List.mem_cons_of_mem _ he))
theorem Pl.eqv {n : Nat} {d : D} (h : Pl n d) : ∀ {m : Nat} {e : D}, Pl m e → (PyData.eqv d.pd e.pd = true ↔ d = e) := by
  induction h with
  | int n i =>
    intro m e h2
    cases h2 <;> simp [D.pd, PyData.eqv]
  | str n hx =>
    intro m e h2
    cases h2 <;> simp [D.pd, PyData.eqv]
  | tup h ih =>
    intro m e h2
    cases h2 with
    | int => simp [D.pd, PyData.eqv]
    | str => simp [D.pd, PyData.eqv]
    | tup h' =>
      simp only [D.pd, PyData.eqv, D.tup.injEq]
      exact eqvAll_iff (fun d hd k e he => ih d hd he) fun e he => ⟨_, h' e he⟩
    | lst h' => simp [D.pd, PyData.eqv]
  | lst h ih =>
    intro m e h2
    cases h2 with
    | int => simp [D.pd, PyData.eqv]
    | str => simp [D.pd, PyData.eqv]
    | tup h' => simp [D.pd, PyData.eqv]
    | lst h' =>
      simp only [D.pd, PyData.eqv, D.lst.injEq]
      exact eqvAll_iff (fun d hd k e he => ih d hd he) fun e he => ⟨_, h' e he⟩
theorem Pl.eqvB {n m : Nat} {d e : D} (h : Pl n d) (h2 : Pl m e) : PyData.eqv d.pd e.pd = decide (d = e) := by
  rw [Bool.eq_iff_iff, decide_eq_true_iff]
  exact h.eqv h2
theorem any_mem {n m : Nat} {d : D} (h : Pl m d) : ∀ {l : List D}, (∀ x ∈ l, Pl n x) → ((pds l).any fun z => PyData.eqv z d.pd) = decide (d ∈ l)
  | [], _ => by simp only [pds, List.any_nil, List.not_mem_nil, decide_false]
  | x :: l, hl => by
    simp only [pds, List.any_cons]
    rw [any_mem h fun y hy => hl y (List.mem_cons_of_mem _ hy), (hl x List.mem_cons_self).eqvB h]
    rw [Bool.eq_iff_iff, Bool.or_eq_true, decide_eq_true_iff, decide_eq_true_iff, decide_eq_true_iff, List.mem_cons]
    exact or_congr eq_comm Iff.rfl
section
variable {n m : Nat} {d e : D} {l : List D} {F : RV → Prop}
theorem in_lst (h : Pl m d) (hl : ∀ x ∈ l, Pl n x) (f : F (.dat (.bl (decide (d ∈ l))))) (hm : m ≤ 64 := by omega) (hn : n + 1 ≤ 64 := by omega) : fIn false d (.lst l) F := by
  unfold fIn
  refine ⟨h.sh hm, (Pl.lst hl).sh hn, ?_⟩
  simp only [Bool.false_eq_true, if_false]
  rw [any_mem h hl]
  exact f
theorem in_tup (h : Pl m d) (hl : ∀ x ∈ l, Pl n x) (f : F (.dat (.bl (decide (d ∈ l))))) (hm : m ≤ 64 := by omega) (hn : n + 1 ≤ 64 := by omega) : fIn false d (.tup l) F := by
  unfold fIn
  refine ⟨h.sh hm, (Pl.tup hl).sh hn, ?_⟩
  simp only [Bool.false_eq_true, if_false]
  rw [any_mem h hl]
  exact f
theorem notin_lst (h : Pl m d) (hl : ∀ x ∈ l, Pl n x) (f : F (.dat (.bl (!decide (d ∈ l))))) (hm : m ≤ 64 := by omega) (hn : n + 1 ≤ 64 := by omega) : fIn true d (.lst l) F := by
  unfold fIn
  refine ⟨h.sh hm, (Pl.lst hl).sh hn, ?_⟩
  simp only [if_true]
  rw [any_mem h hl]
  exact f
theorem notin_tup (h : Pl m d) (hl : ∀ x ∈ l, Pl n x) (f : F (.dat (.bl (!decide (d ∈ l))))) (hm : m ≤ 64 := by omega) (hn : n + 1 ≤ 64 := by omega) : fIn true d (.tup l) F := by
  unfold fIn
  refine ⟨h.sh hm, (Pl.tup hl).sh hn, ?_⟩
  simp only [if_true]
  rw [any_mem h hl]
  exact f
theorem in_dic {ks vs : List D} (h : isKey d = true) (f : F (.dat (.bl (decide (d ∈ ks))))) : fIn false d (.dic ks vs) F := by
  unfold fIn
  exact ⟨h, by simpa using f⟩
theorem notin_dic {ks vs : List D} (h : isKey d = true) (f : F (.dat (.bl (!decide (d ∈ ks))))) : fIn true d (.dic ks vs) F := by
  unfold fIn
  exact ⟨h, by simpa using f⟩
theorem eq_pl (h : Pl n d) (h2 : Pl m e) (f : F (.dat (.bl (decide (d = e))))) (hn : n ≤ 64 := by omega) (hm : m ≤ 64 := by omega) : fEq d e F := by
  unfold fEq
  refine ⟨h.sh hn, h2.sh hm, ?_⟩
  rw [h.eqvB h2]
  exact f
theorem ne_pl (h : Pl n d) (h2 : Pl m e) (f : F (.dat (.bl (!decide (d = e))))) (hn : n ≤ 64 := by omega) (hm : m ≤ 64 := by omega) : fNe d e F := by
  unfold fNe
  refine ⟨h.sh hn, h2.sh hm, ?_⟩
  rw [h.eqvB h2]
  exact f
theorem bl_sh (b : Bool) : (D.bl b).sh := by unfold D.sh SeqAt.shaped; simp [D.pd, PyData.canLay0, PyData.depth]
theorem ne_bl {a b : Bool} (f : F (.dat (.bl (!(a == b))))) : fNe (.bl a) (.bl b) F := by
  unfold fNe
  refine ⟨bl_sh a, bl_sh b, ?_⟩
  simpa [D.pd, PyData.eqv] using f
theorem eq_int {i j : Int} (f : F (.dat (.bl (decide (i = j))))) : fEq (.int i) (.int j) F := eq_pl (.int 0 i) (.int 0 j) (by simpa using f)
theorem ne_int {i j : Int} (f : F (.dat (.bl (!decide (i = j))))) : fNe (.int i) (.int j) F := ne_pl (.int 0 i) (.int 0 j) (by simpa using f)
end
end AL
namespace AL
open PySem L2
/-! X1: what the defs of k61 are worth. -/
def drK : List D := [.str "cells", .str "at", .str "rest", .str "turn", .str "seed"]
def drD (cs : List Int) (a r t s : Int) : D := .dic drK [.lst (cs.map D.int), .int a, .int r, .int t, .int s]
def Dr (d : D) : Prop := ∃ cs a r t s, d = drD cs a r t s ∧ (∀ c ∈ cs, (0 : Int) ≤ c) ∧ 0 ≤ a ∧ 0 ≤ r ∧ 0 ≤ t ∧ 0 ≤ s
def S_law_begin : ASp := fun avs R => ∃ ns : List Int, avs = [.dat (.scr (ns.map D.int))] ∧ ∀ d, Dr d → R (.new d) avs
def S_law_draw : ASp := fun avs R => ∃ d many, avs = [.own d, .dat (.int many)] ∧ Dr d ∧ 0 < many ∧ many < 1073741824 ∧ ∀ r d', 0 ≤ r → r < many → Dr d' → R (.dat (.int r)) [.own d', .dat (.int many)]
/-- the items that a subscript reads -/
def itemsOf : D → Option (List D)
  | .lst l => some l
  | .tup l => some l
  | .str z => some (z.cps.toList.map fun c => D.str ⟨#[c]⟩)
  | _ => none
def seqOf : D → Option (List D)
  | .lst l => some l
  | .tup l => some l
  | _ => none
def S_law_pick : ASp := fun avs R => ∃ d row l x, avs = [.own d, x] ∧ (x = .dat row ∨ x = .own row) ∧ Dr d ∧ itemsOf row = some l ∧ l ≠ [] ∧ l.length ≤ 1000000 ∧ ∀ z d', z ∈ l → Dr d' → R (.dat z) [.own d', x]
def S_law_mixed : ASp := fun avs R => ∃ d row l, avs = [.own d, .dat row] ∧ Dr d ∧ seqOf row = some l ∧ l.length ≤ 1000000 ∧ ∀ l' d', l'.Perm l → Dr d' → R (.new (.lst l')) [.own d', .dat row]
structure NmOk (x : Str) : Prop where
  ok : PyData.strOk x = true
  az : ∀ c ∈ x.cps.toList, 97 ≤ c ∧ c ≤ 122
  few : x.cps.toList.length ≤ 9
  q : 113 ∈ x.cps.toList
def S_law_names : ASp := fun avs R => ∃ d many, avs = [.own d, .dat (.int many)] ∧ Dr d ∧ 0 ≤ many ∧ many ≤ 26 ∧ ∀ (ns : List Str) d', ns.length = many.toNat → (∀ x ∈ ns, NmOk x) → ns.Nodup → Dr d' → R (.new (.lst (ns.map D.str))) [.own d', .dat (.int many)]
/-- the things, each once -/
def unl {α : Type} [DecidableEq α] (told : List α) : List α → List α
  | [] => told
  | x :: xs => unl (if x ∈ told then told else told ++ [x]) xs
def S_law_unlike : ASp := fun avs R => ∃ row l n, avs = [.dat row] ∧ seqOf row = some l ∧ l.length ≤ 1000000 ∧ n ≤ 20 ∧ (∀ x ∈ l, Pl n x) ∧ R (.new (.lst (unl [] l))) avs
/-! rows, trees -/
abbrev Row := Str × List Int
def tmD (ts : List Int) : D := .tup (ts.map D.int)
def rowD (r : Row) : D := .tup [.str r.1, tmD r.2]
abbrev Span := Int × Int × Int
def spD (s : Span) : D := .tup [.int s.1, .int s.2.1, .int s.2.2]
structure Cls where
  Body : Addr
  House : Addr
  World : Addr
structure Tree where
  rows : List Row
  spans : List Span
  wide : List Int
/-- spans, downwards -/
def dsort (sp : List Span) : List Span := sp.mergeSort fun a b => decide (b.1 ≤ a.1)
def rowsD (rs : List Row) : D := .tup (rs.map rowD)
def endsD (sp : List Span) : D := .tup ((dsort sp).map spD)
def treeD (t : Tree) : D := .tup [rowsD t.rows, .tup [], endsD t.spans, tmD t.wide]
/-- the dict of the cells -/
def celD (sp : List Span) : D := .dic (sp.map fun s => D.int s.1) (sp.map fun s => D.tup [.int s.2.1, .int s.2.2])
def objD (C : Cls) (t : Tree) : D := .obj C.Body ["rows", "nots", "spans", "wide"] [rowsD t.rows, .tup [], celD t.spans, tmD t.wide]
/-- a term: a variable or a mark -/
def TmOk (x : Int) : Prop := -67 ≤ x ∧ x < 1000 ∧ (0 ≤ x → x % 10 = 0)
structure RowOk (r : Row) : Prop where
  nm : PyData.strOk r.1 = true
  few : r.2.length ≤ 4
  tm : ∀ x ∈ r.2, TmOk x
def RowsOk (n : Nat) (rs : List Row) : Prop := rs.length ≤ n ∧ ∀ r ∈ rs, RowOk r
structure SpOk (ks : List Int) (sp : List Span) : Prop where
  sub : (sp.map (·.1)).Sublist ks
  ok : ∀ s ∈ sp, 0 ≤ s.2.1 ∧ s.2.1 < s.2.2 ∧ s.2.2 ≤ 1000 ∧ s.2.1 % 100 = 0 ∧ s.2.2 % 100 = 0
/-- the variables, in the order of their first places -/
def addVars (told : List Int) : List Int → List Int
  | [] => told
  | t :: ts => addVars (if t < 0 ∧ t ∉ told then told ++ [t] else told) ts
def varsFrom (told : List Int) : List Row → List Int
  | [] => told
  | r :: rs => varsFrom (addVars told r.2) rs
def vars (rs : List Row) : List Int := varsFrom [] rs
structure TreeOk (t : Tree) : Prop where
  rows : RowsOk 16 t.rows
  sp : SpOk (vars t.rows) t.spans
  wlen : t.wide.length ≤ 6
def Has (ks ts : List Int) : Prop := ∀ x ∈ ts, x < 0 → x ∈ ks
def S_law_variables : ASp := fun avs R => ∃ rs, avs = [.dat (rowsD rs)] ∧ RowsOk 18 rs ∧ R (.new (.lst ((vars rs).map D.int))) avs
def S_Body_variables (C : Cls) : ASp := fun avs R => ∃ t, avs = [.dat (objD C t)] ∧ TreeOk t ∧ R (.new (.lst ((vars t.rows).map D.int))) avs
def S_Body_init (C : Cls) : ASp := fun avs R => ∃ a b c e, avs = [.own (.obj C.Body [] []), .dat a, .dat b, .dat c, .dat e] ∧ R (.dat .non) [.own (.obj C.Body ["rows", "nots", "spans", "wide"] [a, b, c, e]), .dat a, .dat b, .dat c, .dat e]
def S_Body_tree (C : Cls) : ASp := fun avs R => ∃ t, avs = [.dat (objD C t)] ∧ TreeOk t ∧ R (.dat (treeD t)) avs
/-- what holds of a term -/
def bnd (sp : List Span) (x : Int) : Int × Int := if 0 ≤ x then (x, x + 1) else match sp.find? (fun s => s.1 == x) with
  | some s => s.2
  | none => (0, 1000)
def prD (p : Int × Int) : D := .tup [.int p.1, .int p.2]
def S_Body_span (C : Cls) : ASp := fun avs R => ∃ t x, avs = [.dat (objD C t), .dat (.int x)] ∧ TreeOk t ∧ R (.dat (prD (bnd t.spans x))) avs
/-! values: a dict of ints -/
abbrev Bd := List (Int × Int)
def bD (b : Bd) : D := .dic (b.map fun p => D.int p.1) (b.map fun p => D.int p.2)
def lkB : Bd → Int → Option Int
  | [], _ => none
  | (k, v) :: r, t => if k = t then some v else lkB r t
def vB (b : Bd) (t : Int) : Int := if 0 ≤ t then t else (lkB b t).getD 0
def vl (ts : List Int) (b : Bd) : List Int := ts.map (vB b)
/-- a thing lent or handed over -/
def LD (x : AV) (d : D) : Prop := x = .dat d ∨ x = .own d
def S_law_is_int : ASp := fun avs R => ∃ i : Int, avs = [.dat (.int i)] ∧ R (.dat (.bl true)) avs
def S_value_of : ASp := fun avs R => ∃ x b t, avs = [x, .dat (.int t)] ∧ LD x (bD b) ∧ (t < 0 → t ∈ b.map (·.1)) ∧ R (.dat (.int (vB b t))) avs
def S_law_valued : ASp := fun avs R => ∃ row x b ts, avs = [.dat row, x] ∧ seqOf row = some (ts.map D.int) ∧ LD x (bD b) ∧ ts.length ≤ 100 ∧ Has (b.map (·.1)) ts ∧ R (.dat (tmD (vl ts b))) avs
def S_frozen_rows : ASp := fun avs R => ∃ rs b, avs = [.dat (rowsD rs), .dat (bD b)] ∧ RowsOk 18 rs ∧ (∀ r ∈ rs, Has (b.map (·.1)) r.2) ∧ R (.new (.lst (rs.map fun r => rowD (r.1, vl r.2 b)))) avs
/-! the frozen values -/
def pfrom : Nat → Int → List Int → Int
  | 0, v, _ => v
  | n + 1, v, us => if v % 10 = 0 ∨ v ∈ us then pfrom n (v + 1) us else v
def usD (us : List Int) : D := .dic (us.map D.int) (us.map fun _ => D.bl true)
def S_plain_from : ASp := fun avs R => ∃ low us x, avs = [.dat (.int low), x] ∧ LD x (usD us) ∧ us.length ≤ 70 ∧ R (.dat (.int (pfrom 200 low us))) avs
/-- a state: the values and those in use -/
abbrev Fr := Bd × List Int
def putT (sp : List Span) (f : Fr) (t : Int) : Fr := if t < 0 ∧ t ∉ f.1.map (·.1) then
  (f.1 ++ [(t, pfrom 200 (bnd sp t).1 f.2)], f.2 ++ [pfrom 200 (bnd sp t).1 f.2]) else f
def setB : Bd → Int → Int → Bd
  | [], _, _ => []
  | (k, v) :: r, t, w => (if k = t then (k, w) else (k, v)) :: setB r t w
def fixP (sp : List Span) (f : Fr) (p : Int × Int) : Fr := if vB f.1 p.2 ≤ vB f.1 p.1 ∧ p.2 < 0 then
  let us := f.2.filter fun j => decide (j ≠ vB f.1 p.2)
  let v := pfrom 200 (max (bnd sp p.2).1 (vB f.1 p.1 + 1)) us
  (setB f.1 p.2 v, us ++ [v]) else f
abbrev Need := List (Int × Int)
def putN (sp : List Span) (nd : Need) (f : Fr) : Fr := (List.range 8).foldl (fun f _ => nd.foldl (fixP sp) f) (nd.foldl (fun f p => putT sp (putT sp f p.1) p.2) f)
def frzB (t : Tree) (nd : Need) : Bd := ((vars t.rows).foldl (putT t.spans) (putN t.spans nd ([], []))).1
def needD (nd : Need) : D := .lst (nd.map prD)
/-- needs that some values meet -/
structure NdOk (t : Tree) (nd : Need) : Prop where
  few : nd.length ≤ 2
  has : ∀ p ∈ nd, (p.1 < 0 → p.1 ∈ vars t.rows) ∧ (p.2 < 0 → p.2 ∈ vars t.rows)
  own : ∃ w : Int → Int, (∀ x, 0 ≤ x → w x = x) ∧ (∀ x ∈ vars t.rows, (bnd t.spans x).1 ≤ w x ∧ w x < (bnd t.spans x).2) ∧ (∀ p ∈ nd, w p.1 < w p.2 ∧ (0 ≤ p.1 → p.1 % 10 = 0) ∧ (0 ≤ p.2 → p.2 % 10 = 0))
def S_put_needed (C : Cls) : ASp := fun avs R => ∃ t nd, avs = [.dat (objD C t), .dat (needD nd), .own (bD []), .own (usD [])] ∧ TreeOk t ∧ NdOk t nd ∧
  R (.dat .non) [.dat (objD C t), .dat (needD nd), .own (bD (putN t.spans nd ([], [])).1), .own (usD (putN t.spans nd ([], [])).2)]
def S_freeze (C : Cls) : ASp := fun avs R => ∃ t nd, avs = [.dat (objD C t), .dat (needD nd)] ∧ TreeOk t ∧ NdOk t nd ∧ R (.new (bD (frzB t nd))) avs
/-! tables, houses, worlds -/
abbrev Tab := Str × List Str
def tabD (t : Tab) : D := .tup [.str t.1, .tup (t.2.map D.str)]
def tabsD (ts : List Tab) : D := .tup (ts.map tabD)
structure TabsOk (ts : List Tab) : Prop where
  ne : ts ≠ []
  few : ts.length ≤ 8
  nd : (ts.map (·.1)).Nodup
  nm : ∀ t ∈ ts, NmOk t.1
  cn : ∀ t ∈ ts, t.2 ≠ [] ∧ t.2.length ≤ 4 ∧ t.2.Nodup
  cm : ∀ t ∈ ts, ∀ c ∈ t.2, NmOk c
def hNs : List Str := ["tables", "rules", "indexes", "views", "widths"]
def houO (C : Cls) (ts : List Tab) (w : D) : D := .obj C.House hNs [tabsD ts, .tup [], .tup [], .tup [], w]
def houD (C : Cls) (q : Addr) (dc : D) (ts : List Tab) : D := .rg [q] [dc] (houO C ts (.ptr q))
def S_is_lettered : ASp := fun avs R => ∃ x n, avs = [.dat (.str x), .dat (.int n)] ∧ NmOk x ∧ 9 ≤ n ∧ R (.dat (.bl true)) avs
def S_is_name : ASp := fun avs R => ∃ x, avs = [.dat (.str x)] ∧ NmOk x ∧ R (.dat (.bl true)) avs
def S_is_long_name : ASp := S_is_name
def S_checks (C : Cls) : ASp := fun avs R => ∃ q dc ts, avs = [.own (houD C q dc ts)] ∧ TabsOk ts ∧ R (.dat .non) avs
def S_check_tables (C : Cls) : ASp := S_checks C
def S_check_rules (C : Cls) : ASp := S_checks C
def S_check_indexes (C : Cls) : ASp := S_checks C
def S_check_views (C : Cls) : ASp := S_checks C
def S_House_init (C : Cls) : ASp := fun avs R => ∃ ts, avs = [.own (.obj C.House [] []), .dat (tabsD ts), .dat (.tup []), .dat (.tup []), .dat (.tup [])] ∧ TabsOk ts ∧
  ∀ q dc, R (.dat .non) [.own (houD C q dc ts), .dat (tabsD ts), .dat (.tup []), .dat (.tup []), .dat (.tup [])]
/-- the rows of a table, each once -/
def fnd (ps : List Row) (n : Str) : List (List Int) := unl [] ((ps.filter fun p => decide (p.1 = n)).map (·.2))
def wT (ts : List Tab) (ps : List Row) : D := .dic (ts.map fun t => D.str t.1) (ts.map fun t => D.tup ((fnd ps t.1).map tmD))
def worD (C : Cls) (ts : List Tab) (ps : List Row) (rk : D) : D := .obj C.World ["tables", "ranks"] [wT ts ps, rk]
def S_World_init (C : Cls) : ASp := fun avs R => ∃ a b, avs = [.own (.obj C.World [] []), .dat a, .dat b] ∧ R (.dat .non) [.own (.obj C.World ["tables", "ranks"] [a, b]), .dat a, .dat b]
/-- rows of values -/
def RowsOk' (ps : List Row) : Prop := ps.length ≤ 18 ∧ ∀ r ∈ ps, PyData.strOk r.1 = true ∧ r.2.length ≤ 4
def S_world_of (C : Cls) : ASp := fun avs R => ∃ ts w ps rk, avs = [.dat (houO C ts w), .dat (.lst (ps.map rowD)), .dat rk] ∧ TabsOk ts ∧ RowsOk' ps ∧ R (.new (worD C ts ps rk)) avs
/-- the tables by their names -/
def srtT (ts : List Tab) : List Tab := ts.mergeSort fun a b => PySem.W.dataLe false D.pd (.str a.1) (.str b.1)
def wtD (ts : List Tab) (ps : List Row) (rk : D) : D := .tup [.tup ((srtT ts).map fun t => D.tup [.str t.1, .tup ((fnd ps t.1).map tmD)]), rk]
def S_World_tree (C : Cls) : ASp := fun avs R => ∃ ts ps rk, avs = [.dat (worD C ts ps rk)] ∧ TabsOk ts ∧ R (.dat (wtD ts ps rk)) avs
def S_World_size (C : Cls) : ASp := fun avs R => ∃ ts ps rk, avs = [.dat (worD C ts ps rk)] ∧ TabsOk ts ∧ R (.dat (.int ((ts.map fun t => ((fnd ps t.1).length : Int)).sum))) avs
def S_law_world_right (C : Cls) : ASp := fun avs R => ∃ (ts : List Tab) (ps : List Row) (rks : List (List Int)), avs = [.dat (worD C ts ps (.tup (rks.map tmD))), .dat (tabsD ts), .dat (.lst (ps.map rowD)), .dat (.tup (rks.map tmD))] ∧ TabsOk ts ∧ RowsOk' ps ∧ rks.length ≤ 4 ∧ R (.dat (.bl true)) avs
/-! the law's own defs -/
def S_law_tables : ASp := fun avs R => ∃ d m l, avs = [.own d, .dat (.int m), .dat (.int l)] ∧ Dr d ∧ 1 ≤ m ∧ m ≤ 8 ∧ 1 ≤ l ∧ l ≤ 4 ∧ ∀ (ts : List Tab) d', TabsOk ts → (ts.length : Int) = m → Dr d' → R (.dat (tabsD ts)) [.own d', .dat (.int m), .dat (.int l)]
def S_law_asked : ASp := fun avs R => ∃ d ts m, avs = [.own d, .dat (tabsD ts), .dat (.int m)] ∧ Dr d ∧ TabsOk ts ∧ 0 ≤ m ∧ m ≤ 16 ∧ ∀ (rs : List Row) d', RowsOk 16 rs → (∀ r ∈ rs, r.1 ∈ ts.map (·.1)) → Dr d' → R (.dat (rowsD rs)) [.own d', .dat (tabsD ts), .dat (.int m)]
def itsD (l : List Int) : D := .lst (l.map D.int)
def S_law_cells : ASp := fun avs R => ∃ d ks, avs = [.own d, .dat (itsD ks)] ∧ Dr d ∧ ks.length ≤ 64 ∧ ks.Nodup ∧ ∀ (sp : List Span) d', SpOk ks sp → Dr d' → R (.new (celD sp)) [.own d', .dat (itsD ks)]
/-- some values within the cells -/
structure OwOk (ks : List Int) (sp : List Span) (b : Bd) : Prop where
  keys : b.map (·.1) = ks
  ok : ∀ p ∈ b, (bnd sp p.1).1 ≤ p.2 ∧ p.2 < (bnd sp p.1).2
def VarsOk (ks : List Int) : Prop := ks.length ≤ 64 ∧ ks.Nodup ∧ ∀ k ∈ ks, -67 ≤ k ∧ k < 0
def S_law_own : ASp := fun avs R => ∃ d ks sp, avs = [.own d, .dat (itsD ks), .dat (celD sp)] ∧ Dr d ∧ VarsOk ks ∧ SpOk ks sp ∧ ∀ (b : Bd) d', OwOk ks sp b → Dr d' → R (.new (bD b)) [.own d', .dat (itsD ks), .dat (celD sp)]
def S_law_needs : ASp := fun avs R => ∃ d t b, avs = [.own d, .dat (rowsD t.rows), .dat (bD b)] ∧ Dr d ∧ TreeOk t ∧ OwOk (vars t.rows) t.spans b ∧ ∀ (nd : Need) d', NdOk t nd → Dr d' → R (.new (needD nd)) [.own d', .dat (rowsD t.rows), .dat (bD b)]
def S_law_least_values : ASp := fun avs R => ∃ t, avs = [.dat (itsD (vars t.rows)), .dat (celD t.spans)] ∧ TreeOk t ∧ R (.new (bD (frzB t []))) avs
def S_law_is_frozen : ASp := fun avs R => ∃ t nd, avs = [.own (bD (frzB t nd)), .dat (itsD (vars t.rows)), .dat (celD t.spans), .dat (needD nd)] ∧ TreeOk t ∧ NdOk t nd ∧ R (.dat (.bl true)) avs
def S_law_spoil : ASp := fun avs R => ∃ b ks, avs = [.own (bD b), .dat (itsD ks)] ∧ b.length ≤ 200 ∧ ks.length ≤ 64 ∧ ∀ b', R (.dat .non) [.own (bD b'), .dat (itsD ks)]
def S_law_meeting : ASp := fun avs R => ∃ d ks, avs = [.own d, .dat (itsD ks)] ∧ Dr d ∧ VarsOk ks ∧ ∀ (b : Bd) d', b.map (·.1) = ks → Dr d' → R (.new (bD b)) [.own d', .dat (itsD ks)]
def S_law_ranks : ASp := fun avs R => ∃ d, avs = [.own d] ∧ Dr d ∧ ∀ (rks : List (List Int)) d', rks.length ≤ 4 → (∀ r ∈ rks, r.length ≤ 4) → Dr d' → R (.dat (.tup (rks.map tmD))) [.own d']
def S_law : ASp := fun avs R => ∃ ns : List Int, avs = [.dat (.scr (ns.map D.int))] ∧ R (.dat (.bl true)) avs
end AL
namespace AL
open PySem L2
/-! X2: the readings of k61 (printed by gen.py). -/
abbrev k_WORDS : List Str := List.map Str.ofString ["add", "apart", "ask", "both", "by", "count", "drop", "end", "find", "first", "from", "give", "hash", "in", "index", "is", "keep", "key", "lack", "lead", "many", "merge", "nest", "not", "once", "or", "pick", "plan", "probe", "read", "scan", "seek", "show", "sort", "span", "sum", "table", "tally", "to", "total", "trim", "undo", "view", "walk", "where"]
/-- Body.__init__(self, rows, nots, spans, wide): 0=self 1=rows 2=nots 3=spans 4=wide -/
def B_Body_init : Nat → Bool := fun i => i == 0
def Body_init_0_3 (C : Cls) : AS' := (aFldSet 0 C.Body "wide" (aVar 4))
def Body_init_0_2 (C : Cls) : AS' := aSeq (aFldSet 0 C.Body "spans" (aVar 3)) (Body_init_0_3 C)
def Body_init_0_1 (C : Cls) : AS' := aSeq (aFldSet 0 C.Body "nots" (aVar 2)) (Body_init_0_2 C)
def Body_init_0_0 (C : Cls) : AS' := aSeq (aFldSet 0 C.Body "rows" (aVar 1)) (Body_init_0_1 C)
def a_Body_init (C : Cls) : AS' := Body_init_0_0 C
/-- Body.tree(self): 0=self 1=spans 2=term -/
def B_Body_tree : Nat → Bool := fun i => false
def Body_tree_0_1 (C : Cls) : AS' := (aRet B_Body_tree (aTup (aConsD (aFld C.Body "rows" (aVar 0)) (aConsD (aFld C.Body "nots" (aVar 0)) (aConsD (aVar 1) (aConsD (aFld C.Body "wide" (aVar 0)) aNil))))))
def Body_tree_0_0 (C : Cls) : AS' := aSeq (aSet 1 (aRd fTuple (aLc (aiSeq (aSortedDR (aFld C.Body "spans" (aVar 0)))) (agName 2) atYes (aTup (aConsD (aVar 2) (aConsD (aOp fIx (aOp fIx (aFld C.Body "spans" (aVar 0)) (aVar 2)) (aC (.int 0))) (aConsD (aOp fIx (aOp fIx (aFld C.Body "spans" (aVar 0)) (aVar 2)) (aC (.int 1))) aNil)))) [2]))) (Body_tree_0_1 C)
def a_Body_tree (C : Cls) : AS' := Body_tree_0_0 C
/-- check_indexes(house): 0=house 1=met 2=name 3=table 4=places 5=columns -/
def B_check_indexes : Nat → Bool := fun i => i == 0
def check_indexes_1_0 (C : Cls) : AS' := (fun _ _ => False)
def check_indexes_0_2 (C : Cls) : AS' := (aFor (aiSeq (aFld C.House "indexes" (aVar 0))) (agTup 3 (agCons (agName 2) (agCons (agName 3) (agCons (agName 4) agNil)))) (fun _ _ => False))
def check_indexes_0_1 (C : Cls) : AS' := aSeq (aSet 1 (aLc (aiSeq (aFld C.House "tables" (aVar 0))) (agTup 2 (agCons (agName 2) (agCons (agName 5) agNil))) atYes (aVar 2) [2, 5])) (check_indexes_0_2 C)
def check_indexes_0_0 (C : Cls) : AS' := aSeq (aIfS (aOr (aNot (aTru (aIsi "tuple" (aFld C.House "indexes" (aVar 0))))) (aB (aOp fGt (aRd fLen (aFld C.House "indexes" (aVar 0))) (aC (.int 6))))) (check_indexes_1_0 C) aNext) (check_indexes_0_1 C)
def a_check_indexes (C : Cls) : AS' := check_indexes_0_0 C
/-- check_rules(house): 0=house 1=met 2=leads 3=rule 4=mark -/
def B_check_rules : Nat → Bool := fun i => i == 0
def check_rules_1_0 (C : Cls) : AS' := (fun _ _ => False)
def check_rules_0_3 (C : Cls) : AS' := (aFor (aiSeq (aFld C.House "rules" (aVar 0))) (agName 3) (fun _ _ => False))
def check_rules_0_2 (C : Cls) : AS' := aSeq (aSet 2 (aLst aNil)) (check_rules_0_3 C)
def check_rules_0_1 (C : Cls) : AS' := aSeq (aSet 1 (aLst aNil)) (check_rules_0_2 C)
def check_rules_0_0 (C : Cls) : AS' := aSeq (aIfS (aOr (aNot (aTru (aIsi "tuple" (aFld C.House "rules" (aVar 0))))) (aB (aOp fGt (aRd fLen (aFld C.House "rules" (aVar 0))) (aC (.int 16))))) (check_rules_1_0 C) aNext) (check_rules_0_1 C)
def a_check_rules (C : Cls) : AS' := check_rules_0_0 C
/-- is_lettered(value, longest): 0=value 1=longest 2=sign -/
def B_is_lettered : Nat → Bool := fun i => false
def is_lettered_1_0 : AS' := (aRet B_is_lettered (aC (.bl false)))
def is_lettered_0_1 : AS' := (aRet B_is_lettered (aAndV (aB (aRd fAll (aLc (aiSeq (aVar 0)) (agName 2) atYes (aOp (fIn false) (aVar 2) (aC (.str "abcdefghijklmnopqrstuvwxyz"))) [2]))) (aOp (fIn true) (aVar 0) (aC (.tup (k_WORDS.map D.str))))))
def is_lettered_0_0 : AS' := aSeq (aIfS (aOr (aNot (aTru (aIsi "str" (aVar 0)))) (aNot (aB (aChain fLe fLe (aC (.int 1)) (aRd fLen (aVar 0)) (aVar 1))))) is_lettered_1_0 aNext) is_lettered_0_1
def a_is_lettered : AS' := is_lettered_0_0
/-- is_long_name(value): 0=value -/
def B_is_long_name : Nat → Bool := fun i => false
def is_long_name_0_0 : AS' := (aRet B_is_long_name (aFn S_is_lettered (aConsD (aVar 0) (aConsD (aC (.int 12)) aNil))))
def a_is_long_name : AS' := is_long_name_0_0
/-- is_name(value): 0=value -/
def B_is_name : Nat → Bool := fun i => false
def is_name_0_0 : AS' := (aRet B_is_name (aFn S_is_lettered (aConsD (aVar 0) (aConsD (aC (.int 9)) aNil))))
def a_is_name : AS' := is_name_0_0
/-- check_tables(house): 0=house 1=tables 2=met 3=name 4=columns 5=column -/
def B_check_tables : Nat → Bool := fun i => i == 0
def check_tables_1_0 (C : Cls) : AS' := (fun _ _ => False)
def check_tables_3_0 (C : Cls) : AS' := (fun _ _ => False)
def check_tables_4_0 (C : Cls) : AS' := (fun _ _ => False)
def check_tables_5_0 (C : Cls) : AS' := (fun _ _ => False)
def check_tables_6_0 (C : Cls) : AS' := (fun _ _ => False)
def check_tables_2_4 (C : Cls) : AS' := (aIfS (aOr (aNot (aTru (aRd fAll (aLc (aiSeq (aVar 4)) (agName 5) atYes (aFn S_is_name (aConsD (aVar 5) aNil)) [5])))) (aB (aOp fNe (aLenSetS (aVar 4)) (aRd fLen (aVar 4))))) (check_tables_6_0 C) aNext)
def check_tables_2_3 (C : Cls) : AS' := aSeq (aIfS (aOr (aNot (aTru (aIsi "tuple" (aVar 4)))) (aNot (aB (aChain fLe fLe (aC (.int 1)) (aRd fLen (aVar 4)) (aC (.int 4)))))) (check_tables_5_0 C) aNext) (check_tables_2_4 C)
def check_tables_2_2 (C : Cls) : AS' := aSeq (aDrop (aMut 2 (aConsD (aVar 3) aNil) fAppend)) (check_tables_2_3 C)
def check_tables_2_1 (C : Cls) : AS' := aSeq (aIfS (aB (aOp (fIn false) (aVar 3) (aVar 2))) (check_tables_4_0 C) aNext) (check_tables_2_2 C)
def check_tables_2_0 (C : Cls) : AS' := aSeq (aIfS (aNot (aTru (aFn S_is_long_name (aConsD (aVar 3) aNil)))) (check_tables_3_0 C) aNext) (check_tables_2_1 C)
def check_tables_0_3 (C : Cls) : AS' := (aFor (aiSeq (aVar 1)) (agTup 2 (agCons (agName 3) (agCons (agName 4) agNil))) (check_tables_2_0 C))
def check_tables_0_2 (C : Cls) : AS' := aSeq (aSet 2 (aLst aNil)) (check_tables_0_3 C)
def check_tables_0_1 (C : Cls) : AS' := aSeq (aIfS (aOr (aNot (aTru (aIsi "tuple" (aVar 1)))) (aNot (aB (aChain fLe fLe (aC (.int 1)) (aRd fLen (aVar 1)) (aC (.int 8)))))) (check_tables_1_0 C) aNext) (check_tables_0_2 C)
def check_tables_0_0 (C : Cls) : AS' := aSeq (aSet 1 (aFld C.House "tables" (aVar 0))) (check_tables_0_1 C)
def a_check_tables (C : Cls) : AS' := check_tables_0_0 C
/-- check_views(house): 0=house 1=met 2=name 3=question 4=told 5=columns -/
def B_check_views : Nat → Bool := fun i => i == 0
def check_views_1_0 (C : Cls) : AS' := (fun _ _ => False)
def check_views_0_2 (C : Cls) : AS' := (aFor (aiSeq (aFld C.House "views" (aVar 0))) (agTup 2 (agCons (agName 2) (agCons (agName 3) agNil))) (fun _ _ => False))
def check_views_0_1 (C : Cls) : AS' := aSeq (aSet 1 (aOp fAdd (aLc (aiSeq (aFld C.House "tables" (aVar 0))) (agTup 2 (agCons (agName 2) (agCons (agName 5) agNil))) atYes (aVar 2) [2, 5]) (aLc (aiSeq (aFld C.House "indexes" (aVar 0))) (agName 4) atYes (aOp fIx (aVar 4) (aC (.int 0))) [4]))) (check_views_0_2 C)
def check_views_0_0 (C : Cls) : AS' := aSeq (aIfS (aOr (aNot (aTru (aIsi "tuple" (aFld C.House "views" (aVar 0))))) (aB (aOp fGt (aRd fLen (aFld C.House "views" (aVar 0))) (aC (.int 4))))) (check_views_1_0 C) aNext) (check_views_0_1 C)
def a_check_views (C : Cls) : AS' := check_views_0_0 C
/-- House.__init__(self, tables, rules, indexes, views): 0=self 1=tables 2=rules 3=indexes 4=views 5=name 6=columns -/
def B_House_init : Nat → Bool := fun i => i == 0
def House_init_1_0 (C : Cls) : AS' := (aAsg (aRd fLen (aVar 6)) (agPtr 0 (aFld C.House "widths" (aVar 0)) (aVar 5)))
def House_init_0_9 (C : Cls) : AS' := (aDrop (aFn (S_check_views C) (aCons (aVar 0) aNil)))
def House_init_0_8 (C : Cls) : AS' := aSeq (aDrop (aFn (S_check_indexes C) (aCons (aVar 0) aNil))) (House_init_0_9 C)
def House_init_0_7 (C : Cls) : AS' := aSeq (aDrop (aFn (S_check_rules C) (aCons (aVar 0) aNil))) (House_init_0_8 C)
def House_init_0_6 (C : Cls) : AS' := aSeq (aFor (aiSeq (aVar 1)) (agTup 2 (agCons (agName 5) (agCons (agName 6) agNil))) (House_init_1_0 C)) (House_init_0_7 C)
def House_init_0_5 (C : Cls) : AS' := aSeq (aDrop (aFn (S_check_tables C) (aCons (aVar 0) aNil))) (House_init_0_6 C)
def House_init_0_4 (C : Cls) : AS' := aSeq (aFldOwn 0 C.House "widths" aNewK) (House_init_0_5 C)
def House_init_0_3 (C : Cls) : AS' := aSeq (aFldSet 0 C.House "views" (aVar 4)) (House_init_0_4 C)
def House_init_0_2 (C : Cls) : AS' := aSeq (aFldSet 0 C.House "indexes" (aVar 3)) (House_init_0_3 C)
def House_init_0_1 (C : Cls) : AS' := aSeq (aFldSet 0 C.House "rules" (aVar 2)) (House_init_0_2 C)
def House_init_0_0 (C : Cls) : AS' := aSeq (aFldSet 0 C.House "tables" (aVar 1)) (House_init_0_1 C)
def a_House_init (C : Cls) : AS' := House_init_0_0 C
/-- _law_draw(d, many): 0=d 1=many 2=told 3=cell -/
def B_law_draw : Nat → Bool := fun i => i == 0
def law_draw_1_2 : AS' := (aRet B_law_draw (aVar 2))
def law_draw_1_1 : AS' := aSeq (aAsg (aOp fDiv (aOp fIx (aVar 0) (aC (.str "rest"))) (aVar 1)) (agSub (aVar 0) (aC (.str "rest")))) law_draw_1_2
def law_draw_1_0 : AS' := aSeq (aSet 2 (aOp fMod (aRd fInt (aOp fIx (aVar 0) (aC (.str "rest")))) (aVar 1))) law_draw_1_1
def law_draw_3_1 : AS' := (aRet B_law_draw (aOp fMod (aRd fInt (aOp fDiv (aVar 3) (aC (.int 2)))) (aVar 1)))
def law_draw_3_0 : AS' := aSeq (aAsg (aOp fDiv (aOp fDiv (aVar 3) (aC (.int 2))) (aVar 1)) (agSub (aVar 0) (aC (.str "rest")))) law_draw_3_1
def law_draw_2_3 : AS' := (aAsg (aOp fMod (aRd fInt (aOp fAdd (aOp fAdd (aOp fMul (aOp fIx (aVar 0) (aC (.str "seed"))) (aC (.int 1009))) (aVar 3)) (aC (.int 1)))) (aC (.int 1000000007))) (agSub (aVar 0) (aC (.str "seed"))))
def law_draw_2_2 : AS' := aSeq (aIfS (aB (aOp fGe (aVar 3) (aOp fPow (aC (.int 10)) (aC (.int 18))))) law_draw_3_0 aNext) law_draw_2_3
def law_draw_2_1 : AS' := aSeq (aAsg (aOp fAdd (aOp fIx (aVar 0) (aC (.str "at"))) (aC (.int 1))) (agSub (aVar 0) (aC (.str "at")))) law_draw_2_2
def law_draw_2_0 : AS' := aSeq (aSet 3 (aOp fIx (aOp fIx (aVar 0) (aC (.str "cells"))) (aOp fIx (aVar 0) (aC (.str "at"))))) law_draw_2_1
def law_draw_0_5 : AS' := (aRet B_law_draw (aOp fMod (aVar 2) (aVar 1)))
def law_draw_0_4 : AS' := aSeq (aSet 2 (aOp fMod (aRd fInt (aOp fAdd (aOp fDiv (aVar 2) (aC (.int 7))) (aOp fMul (aVar 2) (aC (.int 69621))))) (aC (.int 1999999973)))) law_draw_0_5
def law_draw_0_3 : AS' := aSeq (aSet 2 (aOp fMod (aRd fInt (aOp fAdd (aOp fMul (aOp fAdd (aOp fIx (aVar 0) (aC (.str "seed"))) (aOp fMul (aOp fIx (aVar 0) (aC (.str "turn"))) (aC (.int 7919)))) (aC (.int 48271))) (aC (.int 12345)))) (aC (.int 2147483647)))) law_draw_0_4
def law_draw_0_2 : AS' := aSeq (aIfS (aB (aOp fLt (aOp fIx (aVar 0) (aC (.str "at"))) (aRd fLen (aOp fIx (aVar 0) (aC (.str "cells")))))) law_draw_2_0 aNext) law_draw_0_3
def law_draw_0_1 : AS' := aSeq (aIfS (aB (aOp fGt (aOp fIx (aVar 0) (aC (.str "rest"))) (aC (.int 0)))) law_draw_1_0 aNext) law_draw_0_2
def law_draw_0_0 : AS' := aSeq (aAsg (aOp fAdd (aOp fIx (aVar 0) (aC (.str "turn"))) (aC (.int 1))) (agSub (aVar 0) (aC (.str "turn")))) law_draw_0_1
def a_law_draw : AS' := law_draw_0_0
/-- _law_pick(d, row): 0=d 1=row -/
def B_law_pick : Nat → Bool := fun i => i == 0 || i == 1
def law_pick_0_0 : AS' := (aRet B_law_pick (aOp fIx (aVar 1) (aFn S_law_draw (aCons (aVar 0) (aConsD (aRd fLen (aVar 1)) aNil)))))
def a_law_pick : AS' := law_pick_0_0
/-- _law_asked(d, tables, many): 0=d 1=tables 2=many 3=rows 4=met 5=turn 6=step 7=ahead 8=terms 9=column 10=name 11=columns 12=way -/
def B_law_asked : Nat → Bool := fun i => i == 0
def law_asked_3_0 : AS' := (aDrop (aMut 8 (aConsD (aOp fAdd (aOp fAdd (aC (.int 10)) (aOp fMul (aC (.int 10)) (aFn S_law_draw (aCons (aVar 0) (aConsD (aC (.int 9)) aNil))))) (aOp fMul (aC (.int 100)) (aFn S_law_draw (aCons (aVar 0) (aConsD (aC (.int 10)) aNil))))) aNil) fAppend))
def law_asked_5_0 : AS' := (aDrop (aMut 8 (aConsD (aFn S_law_pick (aCons (aVar 0) (aCons (aVar 4) aNil))) aNil) fAppend))
def law_asked_6_1 : AS' := (aDrop (aMut 8 (aConsD (aOp fIx (aVar 4) (aNeg (aC (.int 1)))) aNil) fAppend))
def law_asked_6_0 : AS' := aSeq (aDrop (aMut 4 (aConsD (aOp fSub (aNeg (aC (.int 1))) (aOp fMod (aRd fInt (aOp fAdd (aOp fMul (aRd fLen (aVar 4)) (aVar 6)) (aVar 7))) (aC (.int 67)))) aNil) fAppend)) law_asked_6_1
def law_asked_4_0 : AS' := (aIfS (aAnd (aB (aOp fLt (aVar 12) (aC (.int 3)))) (aTru (aVar 4))) law_asked_5_0 law_asked_6_0)
def law_asked_2_1 : AS' := (aIfS (aB (aOp fEq (aVar 12) (aC (.int 0)))) law_asked_3_0 law_asked_4_0)
def law_asked_2_0 : AS' := aSeq (aSet 12 (aFn S_law_draw (aCons (aVar 0) (aConsD (aC (.int 12)) aNil)))) law_asked_2_1
def law_asked_7_0 : AS' := (aDrop (aMut 3 (aConsD (aTup (aConsD (aVar 10) (aConsD (aRd fTuple (aVar 8)) aNil))) aNil) fAppend))
def law_asked_1_3 : AS' := (aIfS (aB (aOp (fIn true) (aTup (aConsD (aVar 10) (aConsD (aRd fTuple (aVar 8)) aNil))) (aVar 3))) law_asked_7_0 aNext)
def law_asked_1_2 : AS' := aSeq (aFor (aiSeq (aVar 11)) (agName 9) law_asked_2_0) law_asked_1_3
def law_asked_1_1 : AS' := aSeq (aSet 8 (aLst aNil)) law_asked_1_2
def law_asked_1_0 : AS' := aSeq (aAsg (aFn S_law_pick (aCons (aVar 0) (aCons (aVar 1) aNil))) (agTup 2 (agCons (agName 10) (agCons (agName 11) agNil)))) law_asked_1_1
def law_asked_0_4 : AS' := (aRet B_law_asked (aRd fTuple (aVar 3)))
def law_asked_0_3 : AS' := aSeq (aFor (aiRange1 (aConsD (aVar 2) aNil)) (agName 5) law_asked_1_0) law_asked_0_4
def law_asked_0_2 : AS' := aSeq (aSet 4 (aLst aNil)) law_asked_0_3
def law_asked_0_1 : AS' := aSeq (aSet 3 (aLst aNil)) law_asked_0_2
def law_asked_0_0 : AS' := aSeq (aPar [6, 7] (anCons (aOp fAdd (aC (.int 1)) (aFn S_law_draw (aCons (aVar 0) (aConsD (aC (.int 66)) aNil)))) (anCons (aFn S_law_draw (aCons (aVar 0) (aConsD (aC (.int 67)) aNil))) aNil))) law_asked_0_1
def a_law_asked : AS' := law_asked_0_0
/-- _law_begin(script): 0=script 1=cells 2=cell -/
def B_law_begin : Nat → Bool := fun i => false
def law_begin_1_0 : AS' := (aDrop (aMut 1 (aConsD (aIf (aB (aOp fGe (aVar 2) (aC (.int 0)))) (aOp fMul (aC (.int 2)) (aVar 2)) (aOp fAdd (aOp fMul (aNeg (aC (.int 2))) (aVar 2)) (aC (.int 1)))) aNil) fAppend))
def law_begin_0_2 : AS' := (aRet B_law_begin (aDisp [((aC (.str "cells")), (aVar 1)), ((aC (.str "at")), (aC (.int 0))), ((aC (.str "rest")), (aC (.int 0))), ((aC (.str "turn")), (aC (.int 0))), ((aC (.str "seed")), (aC (.int 1)))]))
def law_begin_0_1 : AS' := aSeq (aFor (aiSeq (aSl (aVar 0) aoNone (aoSome (aC (.int 63))))) (agName 2) law_begin_1_0) law_begin_0_2
def law_begin_0_0 : AS' := aSeq (aSet 1 (aLst aNil)) law_begin_0_1
def a_law_begin : AS' := law_begin_0_0
/-- _law_cells(d, variables): 0=d 1=variables 2=way 3=low 4=told 5=term 6=at 7=span -/
def B_law_cells : Nat → Bool := fun i => i == 0
def law_cells_2_0 : AS' := (aAsg (aTup (aConsD (aVar 3) (aConsD (aOp fAdd (aVar 3) (aC (.int 100))) aNil))) (agSub (aVar 4) (aVar 5)))
def law_cells_5_0 : AS' := (aAsg (aVar 7) (agSub (aVar 4) (aVar 5)))
def law_cells_4_2 : AS' := (aIfS (aB (aOp fNe (aVar 7) (aTup (aConsD (aC (.int 0)) (aConsD (aC (.int 1000)) aNil))))) law_cells_5_0 aNext)
def law_cells_4_1 : AS' := aSeq (aSet 7 (aTup (aConsD (aOp fMul (aC (.int 100)) (aVar 6)) (aConsD (aOp fMul (aC (.int 100)) (aOp fAdd (aOp fAdd (aVar 6) (aC (.int 1))) (aFn S_law_draw (aCons (aVar 0) (aConsD (aOp fSub (aC (.int 10)) (aVar 6)) aNil))))) aNil)))) law_cells_4_2
def law_cells_4_0 : AS' := aSeq (aSet 6 (aFn S_law_draw (aCons (aVar 0) (aConsD (aC (.int 10)) aNil)))) law_cells_4_1
def law_cells_3_0 : AS' := (aIfS (aAnd (aB (aOp fEq (aVar 2) (aC (.int 2)))) (aB (aOp fGt (aFn S_law_draw (aCons (aVar 0) (aConsD (aC (.int 3)) aNil))) (aC (.int 0))))) law_cells_4_0 aNext)
def law_cells_1_0 : AS' := (aIfS (aB (aOp fEq (aVar 2) (aC (.int 1)))) law_cells_2_0 law_cells_3_0)
def law_cells_0_4 : AS' := (aRet B_law_cells (aVar 4))
def law_cells_0_3 : AS' := aSeq (aFor (aiSeq (aVar 1)) (agName 5) law_cells_1_0) law_cells_0_4
def law_cells_0_2 : AS' := aSeq (aSet 4 aNewK) law_cells_0_3
def law_cells_0_1 : AS' := aSeq (aSet 3 (aOp fMul (aC (.int 100)) (aFn S_law_draw (aCons (aVar 0) (aConsD (aC (.int 10)) aNil))))) law_cells_0_2
def law_cells_0_0 : AS' := aSeq (aSet 2 (aFn S_law_draw (aCons (aVar 0) (aConsD (aC (.int 3)) aNil)))) law_cells_0_1
def a_law_cells : AS' := law_cells_0_0
/-- _law_is_int(thing): 0=thing -/
def B_law_is_int : Nat → Bool := fun i => false
def law_is_int_0_0 : AS' := (aRet B_law_is_int (aAndV (aB (aIsi "int" (aVar 0))) (aNotV (aB (aIsi "bool" (aVar 0))))))
def a_law_is_int : AS' := law_is_int_0_0
/-- _law_valued(terms, told): 0=terms 1=told 2=term -/
def B_law_valued : Nat → Bool := fun i => i == 1
def law_valued_0_0 : AS' := (aRet B_law_valued (aRd fTuple (aLc (aiSeq (aVar 0)) (agName 2) atYes (aIf (aB (aOp fGe (aVar 2) (aC (.int 0)))) (aVar 2) (aOp fIx (aVar 1) (aVar 2))) [2])))
def a_law_valued : AS' := law_valued_0_0
/-- _law_is_frozen(told, variables, spans, needs): 0=told 1=variables 2=spans 3=needs 4=used 5=term 6=pair 7=value 8=low 9=high 10=one 11=other -/
def B_law_is_frozen : Nat → Bool := fun i => i == 0
def law_is_frozen_1_0 : AS' := (aRet B_law_is_frozen (aC (.bl false)))
def law_is_frozen_3_0 : AS' := (aRet B_law_is_frozen (aC (.bl false)))
def law_is_frozen_2_3 : AS' := (aDrop (aMut 4 (aConsD (aVar 7) aNil) fAppend))
def law_is_frozen_2_2 : AS' := aSeq (aIfS (aOr (aNot (aTru (aFn S_law_is_int (aConsD (aVar 7) aNil)))) (aOr (aNot (aB (aChain fLe fLt (aVar 8) (aVar 7) (aVar 9)))) (aOr (aB (aOp fEq (aOp fMod (aRd fInt (aVar 7)) (aC (.int 10))) (aC (.int 0)))) (aB (aOp (fIn false) (aVar 7) (aVar 4)))))) law_is_frozen_3_0 aNext) law_is_frozen_2_3
def law_is_frozen_2_1 : AS' := aSeq (aSet 7 (aOp fIx (aVar 0) (aVar 5))) law_is_frozen_2_2
def law_is_frozen_2_0 : AS' := aSeq (aAsg (aGet (aVar 2) (aVar 5) (aTup (aConsD (aC (.int 0)) (aConsD (aC (.int 1000)) aNil)))) (agTup 2 (agCons (agName 8) (agCons (agName 9) agNil)))) law_is_frozen_2_1
def law_is_frozen_5_0 : AS' := (aRet B_law_is_frozen (aC (.bl false)))
def law_is_frozen_4_1 : AS' := (aIfS (aB (aOp fGe (aVar 10) (aVar 11))) law_is_frozen_5_0 aNext)
def law_is_frozen_4_0 : AS' := aSeq (aAsg (aFn S_law_valued (aConsD (aVar 6) (aCons (aVar 0) aNil))) (agTup 2 (agCons (agName 10) (agCons (agName 11) agNil)))) law_is_frozen_4_1
def law_is_frozen_0_4 : AS' := (aRet B_law_is_frozen (aC (.bl true)))
def law_is_frozen_0_3 : AS' := aSeq (aFor (aiSeq (aVar 3)) (agName 6) law_is_frozen_4_0) law_is_frozen_0_4
def law_is_frozen_0_2 : AS' := aSeq (aFor (aiSeq (aVar 1)) (agName 5) law_is_frozen_2_0) law_is_frozen_0_3
def law_is_frozen_0_1 : AS' := aSeq (aSet 4 (aLst aNil)) law_is_frozen_0_2
def law_is_frozen_0_0 : AS' := aSeq (aIfS (aOr (aNot (aTru (aIsi "dict" (aVar 0)))) (aB (aOp fNe (aRd fSortK (aVar 0)) (aRd fSortD (aVar 1))))) law_is_frozen_1_0 aNext) law_is_frozen_0_1
def a_law_is_frozen : AS' := law_is_frozen_0_0
/-- _law_least_values(variables, spans): 0=variables 1=spans 2=told 3=used 4=term 5=value 6=step -/
def B_law_least_values : Nat → Bool := fun i => false
def law_least_values_3_0 : AS' := (fun A env => A.bk env)
def law_least_values_2_1 : AS' := (aSet 5 (aOp fAdd (aVar 5) (aC (.int 1))))
def law_least_values_2_0 : AS' := aSeq (aIfS (aAnd (aB (aOp fGt (aOp fMod (aRd fInt (aVar 5)) (aC (.int 10))) (aC (.int 0)))) (aB (aOp (fIn true) (aVar 5) (aVar 3)))) law_least_values_3_0 aNext) law_least_values_2_1
def law_least_values_1_3 : AS' := (aDrop (aMut 3 (aConsD (aVar 5) aNil) fAppend))
def law_least_values_1_2 : AS' := aSeq (aAsg (aVar 5) (agSub (aVar 2) (aVar 4))) law_least_values_1_3
def law_least_values_1_1 : AS' := aSeq (aFor (aiRange1 (aConsD (aC (.int 200)) aNil)) (agName 6) law_least_values_2_0) law_least_values_1_2
def law_least_values_1_0 : AS' := aSeq (aSet 5 (aOp fIx (aGet (aVar 1) (aVar 4) (aTup (aConsD (aC (.int 0)) (aConsD (aC (.int 1000)) aNil)))) (aC (.int 0)))) law_least_values_1_1
def law_least_values_0_3 : AS' := (aRet B_law_least_values (aVar 2))
def law_least_values_0_2 : AS' := aSeq (aFor (aiSeq (aVar 0)) (agName 4) law_least_values_1_0) law_least_values_0_3
def law_least_values_0_1 : AS' := aSeq (aSet 3 (aLst aNil)) law_least_values_0_2
def law_least_values_0_0 : AS' := aSeq (aSet 2 aNewK) law_least_values_0_1
def a_law_least_values : AS' := law_least_values_0_0
/-- _law_meeting(d, variables): 0=d 1=variables 2=told 3=term -/
def B_law_meeting : Nat → Bool := fun i => i == 0
def law_meeting_1_0 : AS' := (aAsg (aFn S_law_pick (aCons (aVar 0) (aConsD (aLst (aConsD (aC (.int 3)) (aConsD (aC (.int 17)) (aConsD (aC (.int 50)) (aConsD (aC (.int 250)) (aConsD (aC (.int 999)) aNil)))))) aNil))) (agSub (aVar 2) (aVar 3)))
def law_meeting_0_2 : AS' := (aRet B_law_meeting (aVar 2))
def law_meeting_0_1 : AS' := aSeq (aFor (aiSeq (aVar 1)) (agName 3) law_meeting_1_0) law_meeting_0_2
def law_meeting_0_0 : AS' := aSeq (aSet 2 aNewK) law_meeting_0_1
def a_law_meeting : AS' := law_meeting_0_0
/-- _law_mixed(d, row): 0=d 1=row 2=left 3=told 4=turn -/
def B_law_mixed : Nat → Bool := fun i => i == 0
def law_mixed_1_0 : AS' := (aDrop (aMut 3 (aConsD (aMut 2 (aConsD (aFn S_law_draw (aCons (aVar 0) (aConsD (aRd fLen (aVar 2)) aNil))) aNil) fPopAt) aNil) fAppend))
def law_mixed_0_3 : AS' := (aRet B_law_mixed (aVar 3))
def law_mixed_0_2 : AS' := aSeq (aFor (aiRange1 (aConsD (aRd fLen (aVar 1)) aNil)) (agName 4) law_mixed_1_0) law_mixed_0_3
def law_mixed_0_1 : AS' := aSeq (aSet 3 (aLst aNil)) law_mixed_0_2
def law_mixed_0_0 : AS' := aSeq (aSet 2 (aRd fList (aVar 1))) law_mixed_0_1
def a_law_mixed : AS' := law_mixed_0_0
/-- _law_needs(d, rows, values): 0=d 1=rows 2=values 3=terms 4=row 5=told 6=turn 7=term 8=pair 9=one 10=other -/
def B_law_needs : Nat → Bool := fun i => i == 0
def law_needs_3_0 : AS' := (aDrop (aMut 3 (aConsD (aVar 7) aNil) fAppend))
def law_needs_2_0 : AS' := (aIfS (aB (aOp (fIn true) (aVar 7) (aVar 3))) law_needs_3_0 aNext)
def law_needs_1_0 : AS' := (aFor (aiSeq (aOp fIx (aVar 4) (aC (.int 1)))) (agName 7) law_needs_2_0)
def law_needs_6_0 : AS' := (aDrop (aMut 5 (aConsD (aTup (aConsD (aOp fIx (aVar 8) (aC (.int 0))) (aConsD (aOp fIx (aVar 8) (aC (.int 1))) aNil))) aNil) fAppend))
def law_needs_8_0 : AS' := (aDrop (aMut 5 (aConsD (aTup (aConsD (aOp fIx (aVar 8) (aC (.int 1))) (aConsD (aOp fIx (aVar 8) (aC (.int 0))) aNil))) aNil) fAppend))
def law_needs_7_0 : AS' := (aIfS (aB (aOp fLt (aVar 10) (aVar 9))) law_needs_8_0 aNext)
def law_needs_5_2 : AS' := (aIfS (aB (aOp fLt (aVar 9) (aVar 10))) law_needs_6_0 law_needs_7_0)
def law_needs_5_1 : AS' := aSeq (aAsg (aFn S_law_valued (aConsD (aRd fTuple (aVar 8)) (aCons (aVar 2) aNil))) (agTup 2 (agCons (agName 9) (agCons (agName 10) agNil)))) law_needs_5_2
def law_needs_5_0 : AS' := aSeq (aSet 8 (aFn S_law_mixed (aCons (aVar 0) (aConsD (aLst (aConsD (aFn S_law_pick (aCons (aVar 0) (aCons (aVar 3) aNil))) (aConsD (aFn S_law_pick (aCons (aVar 0) (aCons (aVar 3) aNil))) aNil))) aNil)))) law_needs_5_1
def law_needs_4_0 : AS' := (aIfS (aB (aOp fGt (aRd fLen (aVar 3)) (aC (.int 1)))) law_needs_5_0 aNext)
def law_needs_0_4 : AS' := (aRet B_law_needs (aVar 5))
def law_needs_0_3 : AS' := aSeq (aFor (aiRange1 (aConsD (aFn S_law_draw (aCons (aVar 0) (aConsD (aC (.int 3)) aNil))) aNil)) (agName 6) law_needs_4_0) law_needs_0_4
def law_needs_0_2 : AS' := aSeq (aSet 5 (aLst aNil)) law_needs_0_3
def law_needs_0_1 : AS' := aSeq (aFor (aiSeq (aVar 1)) (agName 4) law_needs_1_0) law_needs_0_2
def law_needs_0_0 : AS' := aSeq (aSet 3 (aLst aNil)) law_needs_0_1
def a_law_needs : AS' := law_needs_0_0
/-- _law_own(d, variables, spans): 0=d 1=variables 2=spans 3=told 4=used 5=term 6=value 7=step 8=low 9=high -/
def B_law_own : Nat → Bool := fun i => i == 0
def law_own_3_0 : AS' := (fun A env => A.bk env)
def law_own_2_1 : AS' := (aSet 6 (aIf (aB (aOp fLt (aOp fAdd (aVar 6) (aC (.int 1))) (aVar 9))) (aOp fAdd (aVar 6) (aC (.int 1))) (aVar 8)))
def law_own_2_0 : AS' := aSeq (aIfS (aAnd (aB (aOp fGt (aOp fMod (aRd fInt (aVar 6)) (aC (.int 10))) (aC (.int 0)))) (aB (aOp (fIn true) (aVar 6) (aVar 4)))) law_own_3_0 aNext) law_own_2_1
def law_own_1_4 : AS' := (aDrop (aMut 4 (aConsD (aVar 6) aNil) fAppend))
def law_own_1_3 : AS' := aSeq (aAsg (aVar 6) (agSub (aVar 3) (aVar 5))) law_own_1_4
def law_own_1_2 : AS' := aSeq (aFor (aiRange1 (aConsD (aC (.int 1000)) aNil)) (agName 7) law_own_2_0) law_own_1_3
def law_own_1_1 : AS' := aSeq (aSet 6 (aOp fAdd (aVar 8) (aFn S_law_draw (aCons (aVar 0) (aConsD (aOp fSub (aVar 9) (aVar 8)) aNil))))) law_own_1_2
def law_own_1_0 : AS' := aSeq (aAsg (aGet (aVar 2) (aVar 5) (aTup (aConsD (aC (.int 0)) (aConsD (aC (.int 1000)) aNil)))) (agTup 2 (agCons (agName 8) (agCons (agName 9) agNil)))) law_own_1_1
def law_own_0_3 : AS' := (aRet B_law_own (aVar 3))
def law_own_0_2 : AS' := aSeq (aFor (aiSeq (aVar 1)) (agName 5) law_own_1_0) law_own_0_3
def law_own_0_1 : AS' := aSeq (aSet 4 (aLst aNil)) law_own_0_2
def law_own_0_0 : AS' := aSeq (aSet 3 aNewK) law_own_0_1
def a_law_own : AS' := law_own_0_0
/-- _law_ranks(d): 0=d 1=told 2=turn 3=rank 4=at -/
def B_law_ranks : Nat → Bool := fun i => i == 0
def law_ranks_2_0 : AS' := (aDrop (aMut 1 (aConsD (aVar 3) aNil) fAppend))
def law_ranks_1_1 : AS' := (aIfS (aB (aOp (fIn true) (aVar 3) (aVar 1))) law_ranks_2_0 aNext)
def law_ranks_1_0 : AS' := aSeq (aSet 3 (aRd fTuple (aLc (aiRange1 (aConsD (aFn S_law_draw (aCons (aVar 0) (aConsD (aC (.int 3)) aNil))) aNil)) (agName 4) atYes (aFn S_law_draw (aCons (aVar 0) (aConsD (aC (.int 1000)) aNil))) [4]))) law_ranks_1_1
def law_ranks_0_2 : AS' := (aRet B_law_ranks (aRd fTuple (aVar 1)))
def law_ranks_0_1 : AS' := aSeq (aFor (aiRange1 (aConsD (aFn S_law_draw (aCons (aVar 0) (aConsD (aC (.int 4)) aNil))) aNil)) (agName 2) law_ranks_1_0) law_ranks_0_2
def law_ranks_0_0 : AS' := aSeq (aSet 1 (aLst aNil)) law_ranks_0_1
def a_law_ranks : AS' := law_ranks_0_0
/-- _law_spoil(told, variables): 0=told 1=variables 2=term -/
def B_law_spoil : Nat → Bool := fun i => i == 0
def law_spoil_1_0 : AS' := (aAsg (aC (.int 0)) (agSub (aVar 0) (aVar 2)))
def law_spoil_0_1 : AS' := (aAsg (aC (.int 1)) (agSub (aVar 0) (aNeg (aC (.int 99)))))
def law_spoil_0_0 : AS' := aSeq (aFor (aiSeq (aVar 1)) (agName 2) law_spoil_1_0) law_spoil_0_1
def a_law_spoil : AS' := law_spoil_0_0
/-- _law_names(d, many): 0=d 1=many 2=letters 3=told 4=place 5=name 6=turn -/
def B_law_names : Nat → Bool := fun i => i == 0
def law_names_1_1 : AS' := (aDrop (aMut 3 (aConsD (aOp fAdd (aOp fAdd (aVar 5) (aC (.str "q"))) (aOp fIx (aVar 2) (aOp fMod (aVar 4) (aC (.int 26))))) aNil) fAppend))
def law_names_1_0 : AS' := aSeq (aSet 5 (aJoin "" (aLc (aiRange1 (aConsD (aFn S_law_draw (aCons (aVar 0) (aConsD (aC (.int 4)) aNil))) aNil)) (agName 6) atYes (aFn S_law_pick (aCons (aVar 0) (aCons (aVar 2) aNil))) [6]))) law_names_1_1
def law_names_0_3 : AS' := (aRet B_law_names (aVar 3))
def law_names_0_2 : AS' := aSeq (aFor (aiRange1 (aConsD (aVar 1) aNil)) (agName 4) law_names_1_0) law_names_0_3
def law_names_0_1 : AS' := aSeq (aSet 3 (aLst aNil)) law_names_0_2
def law_names_0_0 : AS' := aSeq (aSet 2 (aC (.str "abcdefghijklmnopqrstuvwxyz"))) law_names_0_1
def a_law_names : AS' := law_names_0_0
/-- _law_tables(d, many, least): 0=d 1=many 2=least 3=told 4=name -/
def B_law_tables : Nat → Bool := fun i => i == 0
def law_tables_1_0 : AS' := (aDrop (aMut 3 (aConsD (aTup (aConsD (aVar 4) (aConsD (aRd fTuple (aFn S_law_names (aCons (aVar 0) (aConsD (aOp fAdd (aVar 2) (aFn S_law_draw (aCons (aVar 0) (aConsD (aOp fSub (aC (.int 5)) (aVar 2)) aNil)))) aNil)))) aNil))) aNil) fAppend))
def law_tables_0_2 : AS' := (aRet B_law_tables (aRd fTuple (aVar 3)))
def law_tables_0_1 : AS' := aSeq (aFor (aiSeq (aFn S_law_names (aCons (aVar 0) (aConsD (aVar 1) aNil)))) (agName 4) law_tables_1_0) law_tables_0_2
def law_tables_0_0 : AS' := aSeq (aSet 3 (aLst aNil)) law_tables_0_1
def a_law_tables : AS' := law_tables_0_0
/-- _law_variables(rows): 0=rows 1=told 2=row 3=term -/
def B_law_variables : Nat → Bool := fun i => false
def law_variables_3_0 : AS' := (aDrop (aMut 1 (aConsD (aVar 3) aNil) fAppend))
def law_variables_2_0 : AS' := (aIfS (aAnd (aB (aOp fLt (aVar 3) (aC (.int 0)))) (aB (aOp (fIn true) (aVar 3) (aVar 1)))) law_variables_3_0 aNext)
def law_variables_1_0 : AS' := (aFor (aiSeq (aOp fIx (aVar 2) (aC (.int 1)))) (agName 3) law_variables_2_0)
def law_variables_0_2 : AS' := (aRet B_law_variables (aVar 1))
def law_variables_0_1 : AS' := aSeq (aFor (aiSeq (aVar 0)) (agName 2) law_variables_1_0) law_variables_0_2
def law_variables_0_0 : AS' := aSeq (aSet 1 (aLst aNil)) law_variables_0_1
def a_law_variables : AS' := law_variables_0_0
/-- World.size(self): 0=self 1=rows -/
def B_World_size : Nat → Bool := fun i => false
def World_size_0_0 (C : Cls) : AS' := (aRet B_World_size (aRd fSum (aLc (aiVals (aFld C.World "tables" (aVar 0))) (agName 1) atYes (aRd fLen (aVar 1)) [1])))
def a_World_size (C : Cls) : AS' := World_size_0_0 C
/-- World.tree(self): 0=self 1=name -/
def B_World_tree : Nat → Bool := fun i => false
def World_tree_0_0 (C : Cls) : AS' := (aRet B_World_tree (aTup (aConsD (aRd fTuple (aLc (aiSeq (aRd fSortK (aFld C.World "tables" (aVar 0)))) (agName 1) atYes (aTup (aConsD (aVar 1) (aConsD (aOp fIx (aFld C.World "tables" (aVar 0)) (aVar 1)) aNil))) [1])) (aConsD (aFld C.World "ranks" (aVar 0)) aNil))))
def a_World_tree (C : Cls) : AS' := World_tree_0_0 C
/-- _law_unlike(row): 0=row 1=told 2=thing -/
def B_law_unlike : Nat → Bool := fun i => false
def law_unlike_2_0 : AS' := (aDrop (aMut 1 (aConsD (aVar 2) aNil) fAppend))
def law_unlike_1_0 : AS' := (aIfS (aB (aOp (fIn true) (aVar 2) (aVar 1))) law_unlike_2_0 aNext)
def law_unlike_0_2 : AS' := (aRet B_law_unlike (aVar 1))
def law_unlike_0_1 : AS' := aSeq (aFor (aiSeq (aVar 0)) (agName 2) law_unlike_1_0) law_unlike_0_2
def law_unlike_0_0 : AS' := aSeq (aSet 1 (aLst aNil)) law_unlike_0_1
def a_law_unlike : AS' := law_unlike_0_0
/-- _law_world_right(told, tables, pairs, ranks): 0=told 1=tables 2=pairs 3=ranks 4=due 5=table 6=part 7=pair -/
def B_law_world_right : Nat → Bool := fun i => false
def law_world_right_1_0 (C : Cls) : AS' := (aDrop (aMut 4 (aConsD (aTup (aConsD (aOp fIx (aVar 5) (aC (.int 0))) (aConsD (aRd fTuple (aFn S_law_unlike (aConsD (aLc (aiSeq (aVar 2)) (agName 7) (aB (aOp fEq (aOp fIx (aVar 7) (aC (.int 0))) (aOp fIx (aVar 5) (aC (.int 0))))) (aOp fIx (aVar 7) (aC (.int 1))) [7]) aNil))) aNil))) aNil) fAppend))
def law_world_right_2_0 (C : Cls) : AS' := (aRet B_law_world_right (aC (.bl false)))
def law_world_right_0_3 (C : Cls) : AS' := (aRet B_law_world_right (aOp fEq (aRd fSortK (aFld C.World "tables" (aVar 0))) (aRd fSortD (aLc (aiSeq (aVar 1)) (agName 5) atYes (aOp fIx (aVar 5) (aC (.int 0))) [5]))))
def law_world_right_0_2 (C : Cls) : AS' := aSeq (aIfS (aOr (aB (aOp fNe (aMeth C.World "tree" (S_World_tree C) (aFrz (aVar 0)) aNil) (aTup (aConsD (aRd fTuple (aRd fSortD (aVar 4))) (aConsD (aVar 3) aNil))))) (aB (aOp fNe (aMeth C.World "size" (S_World_size C) (aFrz (aVar 0)) aNil) (aRd fSum (aLc (aiSeq (aVar 4)) (agName 6) atYes (aRd fLen (aOp fIx (aVar 6) (aC (.int 1)))) [6]))))) (law_world_right_2_0 C) aNext) (law_world_right_0_3 C)
def law_world_right_0_1 (C : Cls) : AS' := aSeq (aFor (aiSeq (aVar 1)) (agName 5) (law_world_right_1_0 C)) (law_world_right_0_2 C)
def law_world_right_0_0 (C : Cls) : AS' := aSeq (aSet 4 (aLst aNil)) (law_world_right_0_1 C)
def a_law_world_right (C : Cls) : AS' := law_world_right_0_0 C
/-- Body.span(self, term): 0=self 1=term -/
def B_Body_span : Nat → Bool := fun i => false
def Body_span_1_0 (C : Cls) : AS' := (aRet B_Body_span (aTup (aConsD (aVar 1) (aConsD (aOp fAdd (aVar 1) (aC (.int 1))) aNil))))
def Body_span_0_1 (C : Cls) : AS' := (aRet B_Body_span (aGet (aFld C.Body "spans" (aVar 0)) (aVar 1) (aTup (aConsD (aC (.int 0)) (aConsD (aC (.int 1000)) aNil)))))
def Body_span_0_0 (C : Cls) : AS' := aSeq (aIfS (aB (aOp fGe (aVar 1) (aC (.int 0)))) (Body_span_1_0 C) aNext) (Body_span_0_1 C)
def a_Body_span (C : Cls) : AS' := Body_span_0_0 C
/-- Body.variables(self): 0=self 1=told 2=row 3=term -/
def B_Body_variables : Nat → Bool := fun i => false
def Body_variables_3_0 (C : Cls) : AS' := (aDrop (aMut 1 (aConsD (aVar 3) aNil) fAppend))
def Body_variables_2_0 (C : Cls) : AS' := (aIfS (aAnd (aB (aOp fLt (aVar 3) (aC (.int 0)))) (aB (aOp (fIn true) (aVar 3) (aVar 1)))) (Body_variables_3_0 C) aNext)
def Body_variables_1_0 (C : Cls) : AS' := (aFor (aiSeq (aOp fIx (aVar 2) (aC (.int 1)))) (agName 3) (Body_variables_2_0 C))
def Body_variables_0_2 (C : Cls) : AS' := (aRet B_Body_variables (aVar 1))
def Body_variables_0_1 (C : Cls) : AS' := aSeq (aFor (aiSeq (aFld C.Body "rows" (aVar 0))) (agName 2) (Body_variables_1_0 C)) (Body_variables_0_2 C)
def Body_variables_0_0 (C : Cls) : AS' := aSeq (aSet 1 (aLst aNil)) (Body_variables_0_1 C)
def a_Body_variables (C : Cls) : AS' := Body_variables_0_0 C
/-- plain_from(low, used): 0=low 1=used 2=told -/
def B_plain_from : Nat → Bool := fun i => i == 1
def plain_from_1_0 : AS' := (aSet 2 (aOp fAdd (aVar 2) (aC (.int 1))))
def plain_from_0_2 : AS' := (aRet B_plain_from (aVar 2))
def plain_from_0_1 : AS' := aSeq (aWhile (aOr (aB (aOp fEq (aOp fMod (aVar 2) (aC (.int 10))) (aC (.int 0)))) (aB (aOp (fIn false) (aVar 2) (aVar 1)))) plain_from_1_0) plain_from_0_2
def plain_from_0_0 : AS' := aSeq (aSet 2 (aVar 0)) plain_from_0_1
def a_plain_from : AS' := plain_from_0_0
/-- value_of(values, term): 0=values 1=term -/
def B_value_of : Nat → Bool := fun i => i == 0
def value_of_0_0 : AS' := (aRet B_value_of (aIf (aB (aOp fGe (aVar 1) (aC (.int 0)))) (aVar 1) (aOp fIx (aVar 0) (aVar 1))))
def a_value_of : AS' := value_of_0_0
/-- put_needed(body, needs, values, used): 0=body 1=needs 2=values 3=used 4=pair 5=turn 6=term 7=less 8=greater 9=low -/
def B_put_needed : Nat → Bool := fun i => i == 2 || i == 3
def put_needed_3_1 (C : Cls) : AS' := (aAsg (aC (.bl true)) (agSub (aVar 3) (aOp fIx (aVar 2) (aVar 6))))
def put_needed_3_0 (C : Cls) : AS' := aSeq (aAsg (aFn S_plain_from (aConsD (aOp fIx (aMeth C.Body "span" (S_Body_span C) (aFrz (aVar 0)) (aConsD (aVar 6) aNil)) (aC (.int 0))) (aCons (aVar 3) aNil))) (agSub (aVar 2) (aVar 6))) (put_needed_3_1 C)
def put_needed_2_0 (C : Cls) : AS' := (aIfS (aAnd (aB (aOp fLt (aVar 6) (aC (.int 0)))) (aB (aOp (fIn true) (aVar 6) (aVar 2)))) (put_needed_3_0 C) aNext)
def put_needed_1_0 (C : Cls) : AS' := (aFor (aiSeq (aVar 4)) (agName 6) (put_needed_2_0 C))
def put_needed_6_3 (C : Cls) : AS' := (aAsg (aC (.bl true)) (agSub (aVar 3) (aOp fIx (aVar 2) (aVar 8))))
def put_needed_6_2 (C : Cls) : AS' := aSeq (aAsg (aFn S_plain_from (aConsD (aVar 9) (aCons (aVar 3) aNil))) (agSub (aVar 2) (aVar 8))) (put_needed_6_3 C)
def put_needed_6_1 (C : Cls) : AS' := aSeq (aDrop (aPop2 3 (aOp fIx (aVar 2) (aVar 8)) (aC .non))) (put_needed_6_2 C)
def put_needed_6_0 (C : Cls) : AS' := aSeq (aSet 9 (aCall fMax2 (aConsD (aOp fIx (aMeth C.Body "span" (S_Body_span C) (aFrz (aVar 0)) (aConsD (aVar 8) aNil)) (aC (.int 0))) (aConsD (aOp fAdd (aFn S_value_of (aCons (aVar 2) (aConsD (aVar 7) aNil))) (aC (.int 1))) aNil)))) (put_needed_6_1 C)
def put_needed_5_0 (C : Cls) : AS' := (aIfS (aAnd (aB (aOp fGe (aFn S_value_of (aCons (aVar 2) (aConsD (aVar 7) aNil))) (aFn S_value_of (aCons (aVar 2) (aConsD (aVar 8) aNil))))) (aB (aOp fLt (aVar 8) (aC (.int 0))))) (put_needed_6_0 C) aNext)
def put_needed_4_0 (C : Cls) : AS' := (aFor (aiSeq (aVar 1)) (agTup 2 (agCons (agName 7) (agCons (agName 8) agNil))) (put_needed_5_0 C))
def put_needed_0_1 (C : Cls) : AS' := (aFor (aiRange1 (aConsD (aC (.int 8)) aNil)) (agName 5) (put_needed_4_0 C))
def put_needed_0_0 (C : Cls) : AS' := aSeq (aFor (aiSeq (aVar 1)) (agName 4) (put_needed_1_0 C)) (put_needed_0_1 C)
def a_put_needed (C : Cls) : AS' := put_needed_0_0 C
/-- freeze(body, needs): 0=body 1=needs 2=values 3=used 4=term -/
def B_freeze : Nat → Bool := fun i => false
def freeze_2_1 (C : Cls) : AS' := (aAsg (aC (.bl true)) (agSub (aVar 3) (aOp fIx (aVar 2) (aVar 4))))
def freeze_2_0 (C : Cls) : AS' := aSeq (aAsg (aFn S_plain_from (aConsD (aOp fIx (aMeth C.Body "span" (S_Body_span C) (aFrz (aVar 0)) (aConsD (aVar 4) aNil)) (aC (.int 0))) (aCons (aVar 3) aNil))) (agSub (aVar 2) (aVar 4))) (freeze_2_1 C)
def freeze_1_0 (C : Cls) : AS' := (aIfS (aB (aOp (fIn true) (aVar 4) (aVar 2))) (freeze_2_0 C) aNext)
def freeze_0_4 (C : Cls) : AS' := (aRet B_freeze (aVar 2))
def freeze_0_3 (C : Cls) : AS' := aSeq (aFor (aiSeq (aMeth C.Body "variables" (S_Body_variables C) (aFrz (aVar 0)) aNil)) (agName 4) (freeze_1_0 C)) (freeze_0_4 C)
def freeze_0_2 (C : Cls) : AS' := aSeq (aDrop (aFn (S_put_needed C) (aConsD (aVar 0) (aConsD (aVar 1) (aCons (aVar 2) (aCons (aVar 3) aNil)))))) (freeze_0_3 C)
def freeze_0_1 (C : Cls) : AS' := aSeq (aSet 3 aNewK) (freeze_0_2 C)
def freeze_0_0 (C : Cls) : AS' := aSeq (aSet 2 aNewK) (freeze_0_1 C)
def a_freeze (C : Cls) : AS' := freeze_0_0 C
/-- frozen_rows(rows, values): 0=rows 1=values 2=table 3=terms 4=term -/
def B_frozen_rows : Nat → Bool := fun i => false
def frozen_rows_0_0 : AS' := (aRet B_frozen_rows (aLc (aiSeq (aVar 0)) (agTup 2 (agCons (agName 2) (agCons (agName 3) agNil))) atYes (aTup (aConsD (aVar 2) (aConsD (aRd fTuple (aLc (aiSeq (aVar 3)) (agName 4) atYes (aFn S_value_of (aCons (aVar 1) (aConsD (aVar 4) aNil))) [4])) aNil))) [2, 3]))
def a_frozen_rows : AS' := frozen_rows_0_0
/-- World.__init__(self, tables, ranks): 0=self 1=tables 2=ranks -/
def B_World_init : Nat → Bool := fun i => i == 0
def World_init_0_1 (C : Cls) : AS' := (aFldSet 0 C.World "ranks" (aVar 2))
def World_init_0_0 (C : Cls) : AS' := aSeq (aFldSet 0 C.World "tables" (aVar 1)) (World_init_0_1 C)
def a_World_init (C : Cls) : AS' := World_init_0_0 C
/-- world_of(house, pairs, ranks): 0=house 1=pairs 2=ranks 3=tables 4=name 5=columns 6=found 7=table 8=row -/
def B_world_of : Nat → Bool := fun i => false
def world_of_3_0 (C : Cls) : AS' := (aDrop (aMut 6 (aConsD (aVar 8) aNil) fAppend))
def world_of_2_0 (C : Cls) : AS' := (aIfS (aAnd (aB (aOp fEq (aVar 7) (aVar 4))) (aB (aOp (fIn true) (aVar 8) (aVar 6)))) (world_of_3_0 C) aNext)
def world_of_1_2 (C : Cls) : AS' := (aAsg (aRd fTuple (aVar 6)) (agSub (aVar 3) (aVar 4)))
def world_of_1_1 (C : Cls) : AS' := aSeq (aFor (aiSeq (aVar 1)) (agTup 2 (agCons (agName 7) (agCons (agName 8) agNil))) (world_of_2_0 C)) (world_of_1_2 C)
def world_of_1_0 (C : Cls) : AS' := aSeq (aSet 6 (aLst aNil)) (world_of_1_1 C)
def world_of_0_2 (C : Cls) : AS' := (aRet B_world_of (aMake C.World (S_World_init C) (aConsD (aVar 3) (aConsD (aVar 2) aNil))))
def world_of_0_1 (C : Cls) : AS' := aSeq (aFor (aiSeq (aFld C.House "tables" (aVar 0))) (agTup 2 (agCons (agName 4) (agCons (agName 5) agNil))) (world_of_1_0 C)) (world_of_0_2 C)
def world_of_0_0 (C : Cls) : AS' := aSeq (aSet 3 aNewK) (world_of_0_1 C)
def a_world_of (C : Cls) : AS' := world_of_0_0 C
/-- law(script): 0=script 1=d 2=is_large 3=tables 4=rows 5=variables 6=spans 7=needs 8=wide 9=body 10=due 11=free 12=handed 13=held 14=first 15=again 16=ends 17=loose 18=asked 19=pairs 20=ranks 21=term 22=row -/
def B_law : Nat → Bool := fun i => false
def law_1_0 (C : Cls) : AS' := (aRet B_law (aC (.bl false)))
def law_2_0 (C : Cls) : AS' := (aRet B_law (aC (.bl false)))
def law_3_0 (C : Cls) : AS' := (aRet B_law (aC (.bl false)))
def law_4_0 (C : Cls) : AS' := (aRet B_law (aC (.bl false)))
def law_5_0 (C : Cls) : AS' := (aRet B_law (aC (.bl false)))
def law_0_28 (C : Cls) : AS' := (aRet B_law (aFn (S_law_world_right C) (aConsD (aFn (S_world_of C) (aConsD (aMake C.House (S_House_init C) (aConsD (aVar 3) (aConsD (aTup aNil) (aConsD (aTup aNil) (aConsD (aTup aNil) aNil))))) (aConsD (aRd fList (aVar 19)) (aConsD (aVar 20) aNil)))) (aConsD (aVar 3) (aConsD (aVar 19) (aConsD (aVar 20) aNil))))))
def law_0_27 (C : Cls) : AS' := aSeq (aSet 20 (aFn S_law_ranks (aCons (aVar 1) aNil))) (law_0_28 C)
def law_0_26 (C : Cls) : AS' := aSeq (aSet 19 (aFn S_law_mixed (aCons (aVar 1) (aConsD (aVar 19) aNil)))) (law_0_27 C)
def law_0_25 (C : Cls) : AS' := aSeq (aIfS (aB (aOp fNe (aFn S_frozen_rows (aConsD (aVar 18) (aConsD (aRd fDict (aVar 17)) aNil))) (aVar 19))) (law_5_0 C) aNext) (law_0_26 C)
def law_0_24 (C : Cls) : AS' := aSeq (aSet 19 (aLc (aiSeq (aVar 18)) (agName 22) atYes (aTup (aConsD (aOp fIx (aVar 22) (aC (.int 0))) (aConsD (aFn S_law_valued (aConsD (aOp fIx (aVar 22) (aC (.int 1))) (aCons (aVar 17) aNil))) aNil))) [22])) (law_0_25 C)
def law_0_23 (C : Cls) : AS' := aSeq (aSet 18 (aOp fAdd (aVar 4) (aSl (aVar 4) aoNone (aoSome (aC (.int 2)))))) (law_0_24 C)
def law_0_22 (C : Cls) : AS' := aSeq (aSet 17 (aFn S_law_meeting (aCons (aVar 1) (aConsD (aVar 5) aNil)))) (law_0_23 C)
def law_0_21 (C : Cls) : AS' := aSeq (aIfS (aB (aOp fNe (aMeth C.Body "tree" (S_Body_tree C) (aFrz (aVar 9)) aNil) (aTup (aConsD (aVar 4) (aConsD (aTup aNil) (aConsD (aVar 16) (aConsD (aVar 8) aNil))))))) (law_4_0 C) aNext) (law_0_22 C)
def law_0_20 (C : Cls) : AS' := aSeq (aSet 16 (aRd fTuple (aLc (aiSeq (aSortedR (aRd fListK (aVar 6)))) (agName 21) atYes (aTup (aConsD (aVar 21) (aConsD (aOp fIx (aOp fIx (aVar 6) (aVar 21)) (aC (.int 0))) (aConsD (aOp fIx (aOp fIx (aVar 6) (aVar 21)) (aC (.int 1))) aNil)))) [21]))) (law_0_21 C)
def law_0_19 (C : Cls) : AS' := aSeq (aIfS (aOr (aB (aOp fNe (aLc (aiSeq (aVar 5)) (agName 21) atYes (aOp fIx (aVar 15) (aVar 21)) [21]) (aVar 14))) (aB (aDicEq true (aFn (S_freeze C) (aConsD (aVar 9) (aConsD (aLst aNil) aNil))) (aVar 10)))) (law_3_0 C) aNext) (law_0_20 C)
def law_0_18 (C : Cls) : AS' := aSeq (aSet 15 (aFn (S_freeze C) (aConsD (aVar 9) (aConsD (aRd fList (aVar 7)) aNil)))) (law_0_19 C)
def law_0_17 (C : Cls) : AS' := aSeq (aDrop (aFn S_law_spoil (aCons (aVar 11) (aConsD (aVar 5) aNil)))) (law_0_18 C)
def law_0_16 (C : Cls) : AS' := aSeq (aDrop (aFn S_law_spoil (aCons (aVar 13) (aConsD (aVar 5) aNil)))) (law_0_17 C)
def law_0_15 (C : Cls) : AS' := aSeq (aSet 14 (aLc (aiSeq (aVar 5)) (agName 21) atYes (aOp fIx (aVar 13) (aVar 21)) [21])) (law_0_16 C)
def law_0_14 (C : Cls) : AS' := aSeq (aIfS (aOr (aNot (aTru (aFn S_law_is_frozen (aCons (aVar 13) (aConsD (aVar 5) (aConsD (aVar 6) (aConsD (aVar 7) aNil))))))) (aB (aOp fNe (aVar 12) (aVar 7)))) (law_2_0 C) aNext) (law_0_15 C)
def law_0_13 (C : Cls) : AS' := aSeq (aSet 13 (aFn (S_freeze C) (aConsD (aVar 9) (aConsD (aVar 12) aNil)))) (law_0_14 C)
def law_0_12 (C : Cls) : AS' := aSeq (aSet 12 (aRd fList (aVar 7))) (law_0_13 C)
def law_0_11 (C : Cls) : AS' := aSeq (aIfS (aOr (aNot (aTru (aFn S_law_is_frozen (aCons (aVar 11) (aConsD (aVar 5) (aConsD (aVar 6) (aConsD (aLst aNil) aNil))))))) (aB (aDicEq true (aVar 11) (aVar 10)))) (law_1_0 C) aNext) (law_0_12 C)
def law_0_10 (C : Cls) : AS' := aSeq (aSet 11 (aFn (S_freeze C) (aConsD (aVar 9) (aConsD (aLst aNil) aNil)))) (law_0_11 C)
def law_0_9 (C : Cls) : AS' := aSeq (aSet 10 (aFn S_law_least_values (aConsD (aVar 5) (aConsD (aVar 6) aNil)))) (law_0_10 C)
def law_0_8 (C : Cls) : AS' := aSeq (aSet 9 (aMake C.Body (S_Body_init C) (aConsD (aVar 4) (aConsD (aTup aNil) (aConsD (aRd fDict (aVar 6)) (aConsD (aVar 8) aNil)))))) (law_0_9 C)
def law_0_7 (C : Cls) : AS' := aSeq (aSet 8 (aRd fTuple (aFn S_law_mixed (aCons (aVar 1) (aConsD (aSl (aVar 5) aoNone (aoSome (aC (.int 6)))) aNil))))) (law_0_8 C)
def law_0_6 (C : Cls) : AS' := aSeq (aSet 7 (aFn S_law_needs (aCons (aVar 1) (aConsD (aVar 4) (aConsD (aFn S_law_own (aCons (aVar 1) (aConsD (aVar 5) (aConsD (aVar 6) aNil)))) aNil))))) (law_0_7 C)
def law_0_5 (C : Cls) : AS' := aSeq (aSet 6 (aFn S_law_cells (aCons (aVar 1) (aConsD (aVar 5) aNil)))) (law_0_6 C)
def law_0_4 (C : Cls) : AS' := aSeq (aSet 5 (aFn S_law_variables (aConsD (aVar 4) aNil))) (law_0_5 C)
def law_0_3 (C : Cls) : AS' := aSeq (aSet 4 (aFn S_law_asked (aCons (aVar 1) (aConsD (aVar 3) (aConsD (aIf (aTru (aVar 2)) (aC (.int 16)) (aFn S_law_draw (aCons (aVar 1) (aConsD (aC (.int 6)) aNil)))) aNil))))) (law_0_4 C)
def law_0_2 (C : Cls) : AS' := aSeq (aSet 3 (aIf (aTru (aVar 2)) (aFn S_law_tables (aCons (aVar 1) (aConsD (aC (.int 8)) (aConsD (aC (.int 3)) aNil)))) (aFn S_law_tables (aCons (aVar 1) (aConsD (aOp fAdd (aC (.int 1)) (aFn S_law_draw (aCons (aVar 1) (aConsD (aC (.int 3)) aNil)))) (aConsD (aC (.int 1)) aNil)))))) (law_0_3 C)
def law_0_1 (C : Cls) : AS' := aSeq (aSet 2 (aOp fEq (aFn S_law_draw (aCons (aVar 1) (aConsD (aC (.int 5)) aNil))) (aC (.int 0)))) (law_0_2 C)
def law_0_0 (C : Cls) : AS' := aSeq (aSet 1 (aFn S_law_begin (aConsD (aVar 0) aNil))) (law_0_1 C)
def a_law (C : Cls) : AS' := law_0_0 C
end AL
namespace AL
open PySem L2
/-! P1: the draws. -/
def BodyOk (n m : Nat) (B : Nat → Bool) (a : AS') (S : ASp) : Prop := ∀ avs R, S avs R → avs.length = n ∧ (∀ (i : Nat) (d : D), avs[i]? = some (.own d) → B i = true) ∧ a { nx := fun env => R (.dat .non) (outs avs env), rt := fun r env => (∀ i, r ≠ .at i) ∧ R r (outs avs env) } (start0 m avs)
theorem nat_ (x : D) (i : Nat) : RV.dat x ≠ .at i := fun z => by cases z
theorem new_ (x : D) (i : Nat) : RV.new x ≠ .at i := fun z => by cases z
/-- the own check: slot 0 alone -/
theorem own0 {d : D} {ds : List D} {B : Nat → Bool} (h : B 0 = true) : ∀ (i : Nat) (e : D), (AV.own d :: ds.map AV.dat)[i]? = some (.own e) → B i = true
  | 0, _, _ => h
  | i + 1, e, q => by
    rw [List.getElem?_cons_succ, List.getElem?_map] at q
    cases w : ds[i]? with
    | none => rw [w] at q; cases q
    | some x => rw [w] at q; cases q
theorem ownN {ds : List D} {B : Nat → Bool} : ∀ (i : Nat) (e : D), (ds.map AV.dat)[i]? = some (.own e) → B i = true := fun i e q => by
  rw [List.getElem?_map] at q
  cases w : ds[i]? with
  | none => rw [w] at q; cases q
  | some x => rw [w] at q; cases q
theorem n_ca : ¬ ("cells" : Str) = "at" := by decide +kernel
theorem n_cr : ¬ ("cells" : Str) = "rest" := by decide +kernel
theorem n_ct : ¬ ("cells" : Str) = "turn" := by decide +kernel
theorem n_cs : ¬ ("cells" : Str) = "seed" := by decide +kernel
theorem n_ar : ¬ ("at" : Str) = "rest" := by decide +kernel
theorem n_at : ¬ ("at" : Str) = "turn" := by decide +kernel
theorem n_as : ¬ ("at" : Str) = "seed" := by decide +kernel
theorem n_rt : ¬ ("rest" : Str) = "turn" := by decide +kernel
theorem n_rs : ¬ ("rest" : Str) = "seed" := by decide +kernel
theorem n_ts : ¬ ("turn" : Str) = "seed" := by decide +kernel
theorem dr {cs : List Int} {a r t s : Int} (hc : ∀ c ∈ cs, (0 : Int) ≤ c) (ha : 0 ≤ a) (hr : 0 ≤ r) (ht : 0 ≤ t) (hs : 0 ≤ s) : Dr (drD cs a r t s) := ⟨cs, a, r, t, s, rfl, hc, ha, hr, ht, hs⟩
section
variable {cs : List Int} {a r t s z : Int} {F : RV → Prop} {env : AEnv} {N : AEnv → Prop} {j : Nat}
theorem ix_cells (h : F (.dat (.lst (cs.map D.int)))) : fIx (drD cs a r t s) (.str "cells") F := ix_dic (z := .lst (cs.map D.int)) rfl (by simp [drK, dGet]) h
theorem ix_at (h : F (.dat (.int a))) : fIx (drD cs a r t s) (.str "at") F := ix_dic (z := .int a) rfl (by simp [drK, dGet, n_ca]) h
theorem ix_rest (h : F (.dat (.int r))) : fIx (drD cs a r t s) (.str "rest") F := ix_dic (z := .int r) rfl (by simp [drK, dGet, n_cr, n_ar]) h
theorem ix_turn (h : F (.dat (.int t))) : fIx (drD cs a r t s) (.str "turn") F := ix_dic (z := .int t) rfl (by simp [drK, dGet, n_ct, n_at, n_rt]) h
theorem ix_seed (h : F (.dat (.int s))) : fIx (drD cs a r t s) (.str "seed") F := ix_dic (z := .int s) rfl (by simp [drK, dGet, n_cs, n_as, n_rs, n_ts]) h
theorem sz5 : (5 : Nat) < sizeLine := by rw [PySem.sizeLine_eq]; omega
theorem set_at (e : env[j]? = some (.own (drD cs a r t s))) (h : N (env.set j (.own (drD cs z r t s)))) : setAt j (.str "at") (.int z) env N := by
  unfold setAt
  rw [e]
  refine ⟨rfl, sz5, ?_⟩
  simpa [dPutK, dPutW, dPutV, drK, drD, n_ca, n_ar, n_at, n_as, Ne.symm n_ar, Ne.symm n_at, Ne.symm n_as] using h
theorem set_rest (e : env[j]? = some (.own (drD cs a r t s))) (h : N (env.set j (.own (drD cs a z t s)))) : setAt j (.str "rest") (.int z) env N := by
  unfold setAt
  rw [e]
  refine ⟨rfl, sz5, ?_⟩
  simpa [dPutK, dPutW, dPutV, drK, drD, n_cr, n_ar, n_rt, n_rs, Ne.symm n_rt, Ne.symm n_rs] using h
theorem set_turn (e : env[j]? = some (.own (drD cs a r t s))) (h : N (env.set j (.own (drD cs a r z s)))) : setAt j (.str "turn") (.int z) env N := by
  unfold setAt
  rw [e]
  refine ⟨rfl, sz5, ?_⟩
  simpa [dPutK, dPutW, dPutV, drK, drD, n_ct, n_at, n_rt, n_ts, Ne.symm n_ts] using h
theorem set_seed (e : env[j]? = some (.own (drD cs a r t s))) (h : N (env.set j (.own (drD cs a r t z)))) : setAt j (.str "seed") (.int z) env N := by
  unfold setAt
  rw [e]
  refine ⟨rfl, sz5, ?_⟩
  simpa [dPutK, dPutW, dPutV, drK, drD, n_cs, n_as, n_rs, n_ts] using h
end
theorem p_law_draw : BodyOk 2 4 B_law_draw a_law_draw S_law_draw := by
  rintro _ R ⟨_, many, rfl, ⟨cs, a, r, t, s, rfl, hc, ha, hr, ht, hs⟩, hm, hm2, k⟩
  refine ⟨rfl, own0 (ds := [_]) rfl, ?_⟩
  have fin : ∀ a' s', 0 ≤ a' → 0 ≤ s' → ∀ env : AEnv, (env = [.own (drD cs a' r (t + 1) s'), .dat (.int many), .un, .un] ∨ ∃ c, env = [.own (drD cs a' r (t + 1) s'), .dat (.int many), .un, .dat (.int c)]) →
      law_draw_0_3 { nx := fun env => R (.dat .non) (outs [.own (drD cs a r t s), .dat (.int many)] env), rt := fun r0 env => (∀ i, r0 ≠ .at i) ∧ R r0 (outs [.own (drD cs a r t s), .dat (.int many)] env) } env := by
    intro a' s' ha' hs' env he
    rcases he with rfl | ⟨c, rfl⟩ <;>
    · conv => whnf
      refine ix_seed ?_
      conv => whnf
      refine ix_turn ?_
      conv => whnf
      refine ⟨.inr (by omega), ?_⟩
      conv => whnf
      refine ⟨.inr (by omega), ?_⟩
      conv => whnf
      refine ⟨by omega, ?_⟩
      conv => whnf
      refine ⟨⟨by omega, by omega⟩, ?_⟩
      conv => whnf
      refine ⟨.inr (by omega), ?_⟩
      conv => whnf
      refine ⟨by omega, ?_⟩
      conv => whnf
      refine ⟨hm, ?_⟩
      conv => whnf
      exact ⟨nat_ _, k _ _ (Int.emod_nonneg _ (by omega)) (Int.emod_lt_of_pos _ hm) (dr hc ha' hr (by omega) hs')⟩
  conv => whnf
  refine ix_turn ?_
  conv => whnf
  refine set_turn rfl ?_
  conv => whnf
  refine ix_rest ?_
  conv => whnf
  refine brI (fun h => ?_) (fun h => ?_)
  · conv => whnf
    refine ix_rest ?_
    conv => whnf
    refine ⟨hm, ?_⟩
    conv => whnf
    refine ix_rest ?_
    conv => whnf
    refine ⟨⟨hm, hm2⟩, ?_⟩
    conv => whnf
    refine set_rest rfl ?_
    conv => whnf
    exact ⟨nat_ _, k _ _ (Int.emod_nonneg _ (by omega)) (Int.emod_lt_of_pos _ hm) (dr hc ha (Int.ediv_nonneg hr (by omega)) (by omega) hs)⟩
  · conv => whnf
    refine ix_at ?_
    conv => whnf
    refine ix_cells ?_
    conv => whnf
    refine brI (fun h2 => ?_) (fun h2 => ?_)
    · have hlt : a < (cs.length : Int) := by simpa using h2
      obtain ⟨c, ec⟩ : ∃ c, cs[a.toNat]? = some c := ⟨cs[a.toNat]'(by omega), List.getElem?_eq_getElem (by omega)⟩
      have hcc : 0 ≤ c := hc c (List.mem_of_getElem? ec)
      conv => whnf
      refine ix_cells ?_
      conv => whnf
      refine ix_at ?_
      conv => whnf
      refine ix_lst ha (by rw [List.getElem?_map, ec]; rfl) ?_
      conv => whnf
      refine ix_at ?_
      conv => whnf
      refine set_at rfl ?_
      conv => whnf
      refine ⟨⟨by omega, by omega, by omega⟩, ?_⟩
      conv => whnf
      refine brI (fun h3 => ?_) (fun h3 => ?_)
      · conv => whnf
        refine ⟨⟨by omega, by omega⟩, ?_⟩
        conv => whnf
        refine ⟨⟨hm, hm2⟩, ?_⟩
        conv => whnf
        refine set_rest rfl ?_
        conv => whnf
        refine ⟨⟨by omega, by omega⟩, ?_⟩
        conv => whnf
        refine ⟨hm, ?_⟩
        conv => whnf
        exact ⟨nat_ _, k _ _ (Int.emod_nonneg _ (by omega)) (Int.emod_lt_of_pos _ hm) (dr hc (by omega) (Int.ediv_nonneg (Int.ediv_nonneg hcc (by omega)) (by omega)) (by omega) hs)⟩
      · conv => whnf
        refine ix_seed ?_
        conv => whnf
        refine ⟨.inr (by omega), ?_⟩
        conv => whnf
        refine ⟨by omega, ?_⟩
        conv => whnf
        refine set_seed rfl ?_
        exact fin (a + 1) _ (by omega) (Int.emod_nonneg _ (by omega)) _ (.inr ⟨c, rfl⟩)
    · exact fin a s ha hs _ (.inl rfl)
/-- a draw in a def -/
theorem use_draw {env : AEnv} (j : Nat) {d : D} {many : Int} {R : RV → AEnv → Prop} (e : env[j]? = some (.own d)) (hd : Dr d) (hm : 0 < many) (hm2 : many < 1073741824) (k : ∀ r d', 0 ≤ r → r < many → Dr d' → R (.dat (.int r)) (env.set j (.own d'))) : callR S_law_draw [.at j, .dat (.int many)] env R :=
  call_lent j [.int many] e ⟨d, many, rfl, hd, hm, hm2, fun r d' h1 h2 h3 => k r d' h1 h2 h3⟩
end AL
namespace AL
open PySem L2
/-! P2: begin, pick, mixed. -/
def cutL {α : Type} (xs : List α) (lo hi : Option Int) : List α := (xs.drop (HT.sIx xs.length 0 lo)).take (HT.sIx xs.length xs.length hi - HT.sIx xs.length 0 lo)
theorem cutD_map {α : Type} (f : α → D) (xs : List α) (lo hi : Option Int) : cutD (xs.map f) lo hi = (cutL xs lo hi).map f := by
  unfold cutD cutL
  rw [List.length_map, List.map_take, List.map_drop]
theorem sz_le {n : Nat} (h : n ≤ 16777216) : n ≤ sizeLine := by rw [PySem.sizeLine_eq]; exact h
theorem sz_of {n : Nat} (h : n ≤ sizeLine) : n ≤ 16777216 := by rw [PySem.sizeLine_eq] at h; exact h
theorem sz_lt {n : Nat} (h : n < 16777216) : n < sizeLine := by rw [PySem.sizeLine_eq]; exact h
theorem seq_items {d : D} {l : List D} (h : seqOf d = some l) : d = .lst l ∨ d = .tup l := by
  cases d <;> first | (cases h; exact .inl rfl) | (cases h; exact .inr rfl) | cases h
theorem p_law_begin : BodyOk 1 3 B_law_begin a_law_begin S_law_begin := by
  rintro _ R ⟨ns, rfl, k⟩
  refine ⟨rfl, ownN (ds := [_]), ?_⟩
  conv => whnf
  refine ⟨Nat.zero_le _, ?_⟩
  conv => whnf
  rw [cutD_map]
  intro hl
  refine for_ind (Iv := fun items env => ∃ (cs ms : List Int) (x : AV), items = ms.map D.int ∧ env = [.dat (.scr (ns.map D.int)), .own (.lst (cs.map D.int)), x] ∧ (∀ c ∈ cs, (0 : Int) ≤ c) ∧ cs.length + items.length ≤ 16777216) ?_ ?_ _ _ ⟨[], _, .un, rfl, rfl, (fun c hc => nomatch hc), by simpa using sz_of hl⟩
  · rintro env ⟨cs, ms, x, _, rfl, hc, _⟩
    conv => whnf
    refine ⟨by decide +kernel, by decide +kernel, by decide, ?_⟩
    conv => whnf
    exact ⟨new_ _, k _ (dr hc (by omega) (by omega) (by omega) (by omega))⟩
  · rintro d ds env N hN ⟨cs, ms, x, e, rfl, hc, hz⟩
    obtain ⟨m, r, rfl, rfl, rfl⟩ := map_cons_inv e.symm
    rw [List.length_cons] at hz
    have put : ∀ v : Int, 0 ≤ v → (cs.map D.int).length < sizeLine ∧ N [.dat (.scr (ns.map D.int)), .own (.lst (cs.map D.int ++ [.int v])), .dat (.int m)] := fun v hv => by
      refine ⟨by rw [List.length_map]; exact sz_lt (by omega), hN _ ⟨cs ++ [v], r, _, rfl, by rw [List.map_append]; rfl, fun c hc' => ?_, by rw [List.length_append, List.length_singleton]; omega⟩⟩
      rcases List.mem_append.mp hc' with h | h
      · exact hc c h
      · rw [List.mem_singleton] at h
        rw [h]; exact hv
    conv => whnf
    refine ⟨⟨_, rfl⟩, ?_⟩
    conv => whnf
    refine brI (fun h => ?_) (fun h => ?_)
    · conv => whnf
      refine ⟨.inl (by omega), ?_⟩
      conv => whnf
      refine ⟨trivial, ?_⟩
      conv => whnf
      have : (0 : Int) ≤ m := by simpa using h
      exact put _ (by omega)
    · conv => whnf
      refine ⟨.inl (by omega), ?_⟩
      conv => whnf
      refine ⟨trivial, ?_⟩
      conv => whnf
      have : ¬ (0 : Int) ≤ m := by simpa using h
      exact put _ (by omega)
theorem own2 {d : D} {x : AV} {B : Nat → Bool} (h : B 0 = true) (h1 : B 1 = true) : ∀ (i : Nat) (e : D), [AV.own d, x][i]? = some (.own e) → B i = true
  | 0, _, _ => h
  | 1, _, _ => h1
  | i + 2, e, q => by cases q
theorem p_law_pick : BodyOk 2 2 B_law_pick a_law_pick S_law_pick := by
  rintro _ R ⟨d, row, l, x, rfl, hx, hd, hi, hl, hz, k⟩
  refine ⟨rfl, own2 rfl rfl, ?_⟩
  have pos : 0 < l.length := List.length_pos_iff.mpr hl
  have get : ∀ r : Int, 0 ≤ r → r < (l.length : Int) → ∃ z, l[r.toNat]? = some z ∧ z ∈ l := fun r h1 h2 => ⟨l[r.toNat]'(by omega), List.getElem?_eq_getElem (by omega), List.getElem_mem _⟩
  cases row <;> first | (cases hi; done) | skip
  · rename_i s
    have e : l = s.cps.toList.map fun c => D.str ⟨#[c]⟩ := (Option.some.inj hi).symm
    have el : s.length = l.length := by rw [e, List.length_map, Array.length_toList]; rfl
    have elc : s.cps.toList.length = l.length := by rw [e, List.length_map]
    rcases hx with rfl | rfl <;>
    · conv => whnf
      refine ⟨trivial, ?_⟩
      conv => whnf
      refine ⟨sz_le (by rw [el]; omega), ?_⟩
      conv => whnf
      refine ⟨trivial, ?_⟩
      conv => whnf
      refine use_draw 0 rfl hd (by omega) (by omega) fun r d' h1 h2 hd' => ?_
      rw [el] at h2
      obtain ⟨z, hz', mz⟩ := get r h1 h2
      rw [e, List.getElem?_map] at hz'
      cases w : s.cps.toList[r.toNat]? with
      | none => rw [w] at hz'; cases hz'
      | some c =>
        rw [w] at hz'
        cases hz'
        conv => whnf
        unfold fIx
        refine ⟨sz_le (by rw [el]; omega), c, ?_, nat_ _, k _ d' mz hd'⟩
        unfold atI
        have : ixN s.cps.toList.length r = some r.toNat := by
          unfold ixN
          rw [if_pos h1, if_pos (by omega)]
        rw [this]
        exact w
  · cases hi
    rcases hx with rfl | rfl <;>
    · conv => whnf
      refine ⟨trivial, ?_⟩
      conv => whnf
      refine ⟨trivial, ?_⟩
      conv => whnf
      refine use_draw 0 rfl hd (by omega) (by omega) fun r d' h1 h2 hd' => ?_
      obtain ⟨z, hz', mz⟩ := get r h1 h2
      conv => whnf
      refine ix_tup h1 hz' ?_
      conv => whnf
      exact ⟨nat_ _, k _ d' mz hd'⟩
  · cases hi
    rcases hx with rfl | rfl <;>
    · conv => whnf
      refine ⟨trivial, ?_⟩
      conv => whnf
      refine ⟨trivial, ?_⟩
      conv => whnf
      refine use_draw 0 rfl hd (by omega) (by omega) fun r d' h1 h2 hd' => ?_
      obtain ⟨z, hz', mz⟩ := get r h1 h2
      conv => whnf
      refine ix_lst h1 hz' ?_
      conv => whnf
      exact ⟨nat_ _, k _ d' mz hd'⟩
theorem use_pick {env : AEnv} (j : Nat) {d row : D} (l : List D) {R : RV → AEnv → Prop} (e : env[j]? = some (.own d)) (hd : Dr d) (hi : itemsOf row = some l) (hl : l ≠ []) (hz : l.length ≤ 1000000) (k : ∀ z d', z ∈ l → Dr d' → R (.dat z) (env.set j (.own d'))) : callR S_law_pick [.at j, .dat row] env R :=
  call_lent j [row] e ⟨d, row, l, .dat row, rfl, .inl rfl, hd, hi, hl, hz, fun z d' h1 h2 => k z d' h1 h2⟩
theorem call_gen {S : ASp} {rs : List RV} {env : AEnv} {R : RV → AEnv → Prop} (h : lentOk env rs) (q : S (argsE env rs) fun r avs' => R r (backE env rs avs')) : callR S rs env R := by
  unfold callR
  exact ⟨h, q⟩
theorem use_pickO {env : AEnv} (j i : Nat) {d row : D} (l : List D) {R : RV → AEnv → Prop} (e : env[j]? = some (.own d)) (e2 : env[i]? = some (.own row)) (ne : j ≠ i) (hd : Dr d) (hi : itemsOf row = some l) (hl : l ≠ []) (hz : l.length ≤ 1000000) (k : ∀ z d', z ∈ l → Dr d' → R (.dat z) ((env.set j (.own d')).set i (.own row))) : callR S_law_pick [.at j, .at i] env R := by
  refine call_gen ⟨?_, fun m hm => ?_⟩ ?_
  · show [j, i].Nodup
    exact List.nodup_cons.mpr ⟨fun h => ne (List.mem_singleton.mp h), List.nodup_cons.mpr ⟨by simp, List.nodup_nil⟩⟩
  · have hm : m ∈ [j, i] := hm
    simp only [List.mem_cons, List.not_mem_nil, or_false] at hm
    rcases hm with rfl | rfl
    · exact ⟨_, e⟩
    · exact ⟨_, e2⟩
  · simp only [argsE, e, e2]
    exact ⟨d, row, l, .own row, rfl, .inr rfl, hd, hi, hl, hz, fun z d' h1 h2 => k z d' h1 h2⟩
end AL
namespace AL
open PySem L2
/-! P3: mixed, unlike, some. -/
theorem idx_nat {n : Nat} {r : Int} (h : 0 ≤ r) (h2 : r < (n : Int)) : seqIndex? r n = some r.toNat := by
  refine (ixN_seq ?_).1
  unfold ixN
  rw [if_pos h, if_pos h2]
theorem erase_perm {α : Type} : ∀ (l : List α) (i : Nat) (h : i < l.length), (l[i] :: l.eraseIdx i).Perm l
  | a :: l, 0, h => List.Perm.refl _
  | a :: l, i + 1, h => by
    simp only [List.getElem_cons_succ, List.eraseIdx_cons_succ]
    exact (List.Perm.swap _ _ _).trans (List.Perm.cons a (erase_perm l i (by simpa using h)))
theorem range_len (n : Nat) : (rangeD 0 n).length = n := by unfold rangeD; rw [List.length_map, List.length_range]
theorem p_law_mixed : BodyOk 2 5 B_law_mixed a_law_mixed S_law_mixed := by
  rintro _ R ⟨d, row, l, rfl, hd, hi, hz, k⟩
  refine ⟨rfl, own0 (ds := [_]) rfl, ?_⟩
  have loop : ∀ env : AEnv, env = [.own d, .dat row, .own (.lst l), .own (.lst []), .un] → forL (agName 4) law_mixed_1_0 { nx := law_mixed_0_3 { nx := fun env => R (.dat .non) (outs [.own d, .dat row] env), rt := fun r env => (∀ i, r ≠ .at i) ∧ R r (outs [.own d, .dat row] env) }, rt := fun r env => (∀ i, r ≠ .at i) ∧ R r (outs [.own d, .dat row] env) } (rangeD 0 l.length) env := by
    intro env he
    refine for_ind (Iv := fun items env => ∃ (d' : D) (left told : List D) (x : AV), env = [.own d', .dat row, .own (.lst left), .own (.lst told), x] ∧ Dr d' ∧ left.length = items.length ∧ (told ++ left).Perm l) ?_ ?_ _ _ ⟨d, l, [], .un, he, hd, (range_len _).symm, List.Perm.refl _⟩
    · rintro env ⟨d', left, told, x, rfl, hd', hl, pm⟩
      conv => whnf
      refine ⟨rfl, new_ _, k _ d' ?_ hd'⟩
      have : left = [] := List.length_eq_zero_iff.mp hl
      subst this
      rwa [List.append_nil] at pm
    · rintro z ds env N hN ⟨d', left, told, x, rfl, hd', hl, pm⟩
      rw [List.length_cons] at hl
      have hl2 : told.length + left.length = l.length := by rw [← List.length_append]; exact pm.length_eq
      conv => whnf
      refine ⟨⟨_, rfl⟩, ?_⟩
      conv => whnf
      refine ⟨⟨_, rfl⟩, ?_⟩
      conv => whnf
      refine ⟨trivial, ?_⟩
      conv => whnf
      refine ⟨trivial, ?_⟩
      conv => whnf
      refine use_draw 0 rfl hd' (by omega) (by omega) fun r d2 h1 h2 hd2 => ?_
      have lt : r.toNat < left.length := by omega
      conv => whnf
      refine ⟨trivial, ?_⟩
      conv => whnf
      refine ⟨by omega, ?_⟩
      conv => whnf
      refine ⟨by omega, r.toNat, left[r.toNat]'lt, idx_nat h1 h2, List.getElem?_eq_getElem lt, ?_⟩
      conv => whnf
      refine ⟨trivial, ?_⟩
      conv => whnf
      refine ⟨sz_lt (by omega), ?_⟩
      conv => whnf
      refine hN _ ⟨d2, left.eraseIdx r.toNat, told ++ [left[r.toNat]'lt], _, rfl, hd2, ?_, ?_⟩
      · rw [List.length_eraseIdx_of_lt lt]; omega
      · refine List.Perm.trans ?_ pm
        rw [List.append_assoc]
        refine List.Perm.append_left _ ?_
        exact erase_perm left r.toNat lt
  rcases seq_items hi with rfl | rfl <;>
  · cases hi
    conv => whnf
    refine ⟨Nat.zero_le _, ?_⟩
    conv => whnf
    refine ⟨trivial, ?_⟩
    conv => whnf
    refine ⟨⟨by omega, by omega⟩, ?_⟩
    exact loop _ rfl
theorem use_mixed {env : AEnv} (j : Nat) {d row : D} (l : List D) {R : RV → AEnv → Prop} (e : env[j]? = some (.own d)) (hd : Dr d) (hi : seqOf row = some l) (hz : l.length ≤ 1000000) (k : ∀ l' d', l'.Perm l → Dr d' → R (.new (.lst l')) (env.set j (.own d'))) : callR S_law_mixed [.at j, .dat row] env R :=
  call_lent j [row] e ⟨d, row, l, rfl, hd, hi, hz, fun z d' h1 h2 => k z d' h1 h2⟩
theorem unl_in {α : Type} [DecidableEq α] : ∀ (xs told : List α), ∀ x, x ∈ unl told xs ↔ x ∈ told ∨ x ∈ xs
  | [], told, x => by
    show x ∈ told ↔ _
    simp
  | y :: xs, told, x => by
    show x ∈ unl (if y ∈ told then told else told ++ [y]) xs ↔ _
    rw [unl_in xs]
    by_cases h : y ∈ told
    · rw [if_pos h, List.mem_cons]
      constructor
      · rintro (z | z)
        · exact .inl z
        · exact .inr (.inr z)
      · rintro (z | z | z)
        · exact .inl z
        · rw [z]; exact .inl h
        · exact .inr z
    · rw [if_neg h, List.mem_append, List.mem_singleton, List.mem_cons, or_assoc]
theorem unl_len {α : Type} [DecidableEq α] : ∀ (xs told : List α), (unl told xs).length ≤ told.length + xs.length
  | [], told => by show told.length ≤ _; simp
  | y :: xs, told => by
    show (unl (if y ∈ told then told else told ++ [y]) xs).length ≤ _
    refine Nat.le_trans (unl_len xs _) ?_
    rw [List.length_cons]
    by_cases h : y ∈ told
    · rw [if_pos h]; omega
    · rw [if_neg h, List.length_append, List.length_singleton]; omega
theorem unl_nodup {α : Type} [DecidableEq α] : ∀ (xs told : List α), told.Nodup → (unl told xs).Nodup
  | [], told, h => h
  | y :: xs, told, h => by
    show (unl (if y ∈ told then told else told ++ [y]) xs).Nodup
    refine unl_nodup xs _ ?_
    by_cases m : y ∈ told
    · rw [if_pos m]; exact h
    · rw [if_neg m]
      rw [List.nodup_append]
      refine ⟨h, List.nodup_cons.mpr ⟨by simp, List.nodup_nil⟩, fun a ha b hb e => ?_⟩
      rw [List.mem_singleton] at hb
      rw [hb] at e
      rw [e] at ha
      exact m ha
theorem unl_map {α β : Type} [DecidableEq α] [DecidableEq β] {f : α → β} (inj : ∀ a b, f a = f b → a = b) : ∀ (xs told : List α), unl (told.map f) (xs.map f) = (unl told xs).map f
  | [], told => rfl
  | y :: xs, told => by
    show unl (if f y ∈ told.map f then told.map f else told.map f ++ [f y]) (xs.map f) = (unl (if y ∈ told then told else told ++ [y]) xs).map f
    by_cases h : y ∈ told
    · rw [if_pos h, if_pos (List.mem_map.mpr ⟨y, h, rfl⟩)]
      exact unl_map inj xs told
    · rw [if_neg h, if_neg fun z => by
        obtain ⟨a, ha, e⟩ := List.mem_map.mp z
        rw [inj a y e] at ha
        exact h ha]
      have := unl_map inj xs (told ++ [y])
      rw [List.map_append] at this
      exact this
theorem unl_self {α : Type} [DecidableEq α] : ∀ (xs told : List α), (told ++ xs).Nodup → unl told xs = told ++ xs
  | [], told, _ => (List.append_nil told).symm
  | y :: xs, told, h => by
    have n : y ∉ told := fun z => by
      rw [List.nodup_append] at h
      exact h.2.2 y z y List.mem_cons_self rfl
    show unl (if y ∈ told then told else told ++ [y]) xs = _
    rw [if_neg n, unl_self xs _ (by rw [List.append_assoc]; exact h), List.append_assoc]
    rfl
theorem p_law_unlike : BodyOk 1 3 B_law_unlike a_law_unlike S_law_unlike := by
  rintro _ R ⟨row, l, n, rfl, hi, hz, hn, pl, k⟩
  refine ⟨rfl, ownN (ds := [_]), ?_⟩
  have loop : ∀ env : AEnv, env = [.dat row, .own (.lst []), .un] → forL (agName 2) law_unlike_1_0 { nx := law_unlike_0_2 { nx := fun env => R (.dat .non) (outs [.dat row] env), rt := fun r env => (∀ i, r ≠ .at i) ∧ R r (outs [.dat row] env) }, rt := fun r env => (∀ i, r ≠ .at i) ∧ R r (outs [.dat row] env) } l env := by
    intro env he
    refine for_ind (Iv := fun items env => ∃ (told : List D) (x : AV), env = [.dat row, .own (.lst told), x] ∧ unl told items = unl [] l ∧ (∀ y ∈ told, y ∈ l) ∧ (∀ y ∈ items, y ∈ l) ∧ told.length + items.length ≤ l.length) ?_ ?_ _ _ ⟨[], .un, he, rfl, (fun y h => nomatch h), (fun y h => h), by simp⟩
    · rintro env ⟨told, x, rfl, e, _, _, _⟩
      have e : told = unl [] l := e
      subst e
      conv => whnf
      exact ⟨rfl, new_ _, k⟩
    · rintro z ds env N hN ⟨told, x, rfl, e, ti, ii, lz⟩
      rw [List.length_cons] at lz
      have hz' := ii z List.mem_cons_self
      have pz : Pl n z := pl z hz'
      have pt : ∀ y ∈ told, Pl n y := fun y h => pl y (ti y h)
      have e : unl (if z ∈ told then told else told ++ [z]) ds = unl [] l := e
      have ii2 : ∀ y ∈ ds, y ∈ l := fun y h => ii y (List.mem_cons_of_mem _ h)
      conv => whnf
      refine notin_lst pz pt ?_
      conv => whnf
      refine brI (fun h => ?_) (fun h => ?_)
      · have nin : ¬ z ∈ told := by simpa using h
        rw [if_neg nin] at e
        conv => whnf
        refine ⟨⟨_, rfl⟩, ?_⟩
        conv => whnf
        refine ⟨trivial, ?_⟩
        conv => whnf
        refine ⟨sz_lt (by omega), ?_⟩
        conv => whnf
        refine hN _ ⟨told ++ [z], _, rfl, e, fun y hy => ?_, ii2, by rw [List.length_append, List.length_singleton]; omega⟩
        rcases List.mem_append.mp hy with q | q
        · exact ti y q
        · rw [List.mem_singleton] at q
          rw [q]; exact hz'
      · conv => whnf
        have hin : z ∈ told := by simpa using h
        rw [if_pos hin] at e
        exact hN _ ⟨told, _, rfl, e, ti, ii2, by omega⟩
  rcases seq_items hi with rfl | rfl <;>
  · cases hi
    conv => whnf
    refine ⟨Nat.zero_le _, ?_⟩
    conv => whnf
    intro hl
    exact loop _ rfl
theorem use_unlike {env : AEnv} {row : D} (l : List D) (n : Nat) {R : RV → AEnv → Prop} (hi : seqOf row = some l) (hz : l.length ≤ 1000000) (hn : n ≤ 20) (pl : ∀ x ∈ l, Pl n x) (k : R (.new (.lst (unl [] l))) env) : callR S_law_unlike [.dat row] env R :=
  call_dats [row] ⟨row, l, n, rfl, hi, hz, hn, pl, k⟩
end AL
namespace AL
open PySem L2
/-! P4: variables. -/
/-! variables -/
theorem addVars_cons (told : List Int) (t : Int) (ts : List Int) : addVars told (t :: ts) = addVars (if t < 0 ∧ t ∉ told then told ++ [t] else told) ts := rfl
theorem addVars_len (told ts : List Int) : (addVars told ts).length ≤ told.length + ts.length := by
  induction ts generalizing told with
  | nil => exact Nat.le_refl _
  | cons t ts ih =>
    rw [addVars_cons, List.length_cons]
    by_cases c : t < 0 ∧ t ∉ told
    · rw [if_pos c]
      have := ih (told ++ [t])
      rw [List.length_append, List.length_singleton] at this
      omega
    · rw [if_neg c]
      have := ih told
      omega
theorem vars_inner {A : AEnds} {x0 x2 : AV} (told ts : List Int) (x3 : AV) (hz : told.length + ts.length ≤ 2000000) (h : ∀ x, A.nx [x0, .own (.lst ((addVars told ts).map D.int)), x2, x]) :
    forL (agName 3) law_variables_2_0 A (ts.map D.int) [x0, .own (.lst (told.map D.int)), x2, x3] := by
  refine for_ind (Iv := fun items env => ∃ (tl us : List Int) (x : AV), items = us.map D.int ∧ env = [x0, .own (.lst (tl.map D.int)), x2, x] ∧ addVars tl us = addVars told ts ∧ tl.length + us.length ≤ 2000000) ?_ ?_ _ _ ⟨told, ts, x3, rfl, rfl, rfl, hz⟩
  · rintro env ⟨tl, us, x, e, rfl, ea, hz2⟩
    cases us with
    | cons u r => cases e
    | nil =>
      have e0 : addVars tl [] = tl := rfl
      rw [e0] at ea
      rw [ea]
      exact h x
  · rintro d ds env M hM ⟨tl, us, x, e, rfl, ea, hz2⟩
    obtain ⟨t, r, rfl, rfl, rfl⟩ := map_cons_inv e.symm
    rw [List.length_cons] at hz2
    have pt : ∀ y ∈ tl.map D.int, Pl 0 y := fun y hy => by
      obtain ⟨i, _, rfl⟩ := List.mem_map.mp hy
      exact .int 0 i
    have mem : (D.int t ∈ tl.map D.int) ↔ t ∈ tl := by
      constructor
      · intro hm
        obtain ⟨i, hi, e⟩ := List.mem_map.mp hm
        cases e
        exact hi
      · exact fun hm => List.mem_map.mpr ⟨t, hm, rfl⟩
    have skip : ¬ (t < 0 ∧ t ∉ tl) → M [x0, .own (.lst (tl.map D.int)), x2, .dat (.int t)] := fun n => by
      refine hM _ ⟨tl, r, _, rfl, rfl, ?_, by omega⟩
      rw [← ea]
      rw [addVars_cons, if_neg n]
    conv => whnf
    refine brI (fun h => ?_) (fun h => ?_)
    · have lt : t < 0 := by simpa using h
      conv => whnf
      refine notin_lst (.int 0 t) pt ?_
      conv => whnf
      refine brI (fun h2 => ?_) (fun h2 => ?_)
      · have ni : t ∉ tl := fun z => by
          have := mem.mpr z
          simp [this] at h2
        conv => whnf
        refine ⟨⟨_, rfl⟩, ?_⟩
        conv => whnf
        refine ⟨trivial, ?_⟩
        conv => whnf
        refine ⟨by rw [List.length_map]; exact sz_lt (by omega), ?_⟩
        conv => whnf
        refine hM _ ⟨tl ++ [t], r, _, rfl, by rw [List.map_append]; rfl, ?_, by rw [List.length_append, List.length_singleton]; omega⟩
        rw [← ea]
        rw [addVars_cons, if_pos ⟨lt, ni⟩]
      · have hin : D.int t ∈ tl.map D.int := by simpa using h2
        conv => whnf
        exact skip fun z => z.2 (mem.mp hin)
    · conv => whnf
      rw [brP_false]
      have ge : ¬ t < 0 := by simpa using h
      exact skip fun z => ge z.1
theorem vars_outer {A : AEnds} {x0 x2 x3 : AV} (rs : List Row) (ok : RowsOk 18 rs) (h : ∀ x y, A.nx [x0, .own (.lst ((vars rs).map D.int)), x, y]) :
    forL (agName 2) law_variables_1_0 A (rs.map rowD) [x0, .own (.lst []), x2, x3] := by
  refine for_ind (Iv := fun items env => ∃ (tl : List Int) (us : List Row) (x y : AV), items = us.map rowD ∧ env = [x0, .own (.lst (tl.map D.int)), x, y] ∧ varsFrom tl us = vars rs ∧ (∀ r ∈ us, RowOk r) ∧ tl.length + 4 * us.length ≤ 72) ?_ ?_ _ _ ⟨[], rs, x2, x3, rfl, rfl, rfl, ok.2, by have := ok.1; simp only [List.length_nil]; omega⟩
  · rintro env ⟨tl, us, x, y, e, rfl, ea, _, hz2⟩
    cases us with
    | cons u r => cases e
    | nil =>
      have e0 : varsFrom tl [] = tl := rfl
      rw [e0] at ea
      rw [ea]
      exact h x y
  · rintro d ds env M hM ⟨tl, us, x, y, e, rfl, ea, hok, hz2⟩
    obtain ⟨r, q, rfl, rfl, rfl⟩ := map_cons_inv e.symm
    rw [List.length_cons] at hz2
    have rok := hok r List.mem_cons_self
    have al := addVars_len tl r.2
    have l100 := rok.few
    conv => whnf
    refine ix_tup (by omega) rfl ?_
    conv => whnf
    intro _
    refine vars_inner tl r.2 y (by omega) fun x => hM _ ⟨addVars tl r.2, q, _, _, rfl, rfl, ?_, fun z hz => hok z (List.mem_cons_of_mem _ hz), by omega⟩
    rw [← ea]
    rfl
theorem own1 {x : AV} {B : Nat → Bool} (h : B 0 = true) : ∀ (i : Nat) (e : D), [x][i]? = some (.own e) → B i = true
  | 0, _, _ => h
  | i + 1, e, q => by cases q
theorem p_law_variables : BodyOk 1 4 B_law_variables a_law_variables S_law_variables := by
  rintro _ R ⟨rs, rfl, ok, k⟩
  refine ⟨rfl, ownN (ds := [_]), ?_⟩
  conv => whnf
  refine ⟨Nat.zero_le _, ?_⟩
  conv => whnf
  intro _
  refine vars_outer rs ok fun x y => ?_
  conv => whnf
  exact ⟨rfl, new_ _, k⟩
theorem use_variables {env : AEnv} (rs : List Row) {R : RV → AEnv → Prop} (ok : RowsOk 18 rs) (k : R (.new (.lst ((vars rs).map D.int))) env) : callR S_law_variables [.dat (rowsD rs)] env R :=
  call_dats [rowsD rs] ⟨rs, rfl, ok, k⟩
end AL
namespace AL
open PySem L2
/-! P5: the object, its fields; variables; lists -/
section
variable {C : Cls} {t : Tree}
theorem fldD_eq {C : Addr} {f : Str} {ns : List Str} {l : List D} : fldD C f (.obj C ns l) = (ns.zip l).lookup f := if_pos rfl
theorem fld_rows : fldD C.Body "rows" (objD C t) = some (rowsD t.rows) := by
  unfold objD
  rw [fldD_eq]
  rfl
theorem n_rn : (("nots" : Str) == "rows") = false := by decide +kernel
theorem n_sr : (("spans" : Str) == "rows") = false := by decide +kernel
theorem n_sn : (("spans" : Str) == "nots") = false := by decide +kernel
theorem n_wr : (("wide" : Str) == "rows") = false := by decide +kernel
theorem n_wn : (("wide" : Str) == "nots") = false := by decide +kernel
theorem n_ws : (("wide" : Str) == "spans") = false := by decide +kernel
theorem fld_nots : fldD C.Body "nots" (objD C t) = some (.tup []) := by
  unfold objD
  rw [fldD_eq]
  simp [List.zip, List.zipWith, List.lookup, n_rn]
theorem fld_spans : fldD C.Body "spans" (objD C t) = some (.dic (t.spans.map fun s => D.int s.1) (t.spans.map fun s => D.tup [.int s.2.1, .int s.2.2])) := by
  unfold objD
  rw [fldD_eq]
  simp [List.zip, List.zipWith, List.lookup, n_sr, n_sn, celD]
theorem fld_wide : fldD C.Body "wide" (objD C t) = some (tmD t.wide) := by
  unfold objD
  rw [fldD_eq]
  simp [List.zip, List.zipWith, List.lookup, n_wr, n_wn, n_ws]
end
theorem sz2 {a b : D} : [a, b].length ≤ sizeLine := sz_le (by simp)
theorem sz3 {a b c : D} : [a, b, c].length ≤ sizeLine := sz_le (by simp)
theorem sz4 {a b c d : D} : [a, b, c, d].length ≤ sizeLine := sz_le (by simp)
theorem m_rn : ¬ ("rows" : Str) = "nots" := by decide +kernel
theorem m_rs : ¬ ("rows" : Str) = "spans" := by decide +kernel
theorem m_ns : ¬ ("nots" : Str) = "spans" := by decide +kernel
theorem m_rw : ¬ ("rows" : Str) = "wide" := by decide +kernel
theorem m_nw : ¬ ("nots" : Str) = "wide" := by decide +kernel
theorem m_sw : ¬ ("spans" : Str) = "wide" := by decide +kernel
theorem oPut_len (f : Str) (d : D) : ∀ (ns : List Str) (l : List D), (oPut f d ns l).1.length ≤ ns.length + 1
  | [], _ => by simp [oPut]
  | g :: ns, [] => by simp [oPut]
  | g :: ns, u :: l => by
    unfold oPut
    split
    · simp
    · have := oPut_len f d ns l
      simpa using this
theorem p_Body_init {C : Cls} : BodyOk 5 5 B_Body_init (a_Body_init C) (S_Body_init C) := by
  rintro _ R ⟨a, b, c, e, rfl, k⟩
  refine ⟨rfl, own0 (ds := [_, _, _, _]) rfl, ?_⟩
  conv => whnf
  have e1 : oPut "rows" a [] [] = ((["rows"] : List Str), [a]) := rfl
  have e2 : oPut "nots" b ["rows"] [a] = ((["rows", "nots"] : List Str), [a, b]) := by simp [oPut, m_rn]
  have e3 : oPut "spans" c ["rows", "nots"] [a, b] = ((["rows", "nots", "spans"] : List Str), [a, b, c]) := by simp [oPut, m_rs, m_ns]
  have e4 : oPut "wide" e ["rows", "nots", "spans"] [a, b, c] = ((["rows", "nots", "spans", "wide"] : List Str), [a, b, c, e]) := by simp [oPut, m_rw, m_nw, m_sw]
  refine ⟨rfl, by decide, ?_⟩
  rw [e1]
  conv => whnf
  refine ⟨rfl, by simp, ?_⟩
  rw [e2]
  conv => whnf
  refine ⟨rfl, by simp, ?_⟩
  rw [e3]
  conv => whnf
  refine ⟨rfl, by simp, ?_⟩
  rw [e4]
  exact k
theorem get_spans {x : Int} : ∀ (us : List Span), dGet (us.map fun s => D.int s.1) (us.map fun s => D.tup [.int s.2.1, .int s.2.2]) (.int x) = (us.find? fun s => s.1 == x).map fun s => D.tup [.int s.2.1, .int s.2.2]
  | [] => rfl
  | s :: us => by
    simp only [List.map_cons, dGet, List.find?_cons]
    by_cases e : s.1 = x
    · have e3 : (s.1 == x) = true := by simpa using e
      rw [e3, if_pos (by rw [e])]
      rfl
    · have e3 : (s.1 == x) = false := by simpa using e
      rw [e3, if_neg (fun z => e (by injection z))]
      exact get_spans us
def intOf : D → Int
  | .int i => i
  | _ => 0
theorem tmD_pl (ts : List Int) : Pl 1 (tmD ts) := .tup fun d h => by
  obtain ⟨i, _, rfl⟩ := List.mem_map.mp h
  exact .int 0 i
theorem rowD_pl {r : Row} (h : PyData.strOk r.1 = true) : Pl 2 (rowD r) := .tup fun d h' => by
  simp only [List.mem_cons, List.not_mem_nil, or_false] at h'
  rcases h' with e | e
  · rw [e]; exact .str 1 h
  · rw [e]; exact tmD_pl _
theorem rows_pl {n : Nat} {rs : List Row} (ok : RowsOk n rs) : ∀ x ∈ rs.map rowD, Pl 2 x := fun x h => by
  obtain ⟨r, hr, rfl⟩ := List.mem_map.mp h
  exact rowD_pl (ok.2 r hr).nm
theorem map_inj {xs ys : List Int} : xs.map D.int = ys.map D.int ↔ xs = ys := by
  constructor
  · intro h
    have := congrArg (List.map intOf) h
    rw [List.map_map, List.map_map] at this
    have e : (intOf ∘ D.int) = id := rfl
    rwa [e, List.map_id, List.map_id] at this
  · intro h; rw [h]
theorem tmD_inj {xs ys : List Int} : tmD xs = tmD ys ↔ xs = ys := by
  unfold tmD
  rw [D.tup.injEq]
  exact map_inj
theorem rowD_inj {r q : Row} : rowD r = rowD q ↔ r = q := by
  unfold rowD
  rw [D.tup.injEq, List.cons.injEq, List.cons.injEq, D.str.injEq, tmD_inj]
  constructor
  · rintro ⟨a, b, _⟩
    exact Prod.ext a b
  · intro h; rw [h]; exact ⟨rfl, rfl, rfl⟩
theorem row_mem {r : Row} {rs : List Row} : rowD r ∈ rs.map rowD ↔ r ∈ rs := by
  rw [List.mem_map]
  constructor
  · rintro ⟨q, h, e⟩
    rw [← rowD_inj.mp e]; exact h
  · exact fun h => ⟨r, h, rfl⟩
theorem addVars_nodup : ∀ (ts : List Int) {told : List Int}, told.Nodup → (addVars told ts).Nodup
  | [], told, h => h
  | t :: ts, told, h => by
    rw [addVars_cons]
    by_cases c : t < 0 ∧ t ∉ told
    · rw [if_pos c]
      refine addVars_nodup ts ?_
      rw [List.nodup_append]
      exact ⟨h, List.nodup_cons.mpr ⟨by simp, List.nodup_nil⟩, fun a ha b hb e => by
        rw [List.mem_singleton] at hb
        rw [e, hb] at ha
        exact c.2 ha⟩
    · rw [if_neg c]
      exact addVars_nodup ts h
theorem varsFrom_nodup : ∀ (rs : List Row) {told : List Int}, told.Nodup → (varsFrom told rs).Nodup
  | [], told, h => h
  | r :: rs, told, h => varsFrom_nodup rs (addVars_nodup r.2 h)
theorem vars_nodup (rs : List Row) : (vars rs).Nodup := varsFrom_nodup rs List.nodup_nil
theorem addVars_neg : ∀ (ts : List Int) {told : List Int}, (∀ x ∈ told, x < 0) → ∀ x ∈ addVars told ts, x < 0
  | [], told, h => h
  | t :: ts, told, h => by
    rw [addVars_cons]
    by_cases c : t < 0 ∧ t ∉ told
    · rw [if_pos c]
      refine addVars_neg ts fun x hx => ?_
      rcases List.mem_append.mp hx with q | q
      · exact h x q
      · rw [List.mem_singleton] at q
        rw [q]; exact c.1
    · rw [if_neg c]
      exact addVars_neg ts h
theorem varsFrom_neg : ∀ (rs : List Row) {told : List Int}, (∀ x ∈ told, x < 0) → ∀ x ∈ varsFrom told rs, x < 0
  | [], told, h => h
  | r :: rs, told, h => varsFrom_neg rs (addVars_neg r.2 h)
theorem vars_neg (rs : List Row) : ∀ x ∈ vars rs, x < 0 := varsFrom_neg rs fun x h => by cases h
theorem addVars_sub : ∀ (ts : List Int) {told : List Int}, ∀ x ∈ told, x ∈ addVars told ts
  | [], told, x, h => h
  | t :: ts, told, x, h => by
    rw [addVars_cons]
    by_cases c : t < 0 ∧ t ∉ told
    · rw [if_pos c]
      exact addVars_sub ts x (List.mem_append.mpr (.inl h))
    · rw [if_neg c]
      exact addVars_sub ts x h
theorem addVars_has : ∀ (ts : List Int) {told : List Int}, Has (addVars told ts) ts
  | [], told => fun x h => by cases h
  | t :: ts, told => fun x h lt => by
    rw [addVars_cons]
    rcases List.mem_cons.mp h with e | e
    · refine addVars_sub ts x ?_
      rw [e]
      rw [e] at lt
      by_cases c : t < 0 ∧ t ∉ told
      · rw [if_pos c]; simp
      · rw [if_neg c]
        exact Classical.byContradiction fun z => c ⟨lt, z⟩
    · exact addVars_has ts x e lt
theorem varsFrom_sub : ∀ (rs : List Row) {told : List Int}, ∀ x ∈ told, x ∈ varsFrom told rs
  | [], told, x, h => h
  | r :: rs, told, x, h => varsFrom_sub rs x (addVars_sub r.2 x h)
theorem varsFrom_has : ∀ (rs : List Row) {told : List Int}, ∀ r ∈ rs, Has (varsFrom told rs) r.2
  | [], told, r, h => by cases h
  | q :: rs, told, r, h => by
    rcases List.mem_cons.mp h with e | e
    · rw [e]
      exact fun x hx lt => varsFrom_sub rs x (addVars_has q.2 x hx lt)
    · exact varsFrom_has rs r e
theorem vars_has (rs : List Row) : ∀ r ∈ rs, Has (vars rs) r.2 := varsFrom_has rs
theorem varsFrom_len : ∀ (rs : List Row) {told : List Int}, (∀ r ∈ rs, RowOk r) → (varsFrom told rs).length ≤ told.length + 4 * rs.length
  | [], told, _ => by show told.length ≤ _; omega
  | r :: rs, told, h => by
    have h1 := addVars_len told r.2
    have h2 := varsFrom_len rs (told := addVars told r.2) fun q hq => h q (List.mem_cons_of_mem _ hq)
    have h3 := (h r List.mem_cons_self).few
    show (varsFrom (addVars told r.2) rs).length ≤ _
    rw [List.length_cons]
    omega
theorem vars_len {n : Nat} {rs : List Row} (ok : RowsOk n rs) : (vars rs).length ≤ 4 * n := by
  have := varsFrom_len rs (told := []) ok.2
  have h := ok.1
  unfold vars
  rw [List.length_nil] at this
  omega
theorem addVars_from : ∀ (ts : List Int) {told : List Int}, ∀ x ∈ addVars told ts, x ∈ told ∨ x ∈ ts
  | [], told, x, h => .inl h
  | t :: ts, told, x, h => by
    rw [addVars_cons] at h
    by_cases c : t < 0 ∧ t ∉ told
    · rw [if_pos c] at h
      rcases addVars_from ts x h with z | z
      · rcases List.mem_append.mp z with z | z
        · exact .inl z
        · exact .inr (by rw [List.mem_singleton.mp z]; exact List.mem_cons_self)
      · exact .inr (List.mem_cons_of_mem _ z)
    · rw [if_neg c] at h
      exact (addVars_from ts x h).imp id (List.mem_cons_of_mem _)
theorem varsFrom_ge : ∀ (rs : List Row) {told : List Int}, (∀ r ∈ rs, RowOk r) → (∀ x ∈ told, -67 ≤ x) → ∀ x ∈ varsFrom told rs, -67 ≤ x
  | [], told, _, h => h
  | r :: rs, told, ok, h => varsFrom_ge rs (fun q hq => ok q (List.mem_cons_of_mem _ hq)) fun x hx => by
    rcases addVars_from r.2 x hx with z | z
    · exact h x z
    · exact ((ok r List.mem_cons_self).tm x z).1
theorem vars_ok {rs : List Row} (ok : RowsOk 16 rs) : VarsOk (vars rs) := ⟨vars_len ok, vars_nodup rs, fun k hk => ⟨varsFrom_ge rs ok.2 (fun x h => by cases h) k hk, vars_neg rs k hk⟩⟩
theorem set_dic {ks vs : List D} {x v : D} {env : AEnv} {j : Nat} {N : AEnv → Prop} (e : env[j]? = some (.own (.dic ks vs))) (hk : isKey x = true) (nx : x ∉ ks) (hz : ks.length < 1000000) (h : N (env.set j (.own (.dic (ks ++ [x]) (vs ++ [v]))))) : setAt j x v env N := by
  unfold setAt
  rw [e]
  refine ⟨hk, sz_lt (by omega), ?_⟩
  unfold dPutK dPutW
  rw [if_neg nx, if_neg nx]
  exact h
theorem sub_map {α β : Type} {f : α → β} : ∀ {xs : List α} {l : List β}, l.Sublist (xs.map f) → ∃ ys : List α, l = ys.map f ∧ ys.Sublist xs
  | [], l, h => by
    have := List.sublist_nil.mp h
    exact ⟨[], this, List.Sublist.refl _⟩
  | x :: xs, l, h => by
    cases h with
    | cons _ h =>
      obtain ⟨ys, e, s⟩ := sub_map h
      exact ⟨ys, e, s.cons _⟩
    | cons_cons _ h =>
      obtain ⟨ys, e, s⟩ := sub_map h
      exact ⟨x :: ys, by rw [e]; rfl, s.cons_cons _⟩
theorem outs_ints {P : Int → Prop} {S : D → Option D → Prop} (h : ∀ y z, S y (some z) → ∃ t, P t ∧ z = .int t) : ∀ {ds zs : List D}, Outs S ds zs → ∃ ts : List Int, zs = ts.map D.int ∧ (∀ t ∈ ts, P t) ∧ ts.length ≤ ds.length
  | _, _, .nil => ⟨[], rfl, (fun y h => nomatch h), Nat.le_refl _⟩
  | _, _, .yes s o => by
    obtain ⟨ts, rfl, ok, hl⟩ := outs_ints h o
    obtain ⟨t, ht, rfl⟩ := h _ _ s
    refine ⟨t :: ts, rfl, fun y hy => ?_, Nat.succ_le_succ hl⟩
    rcases List.mem_cons.mp hy with e | e
    · rw [e]; exact ht
    · exact ok y e
  | _, _, .no s o => by
    obtain ⟨ts, e, ok, hl⟩ := outs_ints h o
    exact ⟨ts, e, ok, Nat.le_succ_of_le hl⟩
theorem outs_ex {α : Type} {f : α → D} {P : α → Prop} {S : D → Option D → Prop} (h : ∀ y oz, S y oz → ∃ a, P a ∧ oz = some (f a)) : ∀ {ds zs : List D}, Outs S ds zs → ∃ as : List α, zs = as.map f ∧ (∀ a ∈ as, P a) ∧ as.length = ds.length
  | _, _, .nil => ⟨[], rfl, (fun y h => nomatch h), rfl⟩
  | _, _, .yes s o => by
    obtain ⟨ts, rfl, ok, hl⟩ := outs_ex h o
    obtain ⟨t, ht, e⟩ := h _ _ s
    cases e
    refine ⟨t :: ts, rfl, fun y hy => ?_, by simp [hl]⟩
    rcases List.mem_cons.mp hy with e | e
    · rw [e]; exact ht
    · exact ok y e
  | _, _, .no s o => by
    obtain ⟨t, ht, e⟩ := h _ _ s
    cases e
theorem perm_ex {α : Type} {f : α → D} {l m : List D} (p : l.Perm m) : ∀ xs : List α, m = xs.map f → ∃ ys : List α, l = ys.map f ∧ ys.Perm xs := by
  induction p with
  | nil =>
    intro xs e
    cases xs with
    | nil => exact ⟨[], rfl, .nil⟩
    | cons a r => cases e
  | cons x p ih =>
    intro xs e
    obtain ⟨a, r, rfl, rfl, rfl⟩ := map_cons_inv e.symm
    obtain ⟨ys, rfl, q⟩ := ih r rfl
    exact ⟨a :: ys, rfl, q.cons a⟩
  | swap x y l =>
    intro xs e
    obtain ⟨a, r, rfl, rfl, e2⟩ := map_cons_inv e.symm
    obtain ⟨b, r, rfl, rfl, rfl⟩ := map_cons_inv e2
    exact ⟨b :: a :: r, rfl, .swap a b r⟩
  | trans p q ih1 ih2 =>
    intro xs e
    obtain ⟨ys, rfl, p2⟩ := ih2 xs e
    obtain ⟨zs, rfl, p1⟩ := ih1 ys rfl
    exact ⟨zs, rfl, p1.trans p2⟩
theorem sz1 {a : D} : [a].length ≤ sizeLine := sz_le (by simp)
theorem range_D (n : Nat) : rangeD 0 n = (List.range' 0 n).map fun j : Nat => D.int (0 + (j : Int)) := by
  unfold rangeD
  rw [List.range_eq_range']
end AL
namespace AL
open PySem L2
/-! P6: names -/
theorem strOk_add {x y : Str} (h1 : PyData.strOk x = true) (h2 : PyData.strOk y = true) : PyData.strOk (x ++ y) = true := by
  show (x.cps ++ y.cps).all _ = true
  rw [Array.all_append]
  unfold PyData.strOk at h1 h2
  rw [h1, h2]
  rfl
theorem len_add (x y : Str) : (x ++ y).length = x.length + y.length := by
  show (x.cps ++ y.cps).size = _
  rw [Array.size_append]
  rfl
structure SgOk (y : Str) : Prop where
  ok : PyData.strOk y = true
  one : y.length = 1
  az : ∀ c ∈ y.cps.toList, 97 ≤ c ∧ c ≤ 122
theorem cps_add (x y : Str) : (x ++ y).cps.toList = x.cps.toList ++ y.cps.toList := by
  show (x.cps ++ y.cps).toList = _
  rw [Array.toList_append]
theorem join_ok : ∀ {ys : List Str}, (∀ y ∈ ys, SgOk y) → PyData.strOk (Txt.join "" ys) = true ∧ (Txt.join "" ys).length = ys.length ∧ ∀ c ∈ (Txt.join "" ys).cps.toList, 97 ≤ c ∧ c ≤ 122 := by
  intro ys h
  have e : Txt.join "" ys = Str.join "" ys := StrLaws.glued_eq_join "" ys
  rw [e]
  induction ys with
  | nil => exact ⟨by decide +kernel, by decide +kernel, by decide +kernel⟩
  | cons a r ih =>
    cases r with
    | nil => exact ⟨(h a List.mem_cons_self).ok, (h a List.mem_cons_self).one, (h a List.mem_cons_self).az⟩
    | cons b q =>
      have ih := ih (fun y hy => h y (List.mem_cons_of_mem _ hy)) (StrLaws.glued_eq_join "" (b :: q))
      obtain ⟨a1, a2, a3⟩ := h a List.mem_cons_self
      show PyData.strOk (a ++ "" ++ Str.join "" (b :: q)) = true ∧ (a ++ "" ++ Str.join "" (b :: q)).length = _ ∧ ∀ c ∈ (a ++ "" ++ Str.join "" (b :: q)).cps.toList, 97 ≤ c ∧ c ≤ 122
      have e0 : ("" : Str).length = 0 := by decide +kernel
      have e1 : ("" : Str).cps.toList = [] := by decide +kernel
      refine ⟨strOk_add (strOk_add a1 (by decide +kernel)) ih.1, ?_, fun c hc => ?_⟩
      · rw [len_add, len_add, ih.2.1, a2, e0]
        simp only [List.length_cons]
        omega
      · rw [cps_add, cps_add, e1, List.append_nil] at hc
        rcases List.mem_append.mp hc with z | z
        · exact a3 c z
        · exact ih.2.2 c z
def letD : Str := "abcdefghijklmnopqrstuvwxyz"
theorem let_len : letD.cps.toList.length = 26 := by decide +kernel
theorem let_ok : ∀ c ∈ letD.cps.toList, PyData.strOk ⟨#[c]⟩ = true ∧ 97 ≤ c ∧ c ≤ 122 := by decide +kernel
theorem sg_let {c : Nat} (h : c ∈ letD.cps.toList) : SgOk ⟨#[c]⟩ := ⟨(let_ok c h).1, rfl, fun z hz => by
  have : z = c := by simpa using hz
  rw [this]
  exact (let_ok c h).2⟩
theorem outs_strs {S : D → Option D → Prop} (h : ∀ y z, S y (some z) → ∃ c ∈ letD.cps.toList, z = .str ⟨#[c]⟩) : ∀ {ds zs : List D}, Outs S ds zs → ∃ ys : List Str, zs = ys.map D.str ∧ (∀ y ∈ ys, SgOk y) ∧ ys.length ≤ ds.length
  | _, _, .nil => ⟨[], rfl, (fun y h => nomatch h), Nat.le_refl _⟩
  | _, _, .yes s o => by
    obtain ⟨ys, rfl, ok, hl⟩ := outs_strs h o
    obtain ⟨c, hc, rfl⟩ := h _ _ s
    refine ⟨⟨#[c]⟩ :: ys, rfl, fun y hy => ?_, Nat.succ_le_succ hl⟩
    rcases List.mem_cons.mp hy with e | e
    · rw [e]; exact sg_let hc
    · exact ok y e
  | _, _, .no s o => by
    obtain ⟨ys, e, ok, hl⟩ := outs_strs h o
    exact ⟨ys, e, ok, Nat.le_succ_of_le hl⟩
theorem sum_ones : ∀ {ys : List Str}, (∀ y ∈ ys, SgOk y) → (ys.map (·.length)).sum = ys.length
  | [], _ => rfl
  | y :: ys, h => by
    rw [List.map_cons, List.sum_cons, sum_ones fun z hz => h z (List.mem_cons_of_mem _ hz), (h y List.mem_cons_self).one, List.length_cons]
    omega
theorem nm_made {ys : List Str} (h : ∀ y ∈ ys, SgOk y) (hl : ys.length ≤ 7) {c : Nat} (hc : c ∈ letD.cps.toList) : NmOk (Txt.join "" ys ++ "q" ++ ⟨#[c]⟩) := by
  obtain ⟨a, b, d⟩ := join_ok h
  have eq : ("q" : Str).cps.toList = [113] := by decide +kernel
  have ec : (Txt.join "" ys ++ "q" ++ ⟨#[c]⟩).cps.toList = (Txt.join "" ys).cps.toList ++ [113] ++ [c] := by rw [cps_add, cps_add, eq]
  have el : (Txt.join "" ys).cps.toList.length = ys.length := by rw [Array.length_toList]; exact b
  refine ⟨strOk_add (strOk_add a (by decide +kernel)) (let_ok c hc).1, fun z hz => ?_, ?_, ?_⟩
  · rw [ec, List.mem_append, List.mem_append, List.mem_singleton, List.mem_singleton] at hz
    rcases hz with (z1 | z1) | z1
    · exact d z z1
    · rw [z1]; omega
    · rw [z1]; exact (let_ok c hc).2
  · rw [ec, List.length_append, List.length_append, el]
    simp only [List.length_singleton]
    omega
  · rw [ec]; simp
def lastC (s : Str) : Option Nat := s.cps.toList.getLast?
theorem last_add (x : Str) (c : Nat) : lastC (x ++ ⟨#[c]⟩) = some c := by
  show (x.cps ++ #[c]).toList.getLast? = some c
  rw [Array.toList_append]
  exact List.getLast?_concat
theorem let_nd : letD.cps.toList.Nodup := by decide +kernel
theorem p_law_names : BodyOk 2 7 B_law_names a_law_names S_law_names := by
  rintro _ R ⟨d, many, rfl, hd, h0, h9, k⟩
  refine ⟨rfl, own0 (ds := [_]) rfl, ?_⟩
  conv => whnf
  repeat (refine ⟨trivial, ?_⟩; conv => whnf)
  refine ⟨Nat.zero_le _, ?_⟩
  conv => whnf
  repeat (refine ⟨trivial, ?_⟩; conv => whnf)
  refine ⟨⟨by omega, by omega⟩, ?_⟩
  rw [range_D]
  refine for_ind (Iv := fun items env => ∃ (d' : D) (ns : List Str) (left : Nat) (x4 x5 : AV), items = (List.range' ns.length left).map (fun j : Nat => D.int (0 + (j : Int))) ∧ env = [.own d', .dat (.int many), .dat (.str letD), .own (.lst (ns.map D.str)), x4, x5, .un] ∧ Dr d' ∧ ns.length + left = many.toNat ∧ (∀ x ∈ ns, NmOk x) ∧ ns.map lastC = (letD.cps.toList.take ns.length).map some) ?_ ?_ _ _ ⟨d, [], many.toNat, .un, .un, rfl, rfl, hd, (by simp), (fun x h => nomatch h), rfl⟩
  · rintro env ⟨d', ns, left, x4, x5, e, rfl, hd', hl, ok, lc⟩
    have l0 : left = 0 := by
      have := congrArg List.length e
      rw [List.length_map, List.length_range'] at this
      exact this.symm
    have nd : ns.Nodup := by
      have h : (ns.map lastC).Nodup := by
        rw [lc]
        exact List.Pairwise.map some (fun a b h e => h (Option.some.inj e)) (let_nd.sublist (List.take_sublist _ _))
      exact List.Pairwise.of_map lastC (fun _ _ hne e => hne (congrArg lastC e)) h
    conv => whnf
    repeat (refine ⟨trivial, ?_⟩; conv => whnf)
    exact ⟨rfl, new_ _, k ns d' (by omega) ok nd hd'⟩
  · rintro y ds env M hM ⟨d', ns, left, x4, x5, e, rfl, hd', hl, ok, lc⟩
    obtain ⟨lf, rfl⟩ : ∃ lf, left = lf + 1 := by
      cases left with
      | zero => cases e
      | succ n => exact ⟨n, rfl⟩
    rw [List.range'_succ, List.map_cons] at e
    injection e with e1 e2
    subst e1
    subst e2
    have n26 : ns.length < 26 := by omega
    conv => whnf
    repeat (refine ⟨trivial, ?_⟩; conv => whnf)
    refine use_draw 0 rfl hd' (by omega) (by omega) fun r d2 h1 h2 hd2 => ?_
    conv => whnf
    repeat (refine ⟨trivial, ?_⟩; conv => whnf)
    refine ⟨⟨by omega, by omega⟩, ?_⟩
    refine ⟨noOwn_one (x := .un) rfl (fun e z => by cases z), sz_le (by rw [range_len]; omega), ?_⟩
    refine lc_ind (Ev := fun env => ∃ d3, Dr d3 ∧ env = [.own d3, .dat (.int many), .dat (.str letD), .own (.lst (ns.map D.str)), .dat (.int (0 + (ns.length : Int))), x5, .un]) (Stp := fun y oz => ∀ z, oz = some z → ∃ c ∈ letD.cps.toList, z = .str ⟨#[c]⟩) _ ?_ _ _ ⟨d2, hd2, rfl⟩ ?_
    · rintro y hy _ K ⟨d3, hd3, rfl⟩ hK
      conv => whnf
      repeat (refine ⟨trivial, ?_⟩; conv => whnf)
      rw [brP_true]
      conv => whnf
      repeat (refine ⟨trivial, ?_⟩; conv => whnf)
      refine use_pick 0 (letD.cps.toList.map fun c => D.str ⟨#[c]⟩) rfl hd3 rfl ?_ ?_ fun z d4 mz hd4 => ?_
      · intro e
        have := congrArg List.length e
        rw [List.length_map, let_len] at this
        cases this
      · rw [List.length_map, let_len]; omega
      · obtain ⟨c, hc, rfl⟩ := List.mem_map.mp mz
        conv => whnf
        repeat (refine ⟨trivial, ?_⟩; conv => whnf)
        exact hK _ _ ⟨d4, hd4, rfl⟩ fun z e => ⟨c, hc, (Option.some.inj e).symm⟩
    · rintro zs _ o ⟨d3, hd3, rfl⟩
      obtain ⟨ys, rfl, yok, yl⟩ := outs_strs (fun y z h => h z rfl) o
      rw [range_len] at yl
      obtain ⟨j1, j2, _⟩ := join_ok yok
      conv => whnf
      repeat (refine ⟨trivial, ?_⟩; conv => whnf)
      have l0 : ("" : Str).length = 0 := by decide +kernel
      have lq : ("q" : Str).length = 1 := by decide +kernel
      refine ⟨ys, rfl, by rw [sum_ones yok, l0]; omega, ?_⟩
      conv => whnf
      repeat (refine ⟨trivial, ?_⟩; conv => whnf)
      refine ⟨⟨_, rfl⟩, ?_⟩
      conv => whnf
      repeat (refine ⟨trivial, ?_⟩; conv => whnf)
      refine ⟨sz_le (by rw [j2, lq]; omega), ?_⟩
      conv => whnf
      repeat (refine ⟨trivial, ?_⟩; conv => whnf)
      refine ⟨by omega, ?_⟩
      conv => whnf
      repeat (refine ⟨trivial, ?_⟩; conv => whnf)
      unfold fIx
      have hm : (0 + (ns.length : Int)) % 26 = (ns.length : Int) := by omega
      have lt : ns.length < letD.cps.toList.length := by rw [let_len]; exact n26
      refine ⟨by decide +kernel, letD.cps.toList[ns.length], ?_, ?_⟩
      · unfold atI
        have : ixN letD.cps.toList.length ((0 + (ns.length : Int)) % 26) = some ns.length := by
          rw [hm]
          unfold ixN
          rw [if_pos (by omega), if_pos (by omega)]
          rfl
        show (ixN letD.cps.toList.length ((0 + (ns.length : Int)) % 26)).bind _ = _
        rw [this]
        exact List.getElem?_eq_getElem lt
      · conv => whnf
        repeat (refine ⟨trivial, ?_⟩; conv => whnf)
        refine ⟨sz_le (by rw [len_add, j2, lq]; show _ + 1 ≤ _; omega), ?_⟩
        conv => whnf
        repeat (refine ⟨trivial, ?_⟩; conv => whnf)
        refine ⟨by rw [List.length_map]; exact sz_lt (by omega), ?_⟩
        conv => whnf
        repeat (refine ⟨trivial, ?_⟩; conv => whnf)
        refine hM _ ⟨d3, ns ++ [Txt.join "" ys ++ "q" ++ ⟨#[letD.cps.toList[ns.length]]⟩], lf, _, _, by rw [List.length_append, List.length_singleton], by rw [List.map_append]; rfl, hd3, by rw [List.length_append, List.length_singleton]; omega, fun x hx => ?_, ?_⟩
        · rcases List.mem_append.mp hx with h | h
          · exact ok x h
          · rw [List.mem_singleton] at h
            rw [h]
            exact nm_made yok (by omega) (List.getElem_mem lt)
        · rw [List.map_append, lc, List.length_append, List.length_singleton, List.take_succ_eq_append_getElem lt, List.map_append, List.map_cons, last_add]
          rfl
theorem use_names {env : AEnv} (j : Nat) {d : D} {many : Int} {R : RV → AEnv → Prop} (e : env[j]? = some (.own d)) (hd : Dr d) (h0 : 0 ≤ many) (h9 : many ≤ 26) (k : ∀ (ns : List Str) d', ns.length = many.toNat → (∀ x ∈ ns, NmOk x) → ns.Nodup → Dr d' → R (.new (.lst (ns.map D.str))) (env.set j (.own d'))) : callR S_law_names [.at j, .dat (.int many)] env R :=
  call_lent j [.int many] e ⟨d, many, rfl, hd, h0, h9, fun ns d' a b c e => k ns d' a b c e⟩
end AL
namespace AL
open PySem L2
/-! P7: span, variables, tree of the object -/
theorem TreeOk.slen {t : Tree} (ok : TreeOk t) : t.spans.length ≤ 64 := by
  have h1 := ok.sp.sub.length_le
  have h2 := vars_len ok.rows
  rw [List.length_map] at h1
  omega
theorem TreeOk.nd {t : Tree} (ok : TreeOk t) : (t.spans.map (·.1)).Nodup := (vars_nodup t.rows).sublist ok.sp.sub
theorem brT {b : Bool} {t e : Prop} (h : b = true) (k : t) : brP b t e := by subst h; rw [brP_true]; exact k
theorem brF {b : Bool} {t e : Prop} (h : b = false) (k : e) : brP b t e := by subst h; rw [brP_false]; exact k
theorem p_Body_variables {C : Cls} : BodyOk 1 4 B_Body_variables (a_Body_variables C) (S_Body_variables C) := by
  rintro _ R ⟨t, rfl, ok, k⟩
  refine ⟨rfl, ownN (ds := [_]), ?_⟩
  conv => whnf
  refine ⟨Nat.zero_le _, ?_⟩
  conv => whnf
  refine ⟨_, fld_rows, ?_⟩
  conv => whnf
  intro _
  refine vars_outer (A := { nx := _, rt := _ }) t.rows ⟨by have := ok.rows.1; omega, ok.rows.2⟩ fun x y => ?_
  conv => whnf
  exact ⟨rfl, new_ _, k⟩
theorem use_bvars {C : Cls} {env : AEnv} (t : Tree) {R : RV → AEnv → Prop} (ok : TreeOk t) (k : R (.new (.lst ((vars t.rows).map D.int))) env) : callR (S_Body_variables C) [.dat (objD C t)] env R :=
  call_dats [objD C t] ⟨t, rfl, ok, k⟩
theorem bnd_ge {sp : List Span} {x : Int} (h : 0 ≤ x) : bnd sp x = (x, x + 1) := by unfold bnd; rw [if_pos h]
theorem bnd_lt {sp : List Span} {x : Int} (h : ¬ 0 ≤ x) : bnd sp x = ((sp.find? fun s => s.1 == x).map fun s => (s.2.1, s.2.2)).getD (0, 1000) := by
  unfold bnd
  rw [if_neg h]
  cases sp.find? (fun s => s.1 == x) <;> rfl
theorem p_Body_span {C : Cls} : BodyOk 2 2 B_Body_span (a_Body_span C) (S_Body_span C) := by
  rintro _ R ⟨t, x, rfl, ok, k⟩
  refine ⟨rfl, ownN (ds := [_, _]), ?_⟩
  conv => whnf
  refine brI (fun h => ?_) (fun h => ?_)
  · have ge : 0 ≤ x := by simpa using h
    rw [bnd_ge ge] at k
    conv => whnf
    repeat (refine ⟨trivial, ?_⟩; conv => whnf)
    exact ⟨sz2, nat_ _, k⟩
  · have lt : ¬ 0 ≤ x := by simpa using h
    rw [bnd_lt lt] at k
    conv => whnf
    refine ⟨_, fld_spans, ?_⟩
    refine ⟨trivial, ?_⟩
    conv => whnf
    refine ⟨trivial, ?_⟩
    conv => whnf
    refine ⟨trivial, ?_⟩
    conv => whnf
    refine ⟨sz2, ?_⟩
    conv => whnf
    refine ⟨rfl, ?_⟩
    rw [get_spans]
    conv => whnf
    cases e : t.spans.find? (fun s => s.1 == x) with
    | none =>
      rw [e] at k
      exact ⟨nat_ _, k⟩
    | some s =>
      rw [e] at k
      exact ⟨nat_ _, k⟩
theorem use_span {C : Cls} {env : AEnv} (t : Tree) (x : Int) {R : RV → AEnv → Prop} (ok : TreeOk t) (k : R (.dat (prD (bnd t.spans x))) env) : callR (S_Body_span C) [.dat (objD C t), .dat (.int x)] env R :=
  call_dats [objD C t, .int x] ⟨t, x, rfl, ok, k⟩
/-! the tree -/
theorem find_nd : ∀ {sp : List Span}, (sp.map (·.1)).Nodup → ∀ s ∈ sp, sp.find? (fun z => z.1 == s.1) = some s
  | [], _, s, h => by cases h
  | a :: sp, nd, s, h => by
    rw [List.find?_cons]
    rw [List.map_cons, List.nodup_cons] at nd
    rcases List.mem_cons.mp h with e | e
    · rw [e]; simp
    · have ne : ¬ a.1 = s.1 := fun z => nd.1 (by rw [z]; exact List.mem_map.mpr ⟨s, e, rfl⟩)
      have : (a.1 == s.1) = false := by simpa using ne
      rw [this]
      exact find_nd nd.2 s e
theorem dsort_perm (sp : List Span) : (dsort sp).Perm sp := List.mergeSort_perm _ _
theorem dsort_pw (sp : List Span) : ((dsort sp).map (·.1)).Pairwise (· ≥ ·) := by
  rw [List.pairwise_map]
  have := List.pairwise_mergeSort (le := fun a b : Span => decide (b.1 ≤ a.1)) (fun a b c h1 h2 => by
    simp only [decide_eq_true_eq] at *
    omega) (fun a b => by
    simp only [Bool.or_eq_true, decide_eq_true_eq]
    omega) sp
  exact this.imp fun h => by simpa using h
theorem ge_uniq {xs ys : List Int} (p : xs.Perm ys) (h1 : xs.Pairwise (· ≥ ·)) (h2 : ys.Pairwise (· ≥ ·)) : xs = ys :=
  List.Perm.eq_of_pairwise (le := (· ≥ ·)) (fun a b _ _ h1 h2 => by omega) h1 h2 p
theorem p_Body_tree {C : Cls} : BodyOk 1 3 B_Body_tree (a_Body_tree C) (S_Body_tree C) := by
  rintro _ R ⟨t, rfl, ok, k⟩
  refine ⟨rfl, ownN (ds := [_]), ?_⟩
  conv => whnf
  repeat (refine ⟨trivial, ?_⟩; conv => whnf)
  refine ⟨_, fld_spans, ?_⟩
  conv => whnf
  repeat (refine ⟨trivial, ?_⟩; conv => whnf)
  refine ⟨t.spans.map (·.1), by rw [List.map_map]; rfl, fun ns' pm pw => ?_⟩
  have en : ns' = (dsort t.spans).map (·.1) := ge_uniq (pm.trans ((dsort_perm t.spans).map _).symm) pw (dsort_pw _)
  rw [en]
  conv => whnf
  repeat (refine ⟨trivial, ?_⟩; conv => whnf)
  intro _
  have dl := (dsort_perm t.spans).length_eq
  refine ⟨noOwn_one (x := .un) rfl (fun e z => by cases z), sz_le (by rw [List.length_map, List.length_map]; have := ok.slen; omega), ?_⟩
  refine lc_ind (Ev := fun env => env = [.dat (objD C t), .un, .un]) (Stp := fun y oz => ∃ x : Int, y = .int x ∧ oz = some (((t.spans.find? fun z => z.1 == x).map spD).getD .non)) _ ?_ _ _ rfl ?_
  · rintro y hy _ K rfl hK
    obtain ⟨x, hx, rfl⟩ := List.mem_map.mp hy
    obtain ⟨s, hs, rfl⟩ := List.mem_map.mp hx
    have fs := find_nd ok.nd s ((dsort_perm t.spans).mem_iff.mp hs)
    conv => whnf
    repeat (refine ⟨trivial, ?_⟩; conv => whnf)
    rw [brP_true]
    conv => whnf
    repeat (refine ⟨trivial, ?_⟩; conv => whnf)
    refine ⟨_, fld_spans, ?_⟩
    conv => whnf
    repeat (refine ⟨trivial, ?_⟩; conv => whnf)
    refine ix_dic (z := .tup [.int s.2.1, .int s.2.2]) rfl (by rw [get_spans, fs]; rfl) ?_
    conv => whnf
    repeat (refine ⟨trivial, ?_⟩; conv => whnf)
    refine ix_tup (by omega) rfl ?_
    conv => whnf
    repeat (refine ⟨trivial, ?_⟩; conv => whnf)
    refine ⟨_, fld_spans, ?_⟩
    conv => whnf
    repeat (refine ⟨trivial, ?_⟩; conv => whnf)
    refine ix_dic (z := .tup [.int s.2.1, .int s.2.2]) rfl (by rw [get_spans, fs]; rfl) ?_
    conv => whnf
    repeat (refine ⟨trivial, ?_⟩; conv => whnf)
    refine ix_tup (by omega) rfl ?_
    conv => whnf
    repeat (refine ⟨trivial, ?_⟩; conv => whnf)
    refine ⟨sz3, ?_⟩
    conv => whnf
    repeat (refine ⟨trivial, ?_⟩; conv => whnf)
    exact hK _ _ rfl ⟨s.1, rfl, by rw [fs]; rfl⟩
  · rintro zs _ o rfl
    have ez := o.map (f := fun x : Int => ((t.spans.find? fun z => z.1 == x).map spD).getD .non) fun x oz ⟨u, e1, e2⟩ => by
      injection e1 with e1
      rw [e1]
      exact e2
    have e : zs = (dsort t.spans).map spD := by
      rw [ez, List.map_map]
      refine List.map_congr_left fun s hs => ?_
      show ((t.spans.find? fun z => z.1 == s.1).map spD).getD .non = _
      rw [find_nd ok.nd s ((dsort_perm t.spans).mem_iff.mp hs)]
      rfl
    rw [e]
    conv => whnf
    repeat (refine ⟨trivial, ?_⟩; conv => whnf)
    refine ⟨_, fld_rows, ?_⟩
    conv => whnf
    repeat (refine ⟨trivial, ?_⟩; conv => whnf)
    refine ⟨_, fld_nots, ?_⟩
    conv => whnf
    repeat (refine ⟨trivial, ?_⟩; conv => whnf)
    refine ⟨_, fld_wide, ?_⟩
    conv => whnf
    repeat (refine ⟨trivial, ?_⟩; conv => whnf)
    refine ⟨sz4, ?_⟩
    conv => whnf
    repeat (refine ⟨trivial, ?_⟩; conv => whnf)
    exact ⟨nat_ _, k⟩
theorem use_tree {C : Cls} {env : AEnv} (t : Tree) {R : RV → AEnv → Prop} (ok : TreeOk t) (k : R (.dat (treeD t)) env) : callR (S_Body_tree C) [.dat (objD C t)] env R :=
  call_dats [objD C t] ⟨t, rfl, ok, k⟩
end AL
namespace AL
open PySem L2
/-! P8: is_int, value_of, valued, frozen_rows, plain_from. -/
theorem own0x {x : AV} {ds : List D} {B : Nat → Bool} (h : B 0 = true) : ∀ (i : Nat) (e : D), (x :: ds.map AV.dat)[i]? = some (.own e) → B i = true
  | 0, _, _ => h
  | i + 1, e, q => by
    rw [List.getElem?_cons_succ, List.getElem?_map] at q
    cases w : ds[i]? with
    | none => rw [w] at q; cases q
    | some x => rw [w] at q; cases q
theorem own1x {a : D} {x : AV} {ds : List D} {B : Nat → Bool} (h : B 1 = true) : ∀ (i : Nat) (e : D), (AV.dat a :: x :: ds.map AV.dat)[i]? = some (.own e) → B i = true
  | 0, e, q => by cases q
  | 1, _, _ => h
  | i + 2, e, q => by
    rw [List.getElem?_cons_succ, List.getElem?_cons_succ, List.getElem?_map] at q
    cases w : ds[i]? with
    | none => rw [w] at q; cases q
    | some x => rw [w] at q; cases q
theorem p_law_is_int : BodyOk 1 1 B_law_is_int a_law_is_int S_law_is_int := by
  rintro _ R ⟨i, rfl, k⟩
  refine ⟨rfl, ownN (ds := [_]), ?_⟩
  conv => whnf
  repeat (refine ⟨trivial, ?_⟩; conv => whnf)
  refine ⟨"int", true, rfl, by decide +kernel, ?_⟩
  conv => whnf
  repeat (refine ⟨trivial, ?_⟩; conv => whnf)
  rw [brP_true]
  conv => whnf
  repeat (refine ⟨trivial, ?_⟩; conv => whnf)
  refine ⟨"int", false, rfl, by decide +kernel, ?_⟩
  conv => whnf
  repeat (refine ⟨trivial, ?_⟩; conv => whnf)
  exact ⟨nat_ _, k⟩
theorem use_isint {env : AEnv} (i : Int) {R : RV → AEnv → Prop} (k : R (.dat (.bl true)) env) : callR S_law_is_int [.dat (.int i)] env R :=
  call_dats [_] ⟨i, rfl, k⟩
theorem get_bd {t : Int} : ∀ b : Bd, dGet (b.map fun p => D.int p.1) (b.map fun p => D.int p.2) (.int t) = (lkB b t).map D.int
  | [] => rfl
  | (k, v) :: r => by
    simp only [List.map_cons, dGet, lkB]
    by_cases e : k = t
    · rw [if_pos e, if_pos (by rw [e])]
      rfl
    · rw [if_neg e, if_neg (fun z => e (by injection z))]
      exact get_bd r
theorem lkB_none {t : Int} : ∀ {b : Bd}, lkB b t = none ↔ t ∉ b.map (·.1)
  | [] => by simp [lkB]
  | (k, v) :: r => by
    unfold lkB
    by_cases e : k = t
    · rw [if_pos e]; simp [e]
    · rw [if_neg e, lkB_none (b := r), List.map_cons, List.mem_cons]
      constructor
      · rintro h (z | z)
        · exact e z.symm
        · exact h z
      · exact fun h z => h (.inr z)
theorem lkB_some {t : Int} {b : Bd} (h : t ∈ b.map (·.1)) : ∃ v, lkB b t = some v := by
  cases e : lkB b t with
  | none => exact absurd h (lkB_none.mp e)
  | some v => exact ⟨v, rfl⟩
theorem bd_mem {t : Int} {b : Bd} : D.int t ∈ (b.map fun p => D.int p.1) ↔ t ∈ b.map (·.1) := by
  constructor
  · intro h
    obtain ⟨p, hp, e⟩ := List.mem_map.mp h
    injection e with e
    exact List.mem_map.mpr ⟨p, hp, e⟩
  · intro h
    obtain ⟨p, hp, e⟩ := List.mem_map.mp h
    exact List.mem_map.mpr ⟨p, hp, by rw [e]⟩
theorem vB_neg {b : Bd} {t : Int} (h : t < 0) : vB b t = (lkB b t).getD 0 := by unfold vB; rw [if_neg (by omega)]
theorem vB_pos {b : Bd} {t : Int} (h : 0 ≤ t) : vB b t = t := by unfold vB; rw [if_pos h]
theorem ix_bd {b : Bd} {t : Int} {F : RV → Prop} (h : t ∈ b.map (·.1)) (f : F (.dat (.int ((lkB b t).getD 0)))) : fIx (bD b) (.int t) F := by
  obtain ⟨v, e⟩ := lkB_some h
  refine ix_dic rfl (z := .int ((lkB b t).getD 0)) ?_ f
  rw [get_bd, e]
  rfl
theorem p_value_of : BodyOk 2 2 B_value_of a_value_of S_value_of := by
  rintro _ R ⟨x, b, t, rfl, hx, has, k⟩
  refine ⟨rfl, own0x (ds := [_]) rfl, ?_⟩
  rcases hx with rfl | rfl <;>
  · conv => whnf
    repeat (refine ⟨trivial, ?_⟩; conv => whnf)
    refine brI (fun h => ?_) (fun h => ?_)
    · have ge : 0 ≤ t := by simpa using h
      rw [vB_pos ge] at k
      conv => whnf
      repeat (refine ⟨trivial, ?_⟩; conv => whnf)
      exact ⟨nat_ _, k⟩
    · have lt : t < 0 := by simpa using h
      rw [vB_neg lt] at k
      conv => whnf
      repeat (refine ⟨trivial, ?_⟩; conv => whnf)
      exact ix_bd (has lt) ⟨nat_ _, k⟩
theorem use_valueof {env : AEnv} (b : Bd) (t : Int) {R : RV → AEnv → Prop} (has : t < 0 → t ∈ b.map (·.1)) (k : R (.dat (.int (vB b t))) env) : callR S_value_of [.dat (bD b), .dat (.int t)] env R :=
  call_dats [_, _] ⟨_, b, t, rfl, .inl rfl, has, k⟩
theorem use_valueofO {env : AEnv} (j : Nat) (b : Bd) (t : Int) {R : RV → AEnv → Prop} (e : env[j]? = some (.own (bD b))) (has : t < 0 → t ∈ b.map (·.1)) (k : R (.dat (.int (vB b t))) (env.set j (.own (bD b)))) : callR S_value_of [.at j, .dat (.int t)] env R :=
  call_lent j [.int t] e ⟨_, b, t, rfl, .inr rfl, has, k⟩
theorem val_lc {ts : List Int} {b : Bd} {env0 : AEnv} {i : Nat} {e : AE'} {R : List D → AEnv → Prop} (hw : wipeE (env0.set i .un) [i] = env0.set i .un)
    (he : ∀ (t : Int) (K : RV → AEnv → Prop), t ∈ ts → K (.dat (.int (vB b t))) (env0.set i (.dat (.int t))) → e (env0.set i (.dat (.int t))) K)
    (k : R ((vl ts b).map D.int) (env0.set i .un)) (hs : ∀ t : Int, (env0.set i .un).set i (.dat (.int t)) = env0.set i (.dat (.int t))) (hw2 : ∀ t : Int, wipeE (env0.set i (.dat (.int t))) [i] = env0.set i .un) : lcL (agName i) atYes e [i] (ts.map D.int) R (env0.set i .un) := by
  refine lc_ind (Ev := fun env => env = env0.set i .un) (Stp := fun y oz => ∃ t : Int, y = .int t ∧ oz = some (.int (vB b t))) _ ?_ _ _ rfl ?_
  · rintro y hy _ K rfl hK
    obtain ⟨t, ht, rfl⟩ := List.mem_map.mp hy
    show brP true (aFrz e ((env0.set i .un).set i (.dat (.int t))) (lcK K [i])) _
    rw [brP_true, hs]
    unfold aFrz
    refine he t _ ht ?_
    show lcK K [i] (.dat (.int (vB b t))) (env0.set i (.dat (.int t)))
    show K (some (.int (vB b t))) (wipeE (env0.set i (.dat (.int t))) [i])
    rw [hw2]
    exact hK _ _ rfl ⟨t, rfl, rfl⟩
  · rintro zs _ o rfl
    have ez := o.map (f := fun t => D.int (vB b t)) fun t oz ⟨u, e1, e2⟩ => by
      cases e1
      exact e2
    have e : zs = (vl ts b).map D.int := by
      rw [ez]
      unfold vl
      rw [List.map_map]
      rfl
    rw [e]
    exact k
theorem p_law_valued : BodyOk 2 3 B_law_valued a_law_valued S_law_valued := by
  rintro _ R ⟨row, x, b, ts, rfl, hi, hx, hz, has, k⟩
  refine ⟨rfl, own1x (ds := []) rfl, ?_⟩
  rcases hx with rfl | rfl <;> rcases seq_items hi with rfl | rfl <;>
  · conv => whnf
    repeat (refine ⟨trivial, ?_⟩; conv => whnf)
    intro _
    refine ⟨noOwn_one (x := .un) rfl (fun e z => by cases z), sz_le (by rw [List.length_map]; omega), ?_⟩
    refine val_lc (env0 := [_, _, .un]) (i := 2) (b := b) rfl (fun t K ht hK => ?_) ?_ (fun _ => rfl) (fun _ => rfl)
    · conv => whnf
      repeat (refine ⟨trivial, ?_⟩; conv => whnf)
      refine brI (fun h => ?_) (fun h => ?_)
      · have ge : 0 ≤ t := by simpa using h
        rw [vB_pos ge] at hK
        exact hK
      · have lt : t < 0 := by simpa using h
        rw [vB_neg lt] at hK
        conv => whnf
        repeat (refine ⟨trivial, ?_⟩; conv => whnf)
        exact ix_bd (has t ht lt) hK
    · conv => whnf
      repeat (refine ⟨trivial, ?_⟩; conv => whnf)
      exact ⟨nat_ _, k⟩
theorem use_valued {env : AEnv} {row : D} (ts : List Int) (b : Bd) {R : RV → AEnv → Prop} (hi : seqOf row = some (ts.map D.int)) (hz : ts.length ≤ 100) (has : Has (b.map (·.1)) ts) (k : R (.dat (tmD (vl ts b))) env) : callR S_law_valued [.dat row, .dat (bD b)] env R :=
  call_dats [_, _] ⟨row, _, b, ts, rfl, hi, .inl rfl, hz, has, k⟩
end AL
namespace AL
open PySem L2
/-! P9: calls with a lent second thing; frozen_rows; plain_from. -/
theorem call_lent2 {S : ASp} {env : AEnv} (j : Nat) {a d : D} {R : RV → AEnv → Prop} (e : env[j]? = some (.own d)) (h : S [.dat a, .own d] fun r avs' => R r (backE env [.dat a, .at j] avs')) : callR S [.dat a, .at j] env R := by
  refine call_gen ⟨?_, fun m hm => ?_⟩ ?_
  · show [j].Nodup
    exact List.nodup_cons.mpr ⟨by simp, List.nodup_nil⟩
  · have hm : m ∈ [j] := hm
    rw [List.mem_singleton] at hm
    subst hm
    exact ⟨_, e⟩
  · simp only [argsE, e]
    exact h
theorem use_valuedO {env : AEnv} {row : D} (j : Nat) (ts : List Int) (b : Bd) {R : RV → AEnv → Prop} (e : env[j]? = some (.own (bD b))) (hi : seqOf row = some (ts.map D.int)) (hz : ts.length ≤ 100) (has : Has (b.map (·.1)) ts) (k : R (.dat (tmD (vl ts b))) (env.set j (.own (bD b)))) : callR S_law_valued [.dat row, .at j] env R :=
  call_lent2 j e ⟨row, _, b, ts, rfl, hi, .inr rfl, hz, has, k⟩
theorem p_frozen_rows : BodyOk 2 5 B_frozen_rows a_frozen_rows S_frozen_rows := by
  rintro _ R ⟨rs, b, rfl, ok, has, k⟩
  refine ⟨rfl, ownN (ds := [_, _]), ?_⟩
  conv => whnf
  repeat (refine ⟨trivial, ?_⟩; conv => whnf)
  intro _
  refine ⟨fun i hi d z => ?_, sz_le (by rw [List.length_map]; have := ok.1; omega), ?_⟩
  · simp only [List.mem_cons, List.not_mem_nil, or_false] at hi
    rcases hi with rfl | rfl <;> cases z
  refine lc_ind (Ev := fun env => env = [.dat (rowsD rs), .dat (bD b), .un, .un, .un]) (Stp := fun y oz => ∃ r : Row, y = rowD r ∧ oz = some (rowD (r.1, vl r.2 b))) _ ?_ _ _ rfl ?_
  · rintro y hy _ K rfl hK
    obtain ⟨r, hr, rfl⟩ := List.mem_map.mp hy
    conv => whnf
    repeat (refine ⟨trivial, ?_⟩; conv => whnf)
    refine ⟨rfl, ?_⟩
    conv => whnf
    repeat (refine ⟨trivial, ?_⟩; conv => whnf)
    refine ⟨rfl, ?_⟩
    conv => whnf
    repeat (refine ⟨trivial, ?_⟩; conv => whnf)
    rw [brP_true]
    conv => whnf
    repeat (refine ⟨trivial, ?_⟩; conv => whnf)
    intro _
    refine ⟨noOwn_one (x := .un) rfl (fun e z => by cases z), sz_le (by rw [List.length_map]; have := (ok.2 r hr).few; omega), ?_⟩
    refine val_lc (env0 := [_, _, _, _, .un]) (i := 4) (b := b) rfl (fun t K2 ht hK2 => ?_) ?_ (fun _ => rfl) (fun _ => rfl)
    · conv => whnf
      repeat (refine ⟨trivial, ?_⟩; conv => whnf)
      refine use_valueof b t (fun lt => has r hr t ht lt) ?_
      exact hK2
    · conv => whnf
      repeat (refine ⟨trivial, ?_⟩; conv => whnf)
      refine ⟨sz2, ?_⟩
      conv => whnf
      repeat (refine ⟨trivial, ?_⟩; conv => whnf)
      exact hK _ _ rfl ⟨r, rfl, rfl⟩
  · rintro zs _ o rfl
    have ez := o.map (f := fun r : Row => rowD (r.1, vl r.2 b)) fun r oz ⟨u, e1, e2⟩ => by
      rw [rowD_inj.mp e1]
      exact e2
    rw [ez]
    conv => whnf
    repeat (refine ⟨trivial, ?_⟩; conv => whnf)
    exact ⟨new_ _, k⟩
theorem use_frozenrows {env : AEnv} (rs : List Row) (b : Bd) {R : RV → AEnv → Prop} (ok : RowsOk 18 rs) (has : ∀ r ∈ rs, Has (b.map (·.1)) r.2) (k : R (.new (.lst (rs.map fun r => rowD (r.1, vl r.2 b)))) env) : callR S_frozen_rows [.dat (rowsD rs), .dat (bD b)] env R :=
  call_dats [_, _] ⟨rs, b, rfl, ok, has, k⟩
/-! the first plain value -/
def Bad (us : List Int) (v : Int) : Prop := v % 10 = 0 ∨ v ∈ us
theorem pf_bad {us : List Int} : ∀ {n : Nat} {v : Int}, Bad us (pfrom n v us) → ∀ j : Nat, j ≤ n → Bad us (v + j)
  | 0, v, h, j, hj => by
    have : j = 0 := by omega
    subst this
    have e : v + ((0 : Nat) : Int) = v := by omega
    rw [e]
    exact h
  | n + 1, v, h, j, hj => by
    unfold pfrom at h
    by_cases c : v % 10 = 0 ∨ v ∈ us
    · rw [if_pos c] at h
      cases j with
      | zero =>
        have e : v + ((0 : Nat) : Int) = v := by omega
        rw [e]; exact c
      | succ j =>
        have := pf_bad h j (by omega)
        have e : v + 1 + (j : Int) = v + ((j + 1 : Nat) : Int) := by omega
        rwa [e] at this
    · rw [if_neg c] at h
      exact (c h).elim
theorem pf_ge {us : List Int} : ∀ (n : Nat) (v : Int), v ≤ pfrom n v us ∧ pfrom n v us ≤ v + n
  | 0, v => ⟨Int.le_refl _, by show v ≤ v + ((0 : Nat) : Int); omega⟩
  | n + 1, v => by
    unfold pfrom
    by_cases c : v % 10 = 0 ∨ v ∈ us
    · rw [if_pos c]
      have := pf_ge (us := us) n (v + 1)
      omega
    · rw [if_neg c]
      omega
theorem pf_le {us : List Int} : ∀ (n : Nat) (v u : Int), v ≤ u → u ≤ v + n → ¬ Bad us u → pfrom n v us ≤ u
  | 0, v, u, h1, h2, _ => by
    have : u = v := by omega
    rw [this]; exact Int.le_refl _
  | n + 1, v, u, h1, h2, nb => by
    unfold pfrom
    by_cases c : v % 10 = 0 ∨ v ∈ us
    · rw [if_pos c]
      have ne : v ≠ u := fun e => nb (by rw [← e]; exact c)
      exact pf_le n (v + 1) u (by omega) (by omega) nb
    · rw [if_neg c]
      exact h1
theorem sub_perm {α : Type} [DecidableEq α] : ∀ {l m : List α}, l.Nodup → (∀ x ∈ l, x ∈ m) → ∃ r, m.Perm (l ++ r)
  | [], m, _, _ => ⟨m, .refl _⟩
  | a :: l, m, nd, h => by
    rw [List.nodup_cons] at nd
    obtain ⟨r, p⟩ := sub_perm nd.2 fun x hx => h x (List.mem_cons_of_mem _ hx)
    have ha : a ∈ r := by
      rcases List.mem_append.mp (p.mem_iff.mp (h a List.mem_cons_self)) with z | z
      · exact absurd z nd.1
      · exact z
    exact ⟨r.erase a, p.trans (((List.perm_cons_erase ha).append_left l).trans List.perm_middle)⟩
theorem nd_sub_len {α : Type} [DecidableEq α] {l m : List α} (nd : l.Nodup) (h : ∀ x ∈ l, x ∈ m) : l.length ≤ m.length := by
  obtain ⟨r, p⟩ := sub_perm nd h
  have e := p.length_eq
  rw [List.length_append] at e
  omega
/-- some plain value is near -/
theorem plain_near (us : List Int) (low : Int) (h : us.length ≤ 70) : ∃ u, low ≤ u ∧ u ≤ low + 98 ∧ ¬ Bad us u := by
  refine Classical.byContradiction fun no => ?_
  have bad : ∀ u, low ≤ u → u ≤ low + 98 → Bad us u := fun u h1 h2 => Classical.byContradiction fun nb => no ⟨u, h1, h2, nb⟩
  let f : Nat → Int := fun j => 10 * ((low + 9) / 10 + (j / 9 : Nat)) + (j % 9 : Nat) + 1
  have nd : ((List.range 72).map f).Nodup := by
    refine List.Pairwise.map f (fun a b hne e => hne ?_) List.nodup_range
    have e' : 10 * ((low + 9) / 10 + (a / 9 : Nat)) + (a % 9 : Nat) + 1 = 10 * ((low + 9) / 10 + (b / 9 : Nat)) + (b % 9 : Nat) + 1 := e
    omega
  have mem : ∀ x ∈ (List.range 72).map f, x ∈ us := fun x hx => by
    obtain ⟨j, hj, rfl⟩ := List.mem_map.mp hx
    have hj' : j < 72 := List.mem_range.mp hj
    have h1 : low ≤ 10 * ((low + 9) / 10 + (j / 9 : Nat)) + (j % 9 : Nat) + 1 := by omega
    have h2 : 10 * ((low + 9) / 10 + (j / 9 : Nat)) + (j % 9 : Nat) + 1 ≤ low + 98 := by omega
    rcases bad _ h1 h2 with z | z
    · omega
    · exact z
  have := nd_sub_len nd mem
  simp at this
  omega
theorem pf_plain {us : List Int} {low : Int} (h : us.length ≤ 70) : ¬ Bad us (pfrom 200 low us) := fun z => by
  obtain ⟨u, h1, h2, nb⟩ := plain_near us low h
  have := pf_bad z (u - low).toNat (by omega)
  have e : low + ((u - low).toNat : Int) = u := by omega
  rw [e] at this
  exact nb this
theorem pf_near {us : List Int} {low : Int} (h : us.length ≤ 70) : pfrom 200 low us ≤ low + 98 := by
  obtain ⟨u, h1, h2, nb⟩ := plain_near us low h
  have := pf_le (us := us) 200 low u h1 (by omega) nb
  omega
theorem us_mem {t : Int} {us : List Int} : D.int t ∈ us.map D.int ↔ t ∈ us := by
  constructor
  · intro h
    obtain ⟨p, hp, e⟩ := List.mem_map.mp h
    injection e with e
    rw [← e]; exact hp
  · exact fun h => List.mem_map.mpr ⟨t, h, rfl⟩
theorem pf_loop {us : List Int} {low : Int} {x : AV} (hx : LD x (usD us)) {A : AEnds} : ∀ (n : Nat) (v : Int), ¬ Bad us (pfrom n v us) → A.nx [.dat (.int low), x, .dat (.int (pfrom n v us))] →
    whileN (aOr (aB (aOp fEq (aOp fMod (aVar 2) (aC (.int 10))) (aC (.int 0)))) (aB (aOp (fIn false) (aVar 2) (aVar 1)))) plain_from_1_0 A (n + 1) [.dat (.int low), x, .dat (.int v)] := by
  intro n
  induction n with
  | zero =>
    intro v nb h
    have nb' : ¬ (v % 10 = 0 ∨ v ∈ us) := nb
    unfold whileN
    rcases hx with rfl | rfl <;>
    · conv => whnf
      repeat (refine ⟨trivial, ?_⟩; conv => whnf)
      refine ⟨by omega, ?_⟩
      conv => whnf
      repeat (refine ⟨trivial, ?_⟩; conv => whnf)
      refine eq_int ?_
      refine brI (fun h0 => ?_) (fun h0 => ?_)
      · exact (nb' (.inl (by simpa using h0))).elim
      · conv => whnf
        repeat (refine ⟨trivial, ?_⟩; conv => whnf)
        refine in_dic rfl ?_
        refine brI (fun h0 => ?_) (fun h0 => ?_)
        · exact (nb' (.inr (us_mem.mp (by simpa using h0)))).elim
        · exact h
  | succ n ih =>
    intro v nb h
    unfold whileN
    by_cases c : v % 10 = 0 ∨ v ∈ us
    · have e : pfrom (n + 1) v us = pfrom n (v + 1) us := by
        show (if v % 10 = 0 ∨ v ∈ us then _ else _) = _
        rw [if_pos c]
      rw [e] at nb h
      have step : (aSet 2 (aOp fAdd (aVar 2) (aC (.int 1)))) { nx := whileN (aOr (aB (aOp fEq (aOp fMod (aVar 2) (aC (.int 10))) (aC (.int 0)))) (aB (aOp (fIn false) (aVar 2) (aVar 1)))) plain_from_1_0 A (n + 1), ct := whileN (aOr (aB (aOp fEq (aOp fMod (aVar 2) (aC (.int 10))) (aC (.int 0)))) (aB (aOp (fIn false) (aVar 2) (aVar 1)))) plain_from_1_0 A (n + 1), bk := A.nx, rt := A.rt } [.dat (.int low), x, .dat (.int v)] := by
        conv => whnf
        repeat (refine ⟨trivial, ?_⟩; conv => whnf)
        exact ih (v + 1) nb h
      rcases hx with rfl | rfl <;>
      · conv => whnf
        repeat (refine ⟨trivial, ?_⟩; conv => whnf)
        refine ⟨by omega, ?_⟩
        conv => whnf
        repeat (refine ⟨trivial, ?_⟩; conv => whnf)
        refine eq_int ?_
        refine brI (fun h0 => ?_) (fun h0 => ?_)
        · show brP true (plain_from_1_0 _ _) _
          rw [brP_true]
          exact step
        · conv => whnf
          repeat (refine ⟨trivial, ?_⟩; conv => whnf)
          refine in_dic rfl ?_
          refine brI (fun h0 => ?_) (fun h1 => ?_)
          · exact step
          · rcases c with z | z
            · simp [z] at h0
            · have := us_mem.mpr z
              simp [this] at h1
    · have e : pfrom (n + 1) v us = v := by
        show (if v % 10 = 0 ∨ v ∈ us then _ else _) = _
        rw [if_neg c]
      rw [e] at h
      rcases hx with rfl | rfl <;>
      · conv => whnf
        repeat (refine ⟨trivial, ?_⟩; conv => whnf)
        refine ⟨by omega, ?_⟩
        conv => whnf
        repeat (refine ⟨trivial, ?_⟩; conv => whnf)
        refine eq_int ?_
        refine brI (fun h0 => ?_) (fun h0 => ?_)
        · exact (c (.inl (by simpa using h0))).elim
        · conv => whnf
          repeat (refine ⟨trivial, ?_⟩; conv => whnf)
          refine in_dic rfl ?_
          refine brI (fun h0 => ?_) (fun h0 => ?_)
          · exact (c (.inr (us_mem.mp (by simpa using h0)))).elim
          · exact h
theorem p_plain_from : BodyOk 2 3 B_plain_from a_plain_from S_plain_from := by
  rintro _ R ⟨low, us, x, rfl, hx, hl, k⟩
  refine ⟨rfl, own1x (ds := []) rfl, ?_⟩
  have nb := pf_plain (low := low) hl
  have fin : plain_from_0_1 { nx := fun env => R (.dat .non) (outs [.dat (.int low), x] env), rt := fun r env => (∀ i, r ≠ .at i) ∧ R r (outs [.dat (.int low), x] env) } [.dat (.int low), x, .dat (.int low)] := by
    refine ⟨201, ?_⟩
    refine pf_loop hx 200 low nb ?_
    rcases hx with rfl | rfl <;>
    · conv => whnf
      repeat (refine ⟨trivial, ?_⟩; conv => whnf)
      exact ⟨nat_ _, k⟩
  rcases hx with rfl | rfl <;>
  · conv => whnf
    repeat (refine ⟨trivial, ?_⟩; conv => whnf)
    exact fin
theorem use_plainfromO {env : AEnv} (j : Nat) (low : Int) (us : List Int) {R : RV → AEnv → Prop} (e : env[j]? = some (.own (usD us))) (hl : us.length ≤ 70) (k : R (.dat (.int (pfrom 200 low us))) (env.set j (.own (usD us)))) : callR S_plain_from [.dat (.int low), .at j] env R :=
  call_lent2 j e ⟨low, us, _, rfl, .inr rfl, hl, k⟩
end AL
namespace AL
open PySem L2
/-! P10: names that are in order. -/
theorem words_noq : ∀ w ∈ k_WORDS, 113 ∉ w.cps.toList := by decide +kernel
theorem words_ok : ∀ w ∈ k_WORDS, PyData.strOk w = true := by decide +kernel
theorem az_let : ∀ c : Nat, 97 ≤ c → c ≤ 122 → c ∈ letD.cps.toList := by
  intro c h1 h2
  have : ∀ j < 26, 97 + j ∈ letD.cps.toList := by decide +kernel
  have := this (c - 97) (by omega)
  rwa [show 97 + (c - 97) = c by omega] at this
theorem outs_true {S : D → Option D → Prop} (h : ∀ y oz, S y oz → oz = some (.bl true)) {ds zs : List D} (o : Outs S ds zs) : ∃ n : Nat, zs = (List.replicate n true).map D.bl := by
  induction o with
  | nil => exact ⟨0, rfl⟩
  | yes s o ih =>
    obtain ⟨n, rfl⟩ := ih
    have e := h _ _ s
    cases e
    exact ⟨n + 1, rfl⟩
  | no s o ih => cases h _ _ s
theorem all_true (n : Nat) : (List.replicate n true).all id = true := by
  rw [List.all_eq_true]
  intro x hx
  rw [List.eq_of_mem_replicate hx]
  rfl
theorem p_is_lettered : BodyOk 2 3 B_is_lettered a_is_lettered S_is_lettered := by
  rintro _ R ⟨x, n, rfl, ok, h9, k⟩
  refine ⟨rfl, ownN (ds := [_, _]), ?_⟩
  have hl : x.cps.toList.length = x.length := by rw [Array.length_toList]; rfl
  have h1 : 1 ≤ x.length := by
    rw [← hl]
    exact List.length_pos_iff.mpr fun e => by have := ok.q; rw [e] at this; cases this
  have h2 := ok.few
  rw [hl] at h2
  conv => whnf
  repeat (refine ⟨trivial, ?_⟩; conv => whnf)
  refine ⟨"str", true, rfl, by decide +kernel, ?_⟩
  conv => whnf
  repeat (refine ⟨trivial, ?_⟩; conv => whnf)
  refine brF rfl ?_
  conv => whnf
  repeat (refine ⟨trivial, ?_⟩; conv => whnf)
  refine ⟨sz_le (by omega), ?_⟩
  conv => whnf
  repeat (refine ⟨trivial, ?_⟩; conv => whnf)
  have c1 : (fun (i j : Int) => D.bl (decide (i ≤ j))) 1 (x.length : Int) = .bl true := by
    show D.bl (decide _) = _
    rw [decide_eq_true (by omega)]
  rw [c1]
  conv => whnf
  repeat (refine ⟨trivial, ?_⟩; conv => whnf)
  have c2 : (!decide ((x.length : Int) ≤ n)) = false := by rw [decide_eq_true (by omega)]; rfl
  refine brF c2 ?_
  conv => whnf
  repeat (refine ⟨trivial, ?_⟩; conv => whnf)
  refine ⟨sz_le (by omega), ?_⟩
  refine ⟨noOwn_one (x := .un) rfl (fun e z => by cases z), sz_le (by rw [List.length_map]; omega), ?_⟩
  refine lc_ind (Ev := fun env => env = [.dat (.str x), .dat (.int n), .un]) (Stp := fun y oz => oz = some (.bl true)) _ ?_ _ _ rfl ?_
  · rintro y hy _ K rfl hK
    obtain ⟨c, hc, rfl⟩ := List.mem_map.mp hy
    have az := ok.az c hc
    conv => whnf
    repeat (refine ⟨trivial, ?_⟩; conv => whnf)
    rw [brP_true]
    conv => whnf
    repeat (refine ⟨trivial, ?_⟩; conv => whnf)
    unfold fIn
    refine ⟨c, rfl, ?_⟩
    have : decide (c ∈ letD.cps.toList) = true := decide_eq_true (az_let c az.1 az.2)
    exact hK _ _ rfl (by
      show some (D.bl (decide (c ∈ letD.cps.toList))) = _
      rw [this])
  · rintro zs _ o rfl
    obtain ⟨m, rfl⟩ := outs_true (fun _ _ h => h) o
    conv => whnf
    repeat (refine ⟨trivial, ?_⟩; conv => whnf)
    refine ⟨_, rfl, ?_⟩
    rw [all_true]
    refine brT rfl ?_
    conv => whnf
    repeat (refine ⟨trivial, ?_⟩; conv => whnf)
    refine notin_tup (m := 0) (n := 0) (.str 0 ok.ok) (fun y hy => ?_) ?_
    · obtain ⟨w, hw, rfl⟩ := List.mem_map.mp hy
      exact .str 0 (words_ok w hw)
    · have : ¬ D.str x ∈ k_WORDS.map D.str := fun h => by
        obtain ⟨w, hw, e⟩ := List.mem_map.mp h
        cases e
        exact words_noq _ hw ok.q
      have e : (!decide (D.str x ∈ k_WORDS.map D.str)) = true := by simpa using this
      rw [e]
      exact ⟨nat_ _, k⟩
theorem use_lettered {env : AEnv} (x : Str) (n : Int) {R : RV → AEnv → Prop} (ok : NmOk x) (h : 9 ≤ n) (k : R (.dat (.bl true)) env) : callR S_is_lettered [.dat (.str x), .dat (.int n)] env R :=
  call_dats [_, _] ⟨x, n, rfl, ok, h, k⟩
theorem p_is_name : BodyOk 1 1 B_is_name a_is_name S_is_name := by
  rintro _ R ⟨x, rfl, ok, k⟩
  refine ⟨rfl, ownN (ds := [_]), ?_⟩
  conv => whnf
  repeat (refine ⟨trivial, ?_⟩; conv => whnf)
  refine use_lettered x 9 ok (by omega) ?_
  conv => whnf
  repeat (refine ⟨trivial, ?_⟩; conv => whnf)
  exact ⟨nat_ _, k⟩
theorem p_is_long_name : BodyOk 1 1 B_is_long_name a_is_long_name S_is_long_name := by
  rintro _ R ⟨x, rfl, ok, k⟩
  refine ⟨rfl, ownN (ds := [_]), ?_⟩
  conv => whnf
  repeat (refine ⟨trivial, ?_⟩; conv => whnf)
  refine use_lettered x 12 ok (by omega) ?_
  conv => whnf
  repeat (refine ⟨trivial, ?_⟩; conv => whnf)
  exact ⟨nat_ _, k⟩
theorem use_name {env : AEnv} (x : Str) {R : RV → AEnv → Prop} (ok : NmOk x) (k : R (.dat (.bl true)) env) : callR S_is_name [.dat (.str x)] env R :=
  call_dats [_] ⟨x, rfl, ok, k⟩
theorem use_longname {env : AEnv} (x : Str) {R : RV → AEnv → Prop} (ok : NmOk x) (k : R (.dat (.bl true)) env) : callR S_is_long_name [.dat (.str x)] env R :=
  call_dats [_] ⟨x, rfl, ok, k⟩
end AL
namespace AL
open PySem L2
/-! P11: a house is checked. -/
section
variable {C : Cls} {ts : List Tab} {w : D}
theorem h_rt : (("rules" : Str) == "tables") = false := by decide +kernel
theorem h_it : (("indexes" : Str) == "tables") = false := by decide +kernel
theorem h_ir : (("indexes" : Str) == "rules") = false := by decide +kernel
theorem h_vt : (("views" : Str) == "tables") = false := by decide +kernel
theorem h_vr : (("views" : Str) == "rules") = false := by decide +kernel
theorem h_vi : (("views" : Str) == "indexes") = false := by decide +kernel
theorem h_wt : (("widths" : Str) == "tables") = false := by decide +kernel
theorem h_wr : (("widths" : Str) == "rules") = false := by decide +kernel
theorem h_wi : (("widths" : Str) == "indexes") = false := by decide +kernel
theorem h_wv : (("widths" : Str) == "views") = false := by decide +kernel
theorem hf_tables : fldD C.House "tables" (houO C ts w) = some (tabsD ts) := by
  unfold houO hNs
  rw [fldD_eq]
  rfl
theorem hf_rules : fldD C.House "rules" (houO C ts w) = some (.tup []) := by
  unfold houO hNs
  rw [fldD_eq]
  simp [List.zip, List.zipWith, List.lookup, h_rt]
theorem hf_indexes : fldD C.House "indexes" (houO C ts w) = some (.tup []) := by
  unfold houO hNs
  rw [fldD_eq]
  simp [List.zip, List.zipWith, List.lookup, h_it, h_ir]
theorem hf_views : fldD C.House "views" (houO C ts w) = some (.tup []) := by
  unfold houO hNs
  rw [fldD_eq]
  simp [List.zip, List.zipWith, List.lookup, h_vt, h_vr, h_vi]
theorem hf_widths : fldD C.House "widths" (houO C ts w) = some w := by
  unfold houO hNs
  rw [fldD_eq]
  simp [List.zip, List.zipWith, List.lookup, h_wt, h_wr, h_wi, h_wv]
end
theorem ck_le {i j : Int} (h : i ≤ j) : (fun (i j : Int) => D.bl (decide (i ≤ j))) i j = .bl true := by
  show D.bl (decide _) = _
  rw [decide_eq_true h]
theorem ck_not {p : Prop} [Decidable p] (h : p) : (!decide p) = false := by rw [decide_eq_true h]; rfl
theorem p_check_rules {C : Cls} : BodyOk 1 5 B_check_rules (a_check_rules C) (S_check_rules C) := by
  rintro _ R ⟨q, dc, ts, rfl, ok, k⟩
  refine ⟨rfl, own0 (ds := []) rfl, ?_⟩
  conv => whnf
  repeat (refine ⟨trivial, ?_⟩; conv => whnf)
  refine ⟨_, hf_rules, ?_⟩
  conv => whnf
  repeat (refine ⟨trivial, ?_⟩; conv => whnf)
  refine ⟨"tuple", true, rfl, by decide +kernel, ?_⟩
  conv => whnf
  repeat (refine ⟨trivial, ?_⟩; conv => whnf)
  refine brF rfl ?_
  conv => whnf
  repeat (refine ⟨trivial, ?_⟩; conv => whnf)
  refine ⟨_, hf_rules, ?_⟩
  conv => whnf
  repeat (refine ⟨trivial, ?_⟩; conv => whnf)
  rw [show decide ((16 : Int) < (([] : List D).length : Int)) = false by decide]
  rw [brP_false]
  conv => whnf
  repeat (refine ⟨trivial, ?_⟩; conv => whnf)
  refine ⟨Nat.zero_le _, ?_⟩
  conv => whnf
  repeat (refine ⟨trivial, ?_⟩; conv => whnf)
  refine ⟨Nat.zero_le _, ?_⟩
  conv => whnf
  repeat (refine ⟨trivial, ?_⟩; conv => whnf)
  refine ⟨_, hf_rules, ?_⟩
  conv => whnf
  repeat (refine ⟨trivial, ?_⟩; conv => whnf)
  intro _
  exact k
theorem outs_first {ts : List Tab} {S : D → Option D → Prop} (h : ∀ (t : Tab) oz, S (tabD t) oz → oz = some (.str t.1)) {zs : List D} (o : Outs S (ts.map tabD) zs) : zs = ts.map fun t => D.str t.1 :=
  o.map (f := fun t : Tab => D.str t.1) fun t oz e => h t oz e
theorem no2 {env : AEnv} {i j : Nat} (h1 : env[i]? = some .un) (h2 : env[j]? = some .un) : noOwn env [i, j] := fun m hm d z => by
  simp only [List.mem_cons, List.not_mem_nil, or_false] at hm
  rcases hm with rfl | rfl
  · rw [h1] at z; cases z
  · rw [h2] at z; cases z
theorem strE_inj {a b : Tab} (h : tabD a = tabD b) : a = b := by
  obtain ⟨x, xs⟩ := a
  obtain ⟨y, ys⟩ := b
  unfold tabD at h
  simp only [D.tup.injEq, List.cons.injEq, D.str.injEq, and_true] at h
  obtain ⟨rfl, e⟩ := h
  have : ∀ {l m : List Str}, l.map D.str = m.map D.str → l = m := fun {l} => by
    induction l with
    | nil => intro m e; cases m with
      | nil => rfl
      | cons => cases e
    | cons a l ih => intro m e; cases m with
      | nil => cases e
      | cons b m =>
        simp only [List.map_cons, List.cons.injEq, D.str.injEq] at e
        rw [e.1, ih e.2]
  rw [this e]
theorem p_check_indexes {C : Cls} : BodyOk 1 6 B_check_indexes (a_check_indexes C) (S_check_indexes C) := by
  rintro _ R ⟨q, dc, ts, rfl, ok, k⟩
  refine ⟨rfl, own0 (ds := []) rfl, ?_⟩
  conv => whnf
  repeat (refine ⟨trivial, ?_⟩; conv => whnf)
  refine ⟨_, hf_indexes, ?_⟩
  conv => whnf
  repeat (refine ⟨trivial, ?_⟩; conv => whnf)
  refine ⟨"tuple", true, rfl, by decide +kernel, ?_⟩
  conv => whnf
  repeat (refine ⟨trivial, ?_⟩; conv => whnf)
  refine brF rfl ?_
  conv => whnf
  repeat (refine ⟨trivial, ?_⟩; conv => whnf)
  refine ⟨_, hf_indexes, ?_⟩
  conv => whnf
  repeat (refine ⟨trivial, ?_⟩; conv => whnf)
  rw [show decide ((6 : Int) < (([] : List D).length : Int)) = false by decide]
  rw [brP_false]
  conv => whnf
  repeat (refine ⟨trivial, ?_⟩; conv => whnf)
  refine ⟨_, hf_tables, ?_⟩
  conv => whnf
  repeat (refine ⟨trivial, ?_⟩; conv => whnf)
  intro _
  refine ⟨no2 rfl rfl, sz_le (by rw [List.length_map]; have := ok.few; omega), ?_⟩
  refine lc_ind (Ev := fun env => env = [.own (houD C q dc ts), .un, .un, .un, .un, .un]) (Stp := fun y oz => ∃ t : Tab, y = tabD t ∧ oz = some (.str t.1)) _ ?_ _ _ rfl ?_
  · rintro y hy _ K rfl hK
    obtain ⟨t, ht, rfl⟩ := List.mem_map.mp hy
    conv => whnf
    repeat (refine ⟨trivial, ?_⟩; conv => whnf)
    refine ⟨rfl, ?_⟩
    conv => whnf
    repeat (refine ⟨trivial, ?_⟩; conv => whnf)
    refine ⟨rfl, ?_⟩
    conv => whnf
    repeat (refine ⟨trivial, ?_⟩; conv => whnf)
    rw [brP_true]
    conv => whnf
    repeat (refine ⟨trivial, ?_⟩; conv => whnf)
    exact hK _ _ rfl ⟨t, rfl, rfl⟩
  · rintro zs _ o rfl
    conv => whnf
    repeat (refine ⟨trivial, ?_⟩; conv => whnf)
    refine ⟨_, hf_indexes, ?_⟩
    conv => whnf
    repeat (refine ⟨trivial, ?_⟩; conv => whnf)
    intro _
    exact k
theorem p_check_views {C : Cls} : BodyOk 1 6 B_check_views (a_check_views C) (S_check_views C) := by
  rintro _ R ⟨q, dc, ts, rfl, ok, k⟩
  refine ⟨rfl, own0 (ds := []) rfl, ?_⟩
  conv => whnf
  repeat (refine ⟨trivial, ?_⟩; conv => whnf)
  refine ⟨_, hf_views, ?_⟩
  conv => whnf
  repeat (refine ⟨trivial, ?_⟩; conv => whnf)
  refine ⟨"tuple", true, rfl, by decide +kernel, ?_⟩
  conv => whnf
  repeat (refine ⟨trivial, ?_⟩; conv => whnf)
  refine brF rfl ?_
  conv => whnf
  repeat (refine ⟨trivial, ?_⟩; conv => whnf)
  refine ⟨_, hf_views, ?_⟩
  conv => whnf
  repeat (refine ⟨trivial, ?_⟩; conv => whnf)
  rw [show decide ((4 : Int) < (([] : List D).length : Int)) = false by decide]
  rw [brP_false]
  conv => whnf
  repeat (refine ⟨trivial, ?_⟩; conv => whnf)
  refine ⟨_, hf_tables, ?_⟩
  conv => whnf
  repeat (refine ⟨trivial, ?_⟩; conv => whnf)
  intro _
  refine ⟨no2 rfl rfl, sz_le (by rw [List.length_map]; have := ok.few; omega), ?_⟩
  refine lc_ind (Ev := fun env => env = [.own (houD C q dc ts), .un, .un, .un, .un, .un]) (Stp := fun y oz => ∃ t : Tab, y = tabD t ∧ oz = some (.str t.1)) _ ?_ _ _ rfl ?_
  · rintro y hy _ K rfl hK
    obtain ⟨t, ht, rfl⟩ := List.mem_map.mp hy
    conv => whnf
    repeat (refine ⟨trivial, ?_⟩; conv => whnf)
    refine ⟨rfl, ?_⟩
    conv => whnf
    repeat (refine ⟨trivial, ?_⟩; conv => whnf)
    refine ⟨rfl, ?_⟩
    conv => whnf
    repeat (refine ⟨trivial, ?_⟩; conv => whnf)
    rw [brP_true]
    conv => whnf
    repeat (refine ⟨trivial, ?_⟩; conv => whnf)
    exact hK _ _ rfl ⟨t, rfl, rfl⟩
  · rintro zs _ o rfl
    have zl : zs.length ≤ 8 := by
      have := o.len
      rw [List.length_map] at this
      have := ok.few
      omega
    conv => whnf
    repeat (refine ⟨trivial, ?_⟩; conv => whnf)
    refine ⟨_, hf_indexes, ?_⟩
    conv => whnf
    repeat (refine ⟨trivial, ?_⟩; conv => whnf)
    intro _
    refine ⟨noOwn_one (x := .un) rfl (fun e z => by cases z), Nat.zero_le _, ?_⟩
    conv => whnf
    repeat (refine ⟨trivial, ?_⟩; conv => whnf)
    refine ⟨sz_le (by simp only [List.length_nil]; omega), ?_⟩
    conv => whnf
    repeat (refine ⟨trivial, ?_⟩; conv => whnf)
    refine ⟨_, hf_views, ?_⟩
    conv => whnf
    repeat (refine ⟨trivial, ?_⟩; conv => whnf)
    intro _
    exact k
end AL
namespace AL
open PySem L2
/-! P12: the tables are checked; a house is made. -/
theorem str_mem {x : Str} {xs : List Str} : D.str x ∈ xs.map D.str ↔ x ∈ xs := by
  rw [List.mem_map]
  constructor
  · rintro ⟨y, h, e⟩
    cases e
    exact h
  · exact fun h => ⟨x, h, rfl⟩
theorem nd_len {α : Type} [DecidableEq α] {l m : List α} (h1 : l.Nodup) (h2 : m.Nodup) (h : ∀ x, x ∈ l ↔ x ∈ m) : l.length = m.length :=
  Nat.le_antisymm (nd_sub_len h1 fun x hx => (h x).mp hx) (nd_sub_len h2 fun x hx => (h x).mpr hx)
theorem ct_body {C : Cls} {q : Addr} {dc : D} {ts : List Tab} {M : AEnv → Prop} {rt : RV → AEnv → Prop} {bk : AEnv → Prop} {ct : AEnv → Prop} (ok : TabsOk ts) (done : List Tab) (t : Tab) (ht : t ∈ ts) (hd : done.length ≤ 8) (hn : t.1 ∉ done.map (·.1)) (hs : ∀ x ∈ done, x ∈ ts)
    (h : M [.own (houD C q dc ts), .dat (tabsD ts), .own (.lst ((done ++ [t]).map fun t => D.str t.1)), .dat (.str t.1), .dat (.tup (t.2.map D.str)), .un]) :
    check_tables_2_0 C { nx := M, ct := ct, bk := bk, rt := rt } [.own (houD C q dc ts), .dat (tabsD ts), .own (.lst (done.map fun t => D.str t.1)), .dat (.str t.1), .dat (.tup (t.2.map D.str)), .un] := by
  obtain ⟨cne, c4, cnd⟩ := ok.cn t ht
  have c1 : 0 < t.2.length := List.length_pos_iff.mpr cne
  have nm := ok.nm t ht
  conv => whnf
  repeat (refine ⟨trivial, ?_⟩; conv => whnf)
  refine use_longname t.1 nm ?_
  conv => whnf
  repeat (refine ⟨trivial, ?_⟩; conv => whnf)
  refine brF rfl ?_
  conv => whnf
  repeat (refine ⟨trivial, ?_⟩; conv => whnf)
  have en : (done.map fun t => D.str t.1) = (done.map (·.1)).map D.str := by rw [List.map_map]; rfl
  refine in_lst (m := 0) (n := 0) (.str 0 nm.ok) (fun y hy => ?_) ?_
  · obtain ⟨u, hu, rfl⟩ := List.mem_map.mp hy
    exact .str 0 (ok.nm u (hs u hu)).ok
  have e0 : decide (D.str t.1 ∈ (done.map fun t => D.str t.1)) = false := decide_eq_false (by rw [en, str_mem]; exact hn)
  rw [e0]
  refine brF rfl ?_
  conv => whnf
  repeat (refine ⟨trivial, ?_⟩; conv => whnf)
  refine ⟨⟨_, rfl⟩, ?_⟩
  conv => whnf
  repeat (refine ⟨trivial, ?_⟩; conv => whnf)
  refine ⟨by rw [List.length_map]; exact sz_lt (by omega), ?_⟩
  conv => whnf
  repeat (refine ⟨trivial, ?_⟩; conv => whnf)
  refine ⟨"tuple", true, rfl, by decide +kernel, ?_⟩
  conv => whnf
  repeat (refine ⟨trivial, ?_⟩; conv => whnf)
  refine brF rfl ?_
  conv => whnf
  repeat (refine ⟨trivial, ?_⟩; conv => whnf)
  have l1 : ((t.2.map D.str).length : Int) = (t.2.length : Int) := by rw [List.length_map]
  have k1 : (fun (i j : Int) => D.bl (decide (i ≤ j))) 1 ((t.2.map D.str).length : Int) = .bl true := ck_le (by rw [l1]; omega)
  rw [k1]
  conv => whnf
  repeat (refine ⟨trivial, ?_⟩; conv => whnf)
  have k2 : (!decide (((t.2.map D.str).length : Int) ≤ 4)) = false := ck_not (by rw [l1]; omega)
  refine brF k2 ?_
  conv => whnf
  repeat (refine ⟨trivial, ?_⟩; conv => whnf)
  intro _
  refine ⟨noOwn_one (x := .un) rfl (fun e z => by cases z), sz_le (by rw [List.length_map]; omega), ?_⟩
  refine lc_ind (Ev := fun env => env = [.own (houD C q dc ts), .dat (tabsD ts), .own (.lst ((done.map fun t => D.str t.1) ++ [.str t.1])), .dat (.str t.1), .dat (.tup (t.2.map D.str)), .un]) (Stp := fun y oz => oz = some (.bl true)) _ ?_ _ _ rfl ?_
  · rintro y hy _ K rfl hK
    obtain ⟨c, hc, rfl⟩ := List.mem_map.mp hy
    conv => whnf
    repeat (refine ⟨trivial, ?_⟩; conv => whnf)
    rw [brP_true]
    conv => whnf
    repeat (refine ⟨trivial, ?_⟩; conv => whnf)
    refine use_name c (ok.cm t ht c hc) ?_
    conv => whnf
    repeat (refine ⟨trivial, ?_⟩; conv => whnf)
    exact hK _ _ rfl rfl
  · rintro zs _ o rfl
    obtain ⟨m, rfl⟩ := outs_true (fun _ _ h => h) o
    conv => whnf
    repeat (refine ⟨trivial, ?_⟩; conv => whnf)
    refine ⟨_, rfl, ?_⟩
    rw [all_true]
    refine brF rfl ?_
    conv => whnf
    repeat (refine ⟨trivial, ?_⟩; conv => whnf)
    refine ⟨t.2, rfl, by omega, fun ms nd hm => ?_⟩
    have el : ms.length = t.2.length := nd_len nd cnd hm
    rw [el]
    conv => whnf
    repeat (refine ⟨trivial, ?_⟩; conv => whnf)
    refine ne_int ?_
    have e3 : decide ((t.2.length : Int) = ((t.2.map D.str).length : Int)) = true := decide_eq_true l1.symm
    rw [e3]
    refine brF rfl ?_
    conv => whnf
    repeat (refine ⟨trivial, ?_⟩; conv => whnf)
    rw [List.map_append] at h
    exact h
theorem p_check_tables {C : Cls} : BodyOk 1 6 B_check_tables (a_check_tables C) (S_check_tables C) := by
  rintro _ R ⟨q, dc, ts, rfl, ok, k⟩
  refine ⟨rfl, own0 (ds := []) rfl, ?_⟩
  have t1 : 0 < ts.length := List.length_pos_iff.mpr ok.ne
  have t8 := ok.few
  conv => whnf
  repeat (refine ⟨trivial, ?_⟩; conv => whnf)
  refine ⟨_, hf_tables, ?_⟩
  conv => whnf
  repeat (refine ⟨trivial, ?_⟩; conv => whnf)
  refine ⟨"tuple", true, rfl, by decide +kernel, ?_⟩
  conv => whnf
  repeat (refine ⟨trivial, ?_⟩; conv => whnf)
  refine brF rfl ?_
  conv => whnf
  repeat (refine ⟨trivial, ?_⟩; conv => whnf)
  have l1 : ((ts.map tabD).length : Int) = (ts.length : Int) := by rw [List.length_map]
  have k1 : (fun (i j : Int) => D.bl (decide (i ≤ j))) 1 ((ts.map tabD).length : Int) = .bl true := ck_le (by rw [l1]; omega)
  rw [k1]
  conv => whnf
  repeat (refine ⟨trivial, ?_⟩; conv => whnf)
  have k2 : (!decide (((ts.map tabD).length : Int) ≤ 8)) = false := ck_not (by rw [l1]; omega)
  refine brF k2 ?_
  conv => whnf
  repeat (refine ⟨trivial, ?_⟩; conv => whnf)
  refine ⟨Nat.zero_le _, ?_⟩
  conv => whnf
  repeat (refine ⟨trivial, ?_⟩; conv => whnf)
  intro _
  refine for_ind (Iv := fun items env => ∃ (done rest : List Tab) (x3 x4 : AV), ts = done ++ rest ∧ items = rest.map tabD ∧ env = [.own (houD C q dc ts), .dat (tabsD ts), .own (.lst (done.map fun t => D.str t.1)), x3, x4, .un]) ?_ ?_ _ _ ⟨[], ts, .un, .un, rfl, rfl, rfl⟩
  · rintro env ⟨done, rest, x3, x4, _, _, rfl⟩
    conv => whnf
    repeat (refine ⟨trivial, ?_⟩; conv => whnf)
    exact k
  · rintro d ds env M hM ⟨done, rest, x3, x4, et, e, rfl⟩
    obtain ⟨t, r, rfl, rfl, rfl⟩ := map_cons_inv e.symm
    refine And.intro rfl (And.intro rfl ?_)
    refine ct_body ok done t (by rw [et]; simp) (by rw [et] at t8; rw [List.length_append] at t8; omega) (fun hm => ?_) (fun x hx => by rw [et]; exact List.mem_append.mpr (.inl hx)) ?_
    · have nd := ok.nd
      rw [et, List.map_append, List.map_cons] at nd
      exact (List.nodup_append.mp nd).2.2 _ hm _ List.mem_cons_self rfl
    · exact hM _ ⟨done ++ [t], r, _, _, by rw [et, List.append_assoc]; rfl, rfl, rfl⟩
theorem use_checks {C : Cls} {S : ASp} (hS : S = S_checks C) {env : AEnv} (j : Nat) {q : Addr} {dc : D} {ts : List Tab} {R : RV → AEnv → Prop} (e : env[j]? = some (.own (houD C q dc ts))) (ok : TabsOk ts) (k : R (.dat .non) (env.set j (.own (houD C q dc ts)))) : callR S [.at j] env R := by
  subst hS
  exact call_lent j [] e ⟨q, dc, ts, rfl, ok, k⟩
theorem hm_tr : ¬ ("tables" : Str) = "rules" := by decide +kernel
theorem hm_ti : ¬ ("tables" : Str) = "indexes" := by decide +kernel
theorem hm_ri : ¬ ("rules" : Str) = "indexes" := by decide +kernel
theorem hm_tv : ¬ ("tables" : Str) = "views" := by decide +kernel
theorem hm_rv : ¬ ("rules" : Str) = "views" := by decide +kernel
theorem hm_iv : ¬ ("indexes" : Str) = "views" := by decide +kernel
theorem hm_tw : ¬ ("tables" : Str) = "widths" := by decide +kernel
theorem hm_rw : ¬ ("rules" : Str) = "widths" := by decide +kernel
theorem hm_iw : ¬ ("indexes" : Str) = "widths" := by decide +kernel
theorem hm_vw : ¬ ("views" : Str) = "widths" := by decide +kernel
theorem p_House_init {C : Cls} : BodyOk 5 7 B_House_init (a_House_init C) (S_House_init C) := by
  rintro _ R ⟨ts, rfl, ok, k⟩
  refine ⟨rfl, own0 (ds := [_, _, _, _]) rfl, ?_⟩
  have t8 := ok.few
  conv => whnf
  have e1 : ∀ a, oPut "tables" a [] [] = ((["tables"] : List Str), [a]) := fun a => rfl
  have e2 : ∀ a b, oPut "rules" b ["tables"] [a] = ((["tables", "rules"] : List Str), [a, b]) := fun a b => by simp [oPut, hm_tr]
  have e3 : ∀ a b c, oPut "indexes" c ["tables", "rules"] [a, b] = ((["tables", "rules", "indexes"] : List Str), [a, b, c]) := fun a b c => by simp [oPut, hm_ti, hm_ri]
  have e4 : ∀ a b c e, oPut "views" e ["tables", "rules", "indexes"] [a, b, c] = ((["tables", "rules", "indexes", "views"] : List Str), [a, b, c, e]) := fun a b c e => by simp [oPut, hm_tv, hm_rv, hm_iv]
  have e5 : ∀ a b c e f, oPut "widths" f ["tables", "rules", "indexes", "views"] [a, b, c, e] = ((["tables", "rules", "indexes", "views", "widths"] : List Str), [a, b, c, e, f]) := fun a b c e f => by simp [oPut, hm_tw, hm_rw, hm_iw, hm_vw]
  refine ⟨rfl, by decide, ?_⟩
  rw [e1]
  conv => whnf
  refine ⟨rfl, by simp, ?_⟩
  rw [e2]
  conv => whnf
  refine ⟨rfl, by simp, ?_⟩
  rw [e3]
  conv => whnf
  refine ⟨rfl, by simp, ?_⟩
  rw [e4]
  conv => whnf
  refine ⟨rfl, by simp, fun q => ?_⟩
  rw [e5]
  conv => whnf
  repeat (refine ⟨trivial, ?_⟩; conv => whnf)
  refine use_checks rfl 0 (q := q) (dc := .dic [] []) (ts := ts) rfl ok ?_
  conv => whnf
  repeat (refine ⟨trivial, ?_⟩; conv => whnf)
  intro _
  refine for_ind (Iv := fun items env => ∃ (rest : List Tab) (ks vs : List D) (x5 x6 : AV), items = rest.map tabD ∧ (∀ t ∈ rest, t ∈ ts) ∧ ks.length + rest.length ≤ 8 ∧ env = [.own (houD C q (.dic ks vs) ts), .dat (tabsD ts), .dat (.tup []), .dat (.tup []), .dat (.tup []), x5, x6]) ?_ ?_ _ _ ⟨ts, [], [], .un, .un, rfl, fun _ h => h, by simpa using t8, rfl⟩
  · rintro env ⟨rest, ks, vs, x5, x6, e, hr, hz, rfl⟩
    conv => whnf
    repeat (refine ⟨trivial, ?_⟩; conv => whnf)
    refine use_checks rfl 0 (q := q) (dc := .dic ks vs) (ts := ts) rfl ok ?_
    conv => whnf
    repeat (refine ⟨trivial, ?_⟩; conv => whnf)
    refine use_checks rfl 0 (q := q) (dc := .dic ks vs) (ts := ts) rfl ok ?_
    conv => whnf
    repeat (refine ⟨trivial, ?_⟩; conv => whnf)
    refine use_checks rfl 0 (q := q) (dc := .dic ks vs) (ts := ts) rfl ok ?_
    conv => whnf
    repeat (refine ⟨trivial, ?_⟩; conv => whnf)
    exact k q _
  · rintro d ds env M hM ⟨rest, ks, vs, x5, x6, e, hr, hz, rfl⟩
    obtain ⟨t, r, rfl, rfl, rfl⟩ := map_cons_inv e.symm
    rw [List.length_cons] at hz
    conv => whnf
    repeat (refine ⟨trivial, ?_⟩; conv => whnf)
    refine ⟨rfl, ?_⟩
    conv => whnf
    repeat (refine ⟨trivial, ?_⟩; conv => whnf)
    refine ⟨rfl, ?_⟩
    conv => whnf
    repeat (refine ⟨trivial, ?_⟩; conv => whnf)
    refine ⟨_, hf_widths, ?_⟩
    conv => whnf
    repeat (refine ⟨trivial, ?_⟩; conv => whnf)
    unfold setPtr
    refine ⟨0, .dic ks vs, rfl, rfl, rfl, sz_lt (by omega), ?_⟩
    refine hM _ ⟨r, _, _, _, _, rfl, fun x hx => hr x (List.mem_cons_of_mem _ hx), ?_, rfl⟩
    unfold dPutK
    split
    · omega
    · rw [List.length_append, List.length_singleton]; omega
end AL
namespace AL
open PySem L2
/-! P13: a world is made. -/
theorem wm_tr : ¬ ("tables" : Str) = "ranks" := by decide +kernel
theorem p_World_init {C : Cls} : BodyOk 3 3 B_World_init (a_World_init C) (S_World_init C) := by
  rintro _ R ⟨a, b, rfl, k⟩
  refine ⟨rfl, own0 (ds := [_, _]) rfl, ?_⟩
  conv => whnf
  have e1 : oPut "tables" a [] [] = ((["tables"] : List Str), [a]) := rfl
  have e2 : oPut "ranks" b ["tables"] [a] = ((["tables", "ranks"] : List Str), [a, b]) := by simp [oPut, wm_tr]
  refine ⟨rfl, by decide, ?_⟩
  rw [e1]
  conv => whnf
  refine ⟨rfl, by simp, ?_⟩
  rw [e2]
  exact k
theorem tm_mem {r : List Int} {rs : List (List Int)} : tmD r ∈ rs.map tmD ↔ r ∈ rs := by
  rw [List.mem_map]
  constructor
  · rintro ⟨q, h, e⟩
    rw [← tmD_inj.mp e]; exact h
  · exact fun h => ⟨r, h, rfl⟩
theorem tms_pl {rs : List (List Int)} : ∀ x ∈ rs.map tmD, Pl 1 x := fun x h => by
  obtain ⟨r, _, rfl⟩ := List.mem_map.mp h
  exact tmD_pl r
/-- the rows found so far, and those to come -/
def fnF (f : List (List Int)) (n : Str) (ps : List Row) : List (List Int) := unl f ((ps.filter fun p => decide (p.1 = n)).map (·.2))
theorem unl_cons {α : Type} [DecidableEq α] (told : List α) (x : α) (xs : List α) : unl told (x :: xs) = if x ∈ told then unl told xs else unl (told ++ [x]) xs := by
  show unl (if x ∈ told then told else told ++ [x]) xs = _
  split <;> rfl
theorem fnF_cons (f : List (List Int)) (n : Str) (p : Row) (ps : List Row) : fnF f n (p :: ps) = if p.1 = n then (if p.2 ∈ f then fnF f n ps else fnF (f ++ [p.2]) n ps) else fnF f n ps := by
  unfold fnF
  by_cases c : p.1 = n
  · rw [List.filter_cons_of_pos (by simpa using c), List.map_cons, if_pos c]
    rw [unl_cons]
    by_cases c2 : p.2 ∈ f
    · rw [if_pos c2, if_pos c2]
    · rw [if_neg c2, if_neg c2]
  · rw [List.filter_cons_of_neg (by simpa using c), if_neg c]
theorem wo_inner {C : Cls} {A : AEnds} {x0 x1 x2 x3 x5 x7 x8 : AV} {n : Str} (hn : PyData.strOk n = true) (ps : List Row) (ok : RowsOk' ps) (h : ∀ y7 y8, A.nx [x0, x1, x2, x3, .dat (.str n), x5, .own (.lst ((fnd ps n).map tmD)), y7, y8]) :
    forL (agTup 2 (agCons (agName 7) (agCons (agName 8) agNil))) (world_of_2_0 C) A (ps.map rowD) [x0, x1, x2, x3, .dat (.str n), x5, .own (.lst []), x7, x8] := by
  refine for_ind (Iv := fun items env => ∃ (f : List (List Int)) (us : List Row) (y7 y8 : AV), items = us.map rowD ∧ env = [x0, x1, x2, x3, .dat (.str n), x5, .own (.lst (f.map tmD)), y7, y8] ∧ fnF f n us = fnd ps n ∧ (∀ r ∈ us, PyData.strOk r.1 = true) ∧ f.length + us.length ≤ 18) ?_ ?_ _ _ ⟨[], ps, x7, x8, rfl, rfl, rfl, fun r hr => (ok.2 r hr).1, by simpa using ok.1⟩
  · rintro env ⟨f, us, y7, y8, e, rfl, ef, _, hz⟩
    cases us with
    | cons u r => cases e
    | nil =>
      have : fnF f n [] = f := rfl
      rw [this] at ef
      rw [ef]
      exact h _ _
  · rintro d ds env M hM ⟨f, us, y7, y8, e, rfl, ef, hs, hz⟩
    obtain ⟨r, q, rfl, rfl, rfl⟩ := map_cons_inv e.symm
    rw [List.length_cons] at hz
    rw [fnF_cons] at ef
    have hs2 : ∀ z ∈ q, PyData.strOk z.1 = true := fun z hz => hs z (List.mem_cons_of_mem _ hz)
    conv => whnf
    repeat (refine ⟨trivial, ?_⟩; conv => whnf)
    refine ⟨rfl, ?_⟩
    conv => whnf
    repeat (refine ⟨trivial, ?_⟩; conv => whnf)
    refine ⟨rfl, ?_⟩
    conv => whnf
    repeat (refine ⟨trivial, ?_⟩; conv => whnf)
    refine eq_pl (.str 0 (hs r List.mem_cons_self)) (.str 0 hn) ?_
    refine brI (fun c => ?_) (fun c => ?_)
    · have c : r.1 = n := by simpa using c
      rw [if_pos c] at ef
      conv => whnf
      repeat (refine ⟨trivial, ?_⟩; conv => whnf)
      refine notin_lst (tmD_pl r.2) tms_pl ?_
      refine brI (fun c2 => ?_) (fun c2 => ?_)
      · have c2 : r.2 ∉ f := by simpa [tm_mem] using c2
        rw [if_neg c2] at ef
        conv => whnf
        repeat (refine ⟨trivial, ?_⟩; conv => whnf)
        refine ⟨⟨_, rfl⟩, ?_⟩
        conv => whnf
        repeat (refine ⟨trivial, ?_⟩; conv => whnf)
        refine ⟨by rw [List.length_map]; exact sz_lt (by omega), ?_⟩
        conv => whnf
        repeat (refine ⟨trivial, ?_⟩; conv => whnf)
        exact hM _ ⟨f ++ [r.2], q, _, _, rfl, by rw [List.map_append]; rfl, ef, hs2, by rw [List.length_append, List.length_singleton]; omega⟩
      · have c2 : r.2 ∈ f := by simpa [tm_mem] using c2
        rw [if_pos c2] at ef
        conv => whnf
        repeat (refine ⟨trivial, ?_⟩; conv => whnf)
        exact hM _ ⟨f, q, _, _, rfl, rfl, ef, hs2, by omega⟩
    · have c : ¬ r.1 = n := by simpa using c
      rw [if_neg c] at ef
      conv => whnf
      repeat (refine ⟨trivial, ?_⟩; conv => whnf)
      rw [brP_false]
      conv => whnf
      repeat (refine ⟨trivial, ?_⟩; conv => whnf)
      exact hM _ ⟨f, q, _, _, rfl, rfl, ef, hs2, by omega⟩
theorem p_world_of {C : Cls} : BodyOk 3 9 B_world_of (a_world_of C) (S_world_of C) := by
  rintro _ R ⟨ts, w, ps, rk, rfl, ok, pok, k⟩
  refine ⟨rfl, ownN (ds := [_, _, _]), ?_⟩
  have t8 := ok.few
  conv => whnf
  repeat (refine ⟨trivial, ?_⟩; conv => whnf)
  refine ⟨_, hf_tables, ?_⟩
  conv => whnf
  repeat (refine ⟨trivial, ?_⟩; conv => whnf)
  intro _
  refine for_ind (Iv := fun items env => ∃ (done rest : List Tab) (x4 x5 x6 x7 x8 : AV), ts = done ++ rest ∧ items = rest.map tabD ∧ env = [.dat (houO C ts w), .dat (.lst (ps.map rowD)), .dat rk, .own (.dic (done.map fun t => D.str t.1) (done.map fun t => D.tup ((fnd ps t.1).map tmD))), x4, x5, x6, x7, x8]) ?_ ?_ _ _ ⟨[], ts, .un, .un, .un, .un, .un, rfl, rfl, rfl⟩
  · rintro env ⟨done, rest, x4, x5, x6, x7, x8, et, e, rfl⟩
    cases rest with
    | cons u r => cases e
    | nil =>
      rw [List.append_nil] at et
      subst et
      conv => whnf
      repeat (refine ⟨trivial, ?_⟩; conv => whnf)
      refine call_lent 9 [wT ts ps, rk] (S := S_World_init C) (env := [.dat (houO C ts w), .dat (.lst (ps.map rowD)), .dat rk, .dat (wT ts ps), x4, x5, x6, x7, x8, .own (.obj C.World [] [])]) rfl ⟨_, _, rfl, ?_⟩
      conv => whnf
      repeat (refine ⟨trivial, ?_⟩; conv => whnf)
      exact ⟨rfl, _, rfl, new_ _, k⟩
  · rintro d ds env M hM ⟨done, rest, x4, x5, x6, x7, x8, et, e, rfl⟩
    obtain ⟨t, r, rfl, rfl, rfl⟩ := map_cons_inv e.symm
    have tin : t ∈ ts := by rw [et]; simp
    have nm := ok.nm t tin
    conv => whnf
    repeat (refine ⟨trivial, ?_⟩; conv => whnf)
    refine ⟨rfl, ?_⟩
    conv => whnf
    repeat (refine ⟨trivial, ?_⟩; conv => whnf)
    refine ⟨rfl, ?_⟩
    conv => whnf
    repeat (refine ⟨trivial, ?_⟩; conv => whnf)
    refine ⟨Nat.zero_le _, ?_⟩
    conv => whnf
    repeat (refine ⟨trivial, ?_⟩; conv => whnf)
    intro _
    refine wo_inner nm.ok ps pok fun y7 y8 => ?_
    conv => whnf
    repeat (refine ⟨trivial, ?_⟩; conv => whnf)
    refine set_dic rfl rfl ?_ ?_ ?_
    · have en : (done.map fun t => D.str t.1) = (done.map (·.1)).map D.str := by rw [List.map_map]; rfl
      rw [en, str_mem]
      intro hm
      have nd := ok.nd
      rw [et, List.map_append, List.map_cons] at nd
      exact (List.nodup_append.mp nd).2.2 _ hm _ List.mem_cons_self rfl
    · rw [List.length_map]
      rw [et, List.length_append] at t8
      omega
    · exact hM _ ⟨done ++ [t], r, _, _, _, _, _, by rw [et, List.append_assoc]; rfl, rfl, by rw [List.map_append, List.map_append]; rfl⟩
theorem use_worldof {C : Cls} {env : AEnv} (ts : List Tab) (w : D) (ps : List Row) (rk : D) {R : RV → AEnv → Prop} (ok : TabsOk ts) (pok : RowsOk' ps) (k : R (.new (worD C ts ps rk)) env) : callR (S_world_of C) [.dat (houO C ts w), .dat (.lst (ps.map rowD)), .dat rk] env R :=
  call_dats [_, _, _] ⟨ts, w, ps, rk, rfl, ok, pok, k⟩
end AL
namespace AL
open PySem L2
/-! P14: a world's tree and size; sorted tables. -/
def dueD (ps : List Row) (t : Tab) : D := .tup [.str t.1, .tup ((fnd ps t.1).map tmD)]
theorem due_lt (ps : List Row) {a b : Tab} (h : a.1 ≠ b.1) : PySem.W.dataLt (dueD ps a).pd (dueD ps b).pd = PySem.W.dataLt (D.str a.1).pd (D.str b.1).pd := by
  have hc : (Sum.inr a.1.cps.toList : Int ⊕ List Nat) ≠ Sum.inr b.1.cps.toList := fun e => h (PySem.W.str_of_cps (Sum.inr.inj e))
  show PyProof.Rows.lexLt PyProof.Rows.itemOrd (PySem.W.keyToks (.tuple [.str a.1, .tuple (pds ((fnd ps a.1).map tmD))])) (PySem.W.keyToks (.tuple [.str b.1, .tuple (pds ((fnd ps b.1).map tmD))])) = PyProof.Rows.lexLt PyProof.Rows.itemOrd (PySem.W.keyToks (.str a.1)) (PySem.W.keyToks (.str b.1))
  simp only [PySem.W.keyToks, PySem.W.keyToksAll]
  rw [show ∀ l m : List (Int ⊕ List Nat), PyProof.Rows.lexLt PyProof.Rows.itemOrd (Sum.inl 1 :: l) (Sum.inl 1 :: m) = PyProof.Rows.lexLt PyProof.Rows.itemOrd l m from fun l m => PySem.W.lex_pre [Sum.inl 1] l m]
  exact PySem.W.lex_atom hc _ _
theorem dle_refl (d : D) : PySem.W.dataLe false D.pd d d = true := by
  rw [PySem.W.dataLe_eq]
  show (!PySem.W.dataLt d.pd d.pd) = true
  unfold PySem.W.dataLt
  rw [PyProof.Rows.lex_irrefl]
  rfl
theorem nd_inj {α β : Type} {f : α → β} : ∀ {l : List α}, (l.map f).Nodup → ∀ p ∈ l, ∀ q ∈ l, f p = f q → p = q
  | [], _, p, hp, _, _, _ => nomatch hp
  | a :: l, nd, p, hp, q, hq, e => by
    rw [List.map_cons, List.nodup_cons] at nd
    rcases List.mem_cons.mp hp with h1 | h1 <;> rcases List.mem_cons.mp hq with h2 | h2
    · rw [h1, h2]
    · rw [h1] at e
      exact absurd (List.mem_map.mpr ⟨q, h2, e.symm⟩) nd.1
    · rw [h2] at e
      exact absurd (List.mem_map.mpr ⟨p, h1, e⟩) nd.1
    · exact nd_inj nd.2 p h1 q h2 e
theorem sort_due {ts : List Tab} (ps : List Row) (nd : (ts.map (·.1)).Nodup) : sortD (ts.map (dueD ps)) = (srtT ts).map (dueD ps) := by
  unfold sortD srtT
  refine (PySem.W.sort_maps (dueD ps) fun a ha b hb => ?_).symm
  by_cases c : a.1 = b.1
  · have e := nd_inj nd a ha b hb c
    subst e
    rw [dle_refl, dle_refl]
  · rw [PySem.W.dataLe_eq]
    show (!PySem.W.dataLt (D.str b.1).pd (D.str a.1).pd) = !PySem.W.dataLt (dueD ps b).pd (dueD ps a).pd
    rw [due_lt ps fun e => c e.symm]
theorem sort_names (ts : List Tab) : sortD (ts.map fun t => D.str t.1) = (srtT ts).map fun t => D.str t.1 := by
  unfold sortD srtT
  exact (PySem.W.sort_maps (fun t : Tab => D.str t.1) fun a ha b hb => rfl).symm
theorem srt_perm (ts : List Tab) : (srtT ts).Perm ts := List.mergeSort_perm _ _
theorem ok_names {ts : List Tab} (ok : TabsOk ts) : SortOk (ts.map fun t => D.str t.1) := by
  refine ⟨fun d hd d' hd' => ?_, .inr fun d hd => ?_, fun d hd => ?_⟩
  · obtain ⟨e, he, rfl⟩ := List.mem_map.mp hd
    obtain ⟨r, _, rfl⟩ := List.mem_map.mp he
    obtain ⟨e', he', rfl⟩ := List.mem_map.mp hd'
    obtain ⟨q, _, rfl⟩ := List.mem_map.mp he'
    rfl
  · obtain ⟨e, he, rfl⟩ := List.mem_map.mp hd
    obtain ⟨r, _, rfl⟩ := List.mem_map.mp he
    exact ⟨fun e => (by cases e), fun xs e => by cases e⟩
  · obtain ⟨r, hr, rfl⟩ := List.mem_map.mp hd
    have p : Pl 0 (D.str r.1) := .str 0 (ok.nm r hr).ok
    exact ⟨p.sh (by omega), by have := p.dep; omega⟩
theorem alike_ints : ∀ xs ys : List Int, PySem.W.alikeAll (pds (xs.map D.int)) (pds (ys.map D.int)) = true
  | [], _ => by simp [pds, PySem.W.alikeAll]
  | x :: xs, [] => by simp [pds, PySem.W.alikeAll]
  | x :: xs, y :: ys => by
    show PySem.W.alikeAll (.int x :: pds (xs.map D.int)) (.int y :: pds (ys.map D.int)) = true
    rw [PySem.W.alikeAll, alike_ints xs ys]
    rfl
theorem alike_tms : ∀ xs ys : List (List Int), PySem.W.alikeAll (pds (xs.map tmD)) (pds (ys.map tmD)) = true
  | [], _ => by simp [pds, PySem.W.alikeAll]
  | x :: xs, [] => by simp [pds, PySem.W.alikeAll]
  | x :: xs, y :: ys => by
    show PySem.W.alikeAll (.tuple (pds (x.map D.int)) :: pds (xs.map tmD)) (.tuple (pds (y.map D.int)) :: pds (ys.map tmD)) = true
    rw [PySem.W.alikeAll, alike_tms xs ys, PySem.W.alike, alike_ints]
    rfl
theorem due_pl {ps : List Row} {t : Tab} (h : PyData.strOk t.1 = true) : Pl 3 (dueD ps t) := .tup fun d h' => by
  simp only [List.mem_cons, List.not_mem_nil, or_false] at h'
  rcases h' with e | e
  · rw [e]; exact .str 2 h
  · rw [e]; exact .tup fun d hd => tms_pl d hd
theorem ok_due {ts : List Tab} (ok : TabsOk ts) (ps : List Row) : SortOk (ts.map (dueD ps)) := by
  refine ⟨fun d hd d' hd' => ?_, .inl fun d hd => ?_, fun d hd => ?_⟩
  · obtain ⟨e, he, rfl⟩ := List.mem_map.mp hd
    obtain ⟨r, _, rfl⟩ := List.mem_map.mp he
    obtain ⟨e', he', rfl⟩ := List.mem_map.mp hd'
    obtain ⟨q, _, rfl⟩ := List.mem_map.mp he'
    show PySem.W.alike (.tuple [.str r.1, .tuple (pds ((fnd ps r.1).map tmD))]) (.tuple [.str q.1, .tuple (pds ((fnd ps q.1).map tmD))]) = true
    simp [PySem.W.alike, PySem.W.alikeAll, alike_tms]
  · obtain ⟨e, he, rfl⟩ := List.mem_map.mp hd
    obtain ⟨r, _, rfl⟩ := List.mem_map.mp he
    exact ⟨_, _, rfl⟩
  · obtain ⟨r, hr, rfl⟩ := List.mem_map.mp hd
    have p := due_pl (ps := ps) (ok.nm r hr).ok
    exact ⟨p.sh (by omega), by have := p.dep; omega⟩
section
variable {C : Cls} {ts : List Tab} {ps : List Row} {rk : D}
theorem w_rt : (("ranks" : Str) == "tables") = false := by decide +kernel
theorem wf_tables : fldD C.World "tables" (worD C ts ps rk) = some (wT ts ps) := by
  unfold worD
  rw [fldD_eq]
  rfl
theorem wf_ranks : fldD C.World "ranks" (worD C ts ps rk) = some rk := by
  unfold worD
  rw [fldD_eq]
  simp [List.zip, List.zipWith, List.lookup, w_rt]
end
theorem get_wt {ts : List Tab} {f : Tab → D} : ∀ {ts : List Tab}, (ts.map (·.1)).Nodup → ∀ t ∈ ts, dGet (ts.map fun t => D.str t.1) (ts.map f) (.str t.1) = some (f t)
  | [], _, t, h => nomatch h
  | a :: ts, nd, t, h => by
    rw [List.map_cons, List.nodup_cons] at nd
    simp only [List.map_cons, dGet]
    rcases List.mem_cons.mp h with e | e
    · rw [e, if_pos rfl]
    · rw [if_neg fun z => nd.1 (by
        injection z with z
        rw [z]
        exact List.mem_map.mpr ⟨t, e, rfl⟩)]
      exact get_wt (ts := ts) nd.2 t e
theorem wt_unf (ts : List Tab) (ps : List Row) : wT ts ps = .dic (ts.map fun t => D.str t.1) (ts.map fun t => D.tup ((fnd ps t.1).map tmD)) := rfl
theorem p_World_tree {C : Cls} : BodyOk 1 2 B_World_tree (a_World_tree C) (S_World_tree C) := by
  rintro _ R ⟨ts, ps, rk, rfl, ok, k⟩
  refine ⟨rfl, ownN (ds := [_]), ?_⟩
  have t8 := ok.few
  have sl := (srt_perm ts).length_eq
  conv => whnf
  repeat (refine ⟨trivial, ?_⟩; conv => whnf)
  refine ⟨_, wf_tables, ?_⟩
  conv => whnf
  repeat (refine ⟨trivial, ?_⟩; conv => whnf)
  refine ⟨ok_names ok, sz_le (by rw [List.length_map]; omega), ?_⟩
  rw [sort_names]
  conv => whnf
  repeat (refine ⟨trivial, ?_⟩; conv => whnf)
  intro _
  refine ⟨noOwn_one (x := .un) rfl (fun e z => by cases z), sz_le (by rw [List.length_map]; omega), ?_⟩
  refine lc_ind (Ev := fun env => env = [.dat (worD C ts ps rk), .un]) (Stp := fun y oz => ∃ t ∈ ts, y = .str t.1 ∧ oz = some (dueD ps t)) _ ?_ _ _ rfl ?_
  · rintro y hy _ K rfl hK
    obtain ⟨t, ht, rfl⟩ := List.mem_map.mp hy
    have tin := (srt_perm ts).mem_iff.mp ht
    conv => whnf
    repeat (refine ⟨trivial, ?_⟩; conv => whnf)
    rw [brP_true]
    conv => whnf
    repeat (refine ⟨trivial, ?_⟩; conv => whnf)
    refine ⟨_, wf_tables, ?_⟩
    conv => whnf
    repeat (refine ⟨trivial, ?_⟩; conv => whnf)
    refine ix_dic rfl (get_wt (ts := []) ok.nd t tin) ?_
    conv => whnf
    repeat (refine ⟨trivial, ?_⟩; conv => whnf)
    refine ⟨sz2, ?_⟩
    conv => whnf
    repeat (refine ⟨trivial, ?_⟩; conv => whnf)
    exact hK _ _ rfl ⟨t, tin, rfl, rfl⟩
  · rintro zs _ o rfl
    have ez : zs = (srtT ts).map (dueD ps) := by
      have go : ∀ {ys : List Tab} {zs : List D}, Outs (fun y oz => ∃ t ∈ ts, y = .str t.1 ∧ oz = some (dueD ps t)) (ys.map fun t => D.str t.1) zs → (∀ y ∈ ys, y ∈ ts) → zs = ys.map (dueD ps) := fun {ys} => by
        induction ys with
        | nil => intro zs o _; cases o; rfl
        | cons y ys ih =>
          intro zs o hy
          cases o with
          | yes s o =>
            obtain ⟨t, ht, e1, e2⟩ := s
            injection e1 with e1
            have := nd_inj ok.nd y (hy y List.mem_cons_self) t ht e1
            subst this
            cases e2
            rw [ih o fun z hz => hy z (List.mem_cons_of_mem _ hz)]
            rfl
          | no s o =>
            obtain ⟨t, ht, e1, e2⟩ := s
            cases e2
      exact go o fun y hy => (srt_perm ts).mem_iff.mp hy
    rw [ez]
    conv => whnf
    repeat (refine ⟨trivial, ?_⟩; conv => whnf)
    refine ⟨_, wf_ranks, ?_⟩
    conv => whnf
    repeat (refine ⟨trivial, ?_⟩; conv => whnf)
    refine ⟨sz2, ?_⟩
    conv => whnf
    repeat (refine ⟨trivial, ?_⟩; conv => whnf)
    exact ⟨nat_ _, k⟩
theorem p_World_size {C : Cls} : BodyOk 1 2 B_World_size (a_World_size C) (S_World_size C) := by
  rintro _ R ⟨ts, ps, rk, rfl, ok, k⟩
  refine ⟨rfl, ownN (ds := [_]), ?_⟩
  have t8 := ok.few
  conv => whnf
  repeat (refine ⟨trivial, ?_⟩; conv => whnf)
  refine ⟨_, wf_tables, ?_⟩
  conv => whnf
  repeat (refine ⟨trivial, ?_⟩; conv => whnf)
  refine ⟨sz_le (by rw [List.length_map]; omega), ?_⟩
  refine ⟨noOwn_one (x := .un) rfl (fun e z => by cases z), sz_le (by rw [List.length_map]; omega), ?_⟩
  refine lc_ind (Ev := fun env => env = [.dat (worD C ts ps rk), .un]) (Stp := fun y oz => ∃ l : List (List Int), y = .tup (l.map tmD) ∧ oz = some (.int l.length)) _ ?_ _ _ rfl ?_
  · rintro y hy _ K rfl hK
    obtain ⟨t, ht, rfl⟩ := List.mem_map.mp hy
    conv => whnf
    repeat (refine ⟨trivial, ?_⟩; conv => whnf)
    rw [brP_true]
    conv => whnf
    repeat (refine ⟨trivial, ?_⟩; conv => whnf)
    rw [List.length_map]
    exact hK _ _ rfl ⟨_, rfl, rfl⟩
  · rintro zs _ o rfl
    have ez := o.map (g := fun t : Tab => D.tup ((fnd ps t.1).map tmD)) (f := fun t : Tab => D.int ((fnd ps t.1).length : Nat)) fun t oz ⟨l, e1, e2⟩ => by
      have : l.length = (fnd ps t.1).length := by
        injection e1 with e1
        have := congrArg List.length e1
        simpa using this.symm
      rw [e2, this]
    rw [ez]
    conv => whnf
    repeat (refine ⟨trivial, ?_⟩; conv => whnf)
    refine ⟨ts.map fun t => ((fnd ps t.1).length : Int), by rw [List.map_map]; rfl, nat_ _, k⟩
theorem use_wtree {C : Cls} {env : AEnv} (ts : List Tab) (ps : List Row) (rk : D) {R : RV → AEnv → Prop} (ok : TabsOk ts) (k : R (.dat (wtD ts ps rk)) env) : callR (S_World_tree C) [.dat (worD C ts ps rk)] env R :=
  call_dats [_] ⟨ts, ps, rk, rfl, ok, k⟩
theorem use_wsize {C : Cls} {env : AEnv} (ts : List Tab) (ps : List Row) (rk : D) {R : RV → AEnv → Prop} (ok : TabsOk ts) (k : R (.dat (.int ((ts.map fun t => ((fnd ps t.1).length : Int)).sum))) env) : callR (S_World_size C) [.dat (worD C ts ps rk)] env R :=
  call_dats [_] ⟨ts, ps, rk, rfl, ok, k⟩
end AL
namespace AL
open PySem L2
/-! P15: the world is right. -/
theorem outs_filter {α : Type} {f g : α → D} {p : α → Bool} {S : D → Option D → Prop} (h : ∀ a oz, S (g a) oz → oz = if p a then some (f a) else none) : ∀ {xs : List α} {zs : List D}, Outs S (xs.map g) zs → zs = (xs.filter p).map f
  | [], _, .nil => rfl
  | x :: xs, _, o => by
    rw [List.map_cons] at o
    cases o with
    | yes s o =>
      have e := h _ _ s
      by_cases c : p x = true
      · rw [if_pos c] at e
        cases e
        rw [List.filter_cons_of_pos c, List.map_cons, outs_filter h o]
      · rw [if_neg c] at e; cases e
    | no s o =>
      have e := h _ _ s
      by_cases c : p x = true
      · rw [if_pos c] at e; cases e
      · rw [List.filter_cons_of_neg c, outs_filter h o]
theorem due_unl (ps : List Row) (n : Str) : unl ([] : List D) ((ps.filter fun p => decide (p.1 = n)).map fun p => tmD p.2) = (fnd ps n).map tmD := by
  have e : ((ps.filter fun p => decide (p.1 = n)).map fun p => tmD p.2) = ((ps.filter fun p => decide (p.1 = n)).map (·.2)).map tmD := by rw [List.map_map]; rfl
  rw [e]
  exact unl_map (fun a b h => tmD_inj.mp h) _ []
theorem wr_body {C : Cls} {A : AEnds} {x0 x3 x6 x7 : AV} {ts : List Tab} {ps : List Row} (t : Tab) (ht : PyData.strOk t.1 = true) (ok : RowsOk' ps) (l : List D) (hl : l.length ≤ 8) (hx : ∀ d, x7 ≠ .own d) (h : A.nx [x0, .dat (tabsD ts), .dat (.lst (ps.map rowD)), x3, .own (.lst (l ++ [dueD ps t])), .dat (tabD t), x6, x7]) :
    law_world_right_1_0 C A [x0, .dat (tabsD ts), .dat (.lst (ps.map rowD)), x3, .own (.lst l), .dat (tabD t), x6, x7] := by
  conv => whnf
  repeat (refine ⟨trivial, ?_⟩; conv => whnf)
  refine ⟨⟨_, rfl⟩, ?_⟩
  conv => whnf
  repeat (refine ⟨trivial, ?_⟩; conv => whnf)
  refine ix_tup (by omega) rfl ?_
  conv => whnf
  repeat (refine ⟨trivial, ?_⟩; conv => whnf)
  intro _
  refine ⟨noOwn_one (x := x7) rfl hx, sz_le (by rw [List.length_map]; have := ok.1; omega), ?_⟩
  refine lc_ind (Ev := fun env => env = [x0, .dat (tabsD ts), .dat (.lst (ps.map rowD)), x3, .own (.lst l), .dat (tabD t), x6, .un]) (Stp := fun y oz => ∃ p : Row, y = rowD p ∧ oz = if decide (p.1 = t.1) then some (tmD p.2) else none) _ ?_ _ _ rfl ?_
  · rintro y hy _ K rfl hK
    obtain ⟨p, hp, rfl⟩ := List.mem_map.mp hy
    conv => whnf
    repeat (refine ⟨trivial, ?_⟩; conv => whnf)
    refine ix_tup (by omega) rfl ?_
    conv => whnf
    repeat (refine ⟨trivial, ?_⟩; conv => whnf)
    refine ix_tup (by omega) rfl ?_
    conv => whnf
    repeat (refine ⟨trivial, ?_⟩; conv => whnf)
    refine eq_pl (.str 0 (ok.2 p hp).1) (.str 0 ht) ?_
    refine brI (fun c => ?_) (fun c => ?_)
    · have c : p.1 = t.1 := by simpa using c
      conv => whnf
      repeat (refine ⟨trivial, ?_⟩; conv => whnf)
      refine ix_tup (by omega) rfl ?_
      conv => whnf
      repeat (refine ⟨trivial, ?_⟩; conv => whnf)
      exact hK _ _ rfl ⟨p, rfl, by rw [if_pos (by simpa using c)]⟩
    · have c : ¬ p.1 = t.1 := by simpa using c
      conv => whnf
      repeat (refine ⟨trivial, ?_⟩; conv => whnf)
      exact hK _ _ rfl ⟨p, rfl, by rw [if_neg (by simpa using c)]⟩
  · rintro zs _ o rfl
    have ez := outs_filter (g := rowD) (f := fun p : Row => tmD p.2) (p := fun p : Row => decide (p.1 = t.1)) (fun p oz ⟨q, e1, e2⟩ => by
      rw [rowD_inj.mp e1]
      exact e2) o
    rw [ez]
    conv => whnf
    repeat (refine ⟨trivial, ?_⟩; conv => whnf)
    refine use_unlike _ 1 rfl ?_ (by omega) (fun x hx => ?_) ?_
    · rw [List.length_map]
      have := List.length_filter_le (fun p : Row => decide (p.1 = t.1)) ps
      have := ok.1
      omega
    · obtain ⟨p, _, rfl⟩ := List.mem_map.mp hx
      exact tmD_pl _
    rw [due_unl]
    conv => whnf
    repeat (refine ⟨trivial, ?_⟩; conv => whnf)
    refine ⟨sz2, ?_⟩
    conv => whnf
    repeat (refine ⟨trivial, ?_⟩; conv => whnf)
    refine ⟨sz_lt (by omega), ?_⟩
    conv => whnf
    repeat (refine ⟨trivial, ?_⟩; conv => whnf)
    exact h
theorem wtD_eq (ts : List Tab) (ps : List Row) (rk : D) : wtD ts ps rk = .tup [.tup ((srtT ts).map (dueD ps)), rk] := rfl
theorem wtD_pl {ts : List Tab} (ok : TabsOk ts) (ps : List Row) (rks : List (List Int)) : Pl 5 (.tup [.tup ((srtT ts).map (dueD ps)), .tup (rks.map tmD)]) := .tup fun d h' => by
  simp only [List.mem_cons, List.not_mem_nil, or_false] at h'
  rcases h' with e | e
  · rw [e]
    exact .tup fun x hx => by
      obtain ⟨t, ht, rfl⟩ := List.mem_map.mp hx
      exact due_pl (ok.nm t ((srt_perm ts).mem_iff.mp ht)).ok
  · rw [e]; exact .tup fun x hx => (tms_pl x hx).up (by omega)
theorem sum_due (ts : List Tab) (ps : List Row) {zs : List D} {S : D → Option D → Prop} (h : ∀ t oz, S (dueD ps t) oz → oz = some (.int ((fnd ps t.1).length : Nat))) (o : Outs S (ts.map (dueD ps)) zs) : zs = (ts.map fun t => ((fnd ps t.1).length : Int)).map D.int := by
  have := o.map (f := fun t : Tab => D.int ((fnd ps t.1).length : Nat)) h
  rw [this, List.map_map]
  rfl
theorem names_tab (ts : List Tab) : (ts.map fun t => D.str t.1) = (ts.map (·.1)).map D.str := by rw [List.map_map]; rfl
theorem p_law_world_right {C : Cls} : BodyOk 4 8 B_law_world_right (a_law_world_right C) (S_law_world_right C) := by
  rintro _ R ⟨ts, ps, rks, rfl, ok, pok, hr, k⟩
  refine ⟨rfl, ownN (ds := [_, _, _, _]), ?_⟩
  have t8 := ok.few
  have last : ∀ x5 x7 : AV, (∀ d, x5 ≠ .own d) → law_world_right_0_3 C { nx := fun env => R (.dat .non) (outs [.dat (worD C ts ps (.tup (rks.map tmD))), .dat (tabsD ts), .dat (.lst (ps.map rowD)), .dat (.tup (rks.map tmD))] env), rt := fun r env => (∀ i, r ≠ .at i) ∧ R r (outs [.dat (worD C ts ps (.tup (rks.map tmD))), .dat (tabsD ts), .dat (.lst (ps.map rowD)), .dat (.tup (rks.map tmD))] env) } [.dat (worD C ts ps (.tup (rks.map tmD))), .dat (tabsD ts), .dat (.lst (ps.map rowD)), .dat (.tup (rks.map tmD)), .dat (.lst (ts.map (dueD ps))), x5, .un, x7] := by
    intro x5 x7 hx5
    conv => whnf
    repeat (refine ⟨trivial, ?_⟩; conv => whnf)
    refine ⟨_, wf_tables, ?_⟩
    conv => whnf
    repeat (refine ⟨trivial, ?_⟩; conv => whnf)
    refine ⟨ok_names ok, sz_le (by rw [List.length_map]; omega), ?_⟩
    rw [sort_names]
    conv => whnf
    repeat (refine ⟨trivial, ?_⟩; conv => whnf)
    intro _
    refine ⟨noOwn_one (x := x5) rfl hx5, sz_le (by rw [List.length_map]; omega), ?_⟩
    refine lc_ind (Ev := fun env => env = [.dat (worD C ts ps (.tup (rks.map tmD))), .dat (tabsD ts), .dat (.lst (ps.map rowD)), .dat (.tup (rks.map tmD)), .dat (.lst (ts.map (dueD ps))), .un, .un, x7]) (Stp := fun y oz => ∃ t : Tab, y = tabD t ∧ oz = some (.str t.1)) _ ?_ _ _ rfl ?_
    · rintro y hy _ K rfl hK
      obtain ⟨t, ht, rfl⟩ := List.mem_map.mp hy
      conv => whnf
      repeat (refine ⟨trivial, ?_⟩; conv => whnf)
      rw [brP_true]
      conv => whnf
      repeat (refine ⟨trivial, ?_⟩; conv => whnf)
      refine ix_tup (by omega) rfl ?_
      conv => whnf
      repeat (refine ⟨trivial, ?_⟩; conv => whnf)
      exact hK _ _ rfl ⟨t, rfl, rfl⟩
    · rintro zs _ o rfl
      have ez := outs_first (fun t oz ⟨u, e1, e2⟩ => by rw [strE_inj e1]; exact e2) o
      rw [ez]
      conv => whnf
      repeat (refine ⟨trivial, ?_⟩; conv => whnf)
      refine ⟨ok_names ok, ?_⟩
      rw [sort_names]
      conv => whnf
      repeat (refine ⟨trivial, ?_⟩; conv => whnf)
      have pl : ∀ d ∈ (srtT ts).map (fun t => D.str t.1), Pl 0 d := fun d hd => by
        obtain ⟨t, ht, rfl⟩ := List.mem_map.mp hd
        exact .str 0 (ok.nm t ((srt_perm ts).mem_iff.mp ht)).ok
      refine eq_pl (Pl.lst pl) (Pl.lst pl) ?_
      rw [decide_eq_true rfl]
      exact ⟨nat_ _, k⟩
  conv => whnf
  repeat (refine ⟨trivial, ?_⟩; conv => whnf)
  refine ⟨Nat.zero_le _, ?_⟩
  conv => whnf
  repeat (refine ⟨trivial, ?_⟩; conv => whnf)
  intro _
  refine for_ind (Iv := fun items env => ∃ (done rest : List Tab) (x5 : AV), ts = done ++ rest ∧ items = rest.map tabD ∧ (∀ d, x5 ≠ .own d) ∧ env = [.dat (worD C ts ps (.tup (rks.map tmD))), .dat (tabsD ts), .dat (.lst (ps.map rowD)), .dat (.tup (rks.map tmD)), .own (.lst (done.map (dueD ps))), x5, .un, .un]) ?_ ?_ _ _ ⟨[], ts, .un, rfl, rfl, fun d e => (by cases e), rfl⟩
  · rintro env ⟨done, rest, x5, et, e, hx5, rfl⟩
    cases rest with
    | cons u r => cases e
    | nil =>
      rw [List.append_nil] at et
      subst et
      conv => whnf
      repeat (refine ⟨trivial, ?_⟩; conv => whnf)
      refine ⟨⟨_, _, rfl, rfl⟩, ?_⟩
      conv => whnf
      repeat (refine ⟨trivial, ?_⟩; conv => whnf)
      refine use_wtree ts ps _ ok ?_
      conv => whnf
      repeat (refine ⟨trivial, ?_⟩; conv => whnf)
      refine ⟨ok_due ok ps, ?_⟩
      rw [sort_due ps ok.nd]
      conv => whnf
      repeat (refine ⟨trivial, ?_⟩; conv => whnf)
      refine ⟨sz2, ?_⟩
      conv => whnf
      repeat (refine ⟨trivial, ?_⟩; conv => whnf)
      rw [wtD_eq]
      refine ne_pl (wtD_pl ok ps rks) (wtD_pl ok ps rks) ?_
      have e0 : ∀ d : D, (!decide (d = d)) = false := fun d => by simp
      rw [e0]
      refine brF rfl ?_
      conv => whnf
      repeat (refine ⟨trivial, ?_⟩; conv => whnf)
      refine ⟨⟨_, _, rfl, rfl⟩, ?_⟩
      conv => whnf
      repeat (refine ⟨trivial, ?_⟩; conv => whnf)
      refine use_wsize ts ps _ ok ?_
      conv => whnf
      repeat (refine ⟨trivial, ?_⟩; conv => whnf)
      intro _
      refine ⟨noOwn_one (x := .un) rfl (fun e z => by cases z), sz_le (by rw [List.length_map]; omega), ?_⟩
      refine lc_ind (Ev := fun env => env = [.dat (worD C ts ps (.tup (rks.map tmD))), .dat (tabsD ts), .dat (.lst (ps.map rowD)), .dat (.tup (rks.map tmD)), .dat (.lst (ts.map (dueD ps))), x5, .un, .un]) (Stp := fun y oz => ∃ t : Tab, y = dueD ps t ∧ oz = some (.int ((fnd ps t.1).length : Nat))) _ ?_ _ _ rfl ?_
      · rintro y hy _ K rfl hK
        obtain ⟨t, ht, rfl⟩ := List.mem_map.mp hy
        conv => whnf
        repeat (refine ⟨trivial, ?_⟩; conv => whnf)
        rw [brP_true]
        conv => whnf
        repeat (refine ⟨trivial, ?_⟩; conv => whnf)
        refine ix_tup (by omega) rfl ?_
        conv => whnf
        repeat (refine ⟨trivial, ?_⟩; conv => whnf)
        rw [List.length_map]
        exact hK _ _ rfl ⟨t, rfl, rfl⟩
      · rintro zs _ o rfl
        have ez := sum_due ts ps (fun t oz ⟨u, e1, e2⟩ => by
          have e3 : (fnd ps u.1).length = (fnd ps t.1).length := by
            unfold dueD at e1
            simp only [D.tup.injEq, List.cons.injEq, D.str.injEq, and_true] at e1
            rw [e1.1]
          rw [e2, e3]) o
        rw [ez]
        conv => whnf
        repeat (refine ⟨trivial, ?_⟩; conv => whnf)
        refine ⟨_, rfl, ?_⟩
        conv => whnf
        repeat (refine ⟨trivial, ?_⟩; conv => whnf)
        refine ne_int ?_
        have e1 : ∀ i : Int, (!decide (i = i)) = false := fun i => by simp
        rw [e1]
        refine brF rfl ?_
        conv => whnf
        repeat (refine ⟨trivial, ?_⟩; conv => whnf)
        exact last x5 .un hx5
  · rintro d ds env M hM ⟨done, rest, x5, et, e, hx5, rfl⟩
    obtain ⟨t, r, rfl, rfl, rfl⟩ := map_cons_inv e.symm
    have tin : t ∈ ts := by rw [et]; simp
    show law_world_right_1_0 C _ _
    refine wr_body (x7 := .un) t (ok.nm t tin).ok pok _ ?_ (fun d e => by cases e) ?_
    · rw [List.length_map]
      rw [et, List.length_append] at t8
      omega
    · exact hM _ ⟨done ++ [t], r, .dat (tabD t), by rw [et, List.append_assoc]; rfl, rfl, fun d e => (by cases e), by rw [List.map_append]; rfl⟩
end AL
namespace AL
open PySem L2
/-! P16: tables, ranks, meeting values, spoil. -/
theorem p_law_tables : BodyOk 3 5 B_law_tables a_law_tables S_law_tables := by
  rintro _ R ⟨d, m, l, rfl, hd, m1, m8, l1, l4, k⟩
  refine ⟨rfl, own0 (ds := [_, _]) rfl, ?_⟩
  conv => whnf
  repeat (refine ⟨trivial, ?_⟩; conv => whnf)
  refine ⟨Nat.zero_le _, ?_⟩
  conv => whnf
  repeat (refine ⟨trivial, ?_⟩; conv => whnf)
  refine use_names 0 rfl hd (by omega) (by omega) fun ns d1 hn hok hnd hd1 => ?_
  conv => whnf
  repeat (refine ⟨trivial, ?_⟩; conv => whnf)
  intro _
  refine for_ind (Iv := fun items env => ∃ (d' : D) (ts : List Tab) (us : List Str) (x4 : AV), items = us.map D.str ∧ ts.map (·.1) ++ us = ns ∧ Dr d' ∧ (∀ t ∈ ts, t.2 ≠ [] ∧ t.2.length ≤ 4 ∧ t.2.Nodup ∧ ∀ c ∈ t.2, NmOk c) ∧ env = [.own d', .dat (.int m), .dat (.int l), .own (.lst (ts.map tabD)), x4]) ?_ ?_ _ _ ⟨d1, [], ns, .un, rfl, rfl, hd1, (fun t h => nomatch h), rfl⟩
  · rintro env ⟨d', ts, us, x4, e, et, hd', ht, rfl⟩
    cases us with
    | cons u r => cases e
    | nil =>
      rw [List.append_nil] at et
      have tl : ts.length = m.toNat := by
        rw [← hn, ← et, List.length_map]
      conv => whnf
      repeat (refine ⟨trivial, ?_⟩; conv => whnf)
      refine ⟨nat_ _, k ts d' ⟨fun e0 => by rw [e0] at tl; simp at tl; omega, by omega, by rw [et]; exact hnd, fun t h => hok _ (by rw [← et]; exact List.mem_map.mpr ⟨t, h, rfl⟩), fun t h => ⟨(ht t h).1, (ht t h).2.1, (ht t h).2.2.1⟩, fun t h => (ht t h).2.2.2⟩ (by omega) hd'⟩
  · rintro y ds env M hM ⟨d', ts, us, x4, e, et, hd', ht, rfl⟩
    obtain ⟨u, q, rfl, rfl, rfl⟩ := map_cons_inv e.symm
    have tl : ts.length < 8 := by
      have := congrArg List.length et
      rw [List.length_append, List.length_map, List.length_cons, hn] at this
      omega
    conv => whnf
    repeat (refine ⟨trivial, ?_⟩; conv => whnf)
    refine ⟨⟨_, rfl⟩, ?_⟩
    conv => whnf
    repeat (refine ⟨trivial, ?_⟩; conv => whnf)
    refine use_draw 0 rfl hd' (by omega) (by omega) fun r d2 h1 h2 hd2 => ?_
    conv => whnf
    repeat (refine ⟨trivial, ?_⟩; conv => whnf)
    refine use_names 0 rfl hd2 (by omega) (by omega) fun cs d3 cn cok cnd hd3 => ?_
    conv => whnf
    repeat (refine ⟨trivial, ?_⟩; conv => whnf)
    refine ⟨sz2, ?_⟩
    conv => whnf
    repeat (refine ⟨trivial, ?_⟩; conv => whnf)
    refine ⟨by rw [List.length_map]; exact sz_lt (by omega), ?_⟩
    conv => whnf
    repeat (refine ⟨trivial, ?_⟩; conv => whnf)
    refine hM _ ⟨d3, ts ++ [(u, cs)], q, _, rfl, by rw [List.map_append, List.append_assoc]; exact et, hd3, fun t h => ?_, by rw [List.map_append]; rfl⟩
    rcases List.mem_append.mp h with z | z
    · exact ht t z
    · rw [List.mem_singleton.mp z]
      refine ⟨fun e0 => ?_, ?_, cnd, cok⟩
      · have e0 : cs = [] := e0
        rw [e0] at cn
        simp at cn
        omega
      · show cs.length ≤ 4
        omega
theorem use_tables {env : AEnv} (j : Nat) {d : D} {m l : Int} {R : RV → AEnv → Prop} (e : env[j]? = some (.own d)) (hd : Dr d) (m1 : 1 ≤ m) (m8 : m ≤ 8) (l1 : 1 ≤ l) (l4 : l ≤ 4) (k : ∀ (ts : List Tab) d', TabsOk ts → Dr d' → R (.dat (tabsD ts)) (env.set j (.own d'))) : callR S_law_tables [.at j, .dat (.int m), .dat (.int l)] env R :=
  call_lent j [.int m, .int l] e ⟨d, m, l, rfl, hd, m1, m8, l1, l4, fun ts d' a _ c => k ts d' a c⟩
theorem outs_anyI {S : D → Option D → Prop} (h : ∀ y z, S y (some z) → ∃ i, z = .int i) : ∀ {ds zs : List D}, Outs S ds zs → ∃ is : List Int, zs = is.map D.int ∧ is.length ≤ ds.length
  | _, _, .nil => ⟨[], rfl, Nat.le_refl _⟩
  | _, _, .yes s o => by
    obtain ⟨is, rfl, hl⟩ := outs_anyI h o
    obtain ⟨i, rfl⟩ := h _ _ s
    exact ⟨i :: is, rfl, Nat.succ_le_succ hl⟩
  | _, _, .no s o => by
    obtain ⟨is, e, hl⟩ := outs_anyI h o
    exact ⟨is, e, Nat.le_succ_of_le hl⟩
theorem p_law_ranks : BodyOk 1 5 B_law_ranks a_law_ranks S_law_ranks := by
  rintro _ R ⟨d, rfl, hd, k⟩
  refine ⟨rfl, own0 (ds := []) rfl, ?_⟩
  conv => whnf
  repeat (refine ⟨trivial, ?_⟩; conv => whnf)
  refine ⟨Nat.zero_le _, ?_⟩
  conv => whnf
  repeat (refine ⟨trivial, ?_⟩; conv => whnf)
  refine use_draw 0 rfl hd (by omega) (by omega) fun r d1 h1 h2 hd1 => ?_
  conv => whnf
  repeat (refine ⟨trivial, ?_⟩; conv => whnf)
  refine ⟨⟨by omega, by omega⟩, ?_⟩
  refine for_ind (Iv := fun items env => ∃ (d' : D) (rks : List (List Int)) (x2 x3 : AV), Dr d' ∧ rks.length + items.length ≤ 4 ∧ (∀ r ∈ rks, r.length ≤ 4) ∧ env = [.own d', .own (.lst (rks.map tmD)), x2, x3, .un]) ?_ ?_ _ _ ⟨d1, [], .un, .un, hd1, by rw [range_len]; simp; omega, (fun r h => nomatch h), rfl⟩
  · rintro env ⟨d', rks, x2, x3, hd', hl, hr, rfl⟩
    conv => whnf
    repeat (refine ⟨trivial, ?_⟩; conv => whnf)
    exact ⟨nat_ _, k rks d' (by simpa using hl) hr hd'⟩
  · rintro y ds env M hM ⟨d', rks, x2, x3, hd', hl, hr, rfl⟩
    rw [List.length_cons] at hl
    conv => whnf
    repeat (refine ⟨trivial, ?_⟩; conv => whnf)
    refine use_draw 0 rfl hd' (by omega) (by omega) fun r d2 h1 h2 hd2 => ?_
    conv => whnf
    repeat (refine ⟨trivial, ?_⟩; conv => whnf)
    refine ⟨⟨by omega, by omega⟩, ?_⟩
    refine ⟨noOwn_one (x := .un) rfl (fun e z => by cases z), sz_le (by rw [range_len]; omega), ?_⟩
    refine lc_ind (Ev := fun env => ∃ d3, Dr d3 ∧ env = [.own d3, .own (.lst (rks.map tmD)), .dat y, x3, .un]) (Stp := fun y oz => ∃ i, oz = some (.int i)) _ ?_ _ _ ⟨d2, hd2, rfl⟩ ?_
    · rintro y hy _ K ⟨d3, hd3, rfl⟩ hK
      conv => whnf
      repeat (refine ⟨trivial, ?_⟩; conv => whnf)
      rw [brP_true]
      conv => whnf
      repeat (refine ⟨trivial, ?_⟩; conv => whnf)
      refine use_draw 0 rfl hd3 (by omega) (by omega) fun r d4 h1 h2 hd4 => ?_
      conv => whnf
      repeat (refine ⟨trivial, ?_⟩; conv => whnf)
      exact hK _ _ ⟨d4, hd4, rfl⟩ ⟨_, rfl⟩
    · rintro zs _ o ⟨d3, hd3, rfl⟩
      obtain ⟨is, rfl, il⟩ := outs_anyI (fun y z ⟨i, e⟩ => ⟨i, Option.some.inj e⟩) o
      rw [range_len] at il
      conv => whnf
      repeat (refine ⟨trivial, ?_⟩; conv => whnf)
      refine notin_lst (tmD_pl is) tms_pl ?_
      refine brI (fun c => ?_) (fun c => ?_)
      · conv => whnf
        repeat (refine ⟨trivial, ?_⟩; conv => whnf)
        refine ⟨⟨_, rfl⟩, ?_⟩
        conv => whnf
        repeat (refine ⟨trivial, ?_⟩; conv => whnf)
        refine ⟨by rw [List.length_map]; exact sz_lt (by omega), ?_⟩
        conv => whnf
        repeat (refine ⟨trivial, ?_⟩; conv => whnf)
        refine hM _ ⟨d3, rks ++ [is], _, _, hd3, by rw [List.length_append, List.length_singleton]; omega, fun r h => ?_, by rw [List.map_append]; rfl⟩
        rcases List.mem_append.mp h with z | z
        · exact hr r z
        · rw [List.mem_singleton.mp z]; omega
      · conv => whnf
        repeat (refine ⟨trivial, ?_⟩; conv => whnf)
        exact hM _ ⟨d3, rks, _, _, hd3, by omega, hr, rfl⟩
theorem use_ranks {env : AEnv} (j : Nat) {d : D} {R : RV → AEnv → Prop} (e : env[j]? = some (.own d)) (hd : Dr d) (k : ∀ (rks : List (List Int)) d', rks.length ≤ 4 → (∀ r ∈ rks, r.length ≤ 4) → Dr d' → R (.dat (.tup (rks.map tmD))) (env.set j (.own d'))) : callR S_law_ranks [.at j] env R :=
  call_lent j [] e ⟨d, rfl, hd, k⟩
end AL
namespace AL
open PySem L2
/-! P17: cells, meeting values, spoil. -/
theorem itsD_mem {t : Int} {ks : List Int} : D.int t ∈ ks.map D.int ↔ t ∈ ks := us_mem
theorem cel_keys (sp : List Span) : (sp.map fun s => D.int s.1) = (sp.map (·.1)).map D.int := by rw [List.map_map]; rfl
theorem set_cel {env : AEnv} {j : Nat} {sp : List Span} {t a b : Int} {N : AEnv → Prop} (e : env[j]? = some (.own (celD sp))) (nt : t ∉ sp.map (·.1)) (hz : sp.length ≤ 1000) (h : N (env.set j (.own (celD (sp ++ [(t, a, b)]))))) : setAt j (.int t) (.tup [.int a, .int b]) env N := by
  refine set_dic e rfl ?_ (by rw [List.length_map]; omega) ?_
  · rw [cel_keys, itsD_mem]; exact nt
  · unfold celD at h
    rw [List.map_append, List.map_append] at h
    exact h
theorem SpOk.skip {ks : List Int} {sp : List Span} (k : Int) (h : SpOk ks sp) : SpOk (ks ++ [k]) sp := ⟨h.sub.trans (List.sublist_append_left _ _), h.ok⟩
theorem SpOk.add {ks : List Int} {sp : List Span} {k a b : Int} (h : SpOk ks sp) (h1 : 0 ≤ a) (h2 : a < b) (h3 : b ≤ 1000) (h4 : a % 100 = 0) (h5 : b % 100 = 0) : SpOk (ks ++ [k]) (sp ++ [(k, a, b)]) := by
  refine ⟨?_, fun s hs => ?_⟩
  · rw [List.map_append]
    exact h.sub.append (List.Sublist.refl _)
  · rcases List.mem_append.mp hs with z | z
    · exact h.ok s z
    · rw [List.mem_singleton.mp z]
      exact ⟨h1, h2, h3, h4, h5⟩
theorem p_law_cells : BodyOk 2 8 B_law_cells a_law_cells S_law_cells := by
  rintro _ R ⟨d, ks, rfl, hd, hl, nd, k⟩
  refine ⟨rfl, own0 (ds := [_]) rfl, ?_⟩
  conv => whnf
  repeat (refine ⟨trivial, ?_⟩; conv => whnf)
  refine use_draw 0 rfl hd (by omega) (by omega) fun w d1 w1 w2 hd1 => ?_
  conv => whnf
  repeat (refine ⟨trivial, ?_⟩; conv => whnf)
  refine use_draw 0 rfl hd1 (by omega) (by omega) fun r d2 h1 h2 hd2 => ?_
  conv => whnf
  repeat (refine ⟨trivial, ?_⟩; conv => whnf)
  refine ⟨.inr (by omega), ?_⟩
  conv => whnf
  repeat (refine ⟨trivial, ?_⟩; conv => whnf)
  intro _
  refine for_ind (Iv := fun items env => ∃ (d' : D) (done rest : List Int) (sp : List Span) (x5 x6 x7 : AV), items = rest.map D.int ∧ ks = done ++ rest ∧ Dr d' ∧ SpOk done sp ∧ env = [.own d', .dat (itsD ks), .dat (.int w), .dat (.int (100 * r)), .own (celD sp), x5, x6, x7]) ?_ ?_ _ _ ⟨d2, [], ks, [], .un, .un, .un, rfl, rfl, hd2, ⟨List.Sublist.refl _, fun s h => nomatch h⟩, rfl⟩
  · rintro env ⟨d', done, rest, sp, x5, x6, x7, e, ek, hd', so, rfl⟩
    cases rest with
    | cons u r => cases e
    | nil =>
      rw [List.append_nil] at ek
      subst ek
      conv => whnf
      repeat (refine ⟨trivial, ?_⟩; conv => whnf)
      exact ⟨rfl, new_ _, k sp d' so hd'⟩
  · rintro y ds env M hM ⟨d', done, rest, sp, x5, x6, x7, e, ek, hd', so, rfl⟩
    obtain ⟨t, q, rfl, rfl, rfl⟩ := map_cons_inv e.symm
    have nt : t ∉ sp.map (·.1) := fun h => by
      have h := so.sub.subset h
      rw [ek] at nd
      exact (List.nodup_append.mp nd).2.2 _ h _ List.mem_cons_self rfl
    have spl : sp.length ≤ 1000 := by
      have h1 := so.sub.length_le
      rw [List.length_map] at h1
      rw [ek, List.length_append] at hl
      omega
    have ek2 : ks = (done ++ [t]) ++ q := by rw [ek, List.append_assoc]; rfl
    have skip : ∀ (d3 : D) (y6 y7 : AV), Dr d3 → M [.own d3, .dat (itsD ks), .dat (.int w), .dat (.int (100 * r)), .own (celD sp), .dat (.int t), y6, y7] := fun d3 y6 y7 hd3 => hM _ ⟨d3, done ++ [t], q, sp, _, _, _, rfl, ek2, hd3, so.skip t, rfl⟩
    conv => whnf
    repeat (refine ⟨trivial, ?_⟩; conv => whnf)
    refine eq_int ?_
    refine brI (fun c => ?_) (fun c => ?_)
    · conv => whnf
      repeat (refine ⟨trivial, ?_⟩; conv => whnf)
      refine ⟨sz2, ?_⟩
      conv => whnf
      repeat (refine ⟨trivial, ?_⟩; conv => whnf)
      refine set_cel rfl nt spl ?_
      exact hM _ ⟨d', done ++ [t], q, _, _, _, _, rfl, ek2, hd', so.add (by omega) (by omega) (by omega) (by omega) (by omega), rfl⟩
    · conv => whnf
      repeat (refine ⟨trivial, ?_⟩; conv => whnf)
      refine eq_int ?_
      refine brI (fun c2 => ?_) (fun c2 => ?_)
      · conv => whnf
        repeat (refine ⟨trivial, ?_⟩; conv => whnf)
        refine use_draw 0 rfl hd' (by omega) (by omega) fun r2 d3 h3 h4 hd3 => ?_
        conv => whnf
        repeat (refine ⟨trivial, ?_⟩; conv => whnf)
        refine brI (fun c3 => ?_) (fun c3 => ?_)
        · conv => whnf
          repeat (refine ⟨trivial, ?_⟩; conv => whnf)
          refine use_draw 0 rfl hd3 (by omega) (by omega) fun a d4 h5 h6 hd4 => ?_
          conv => whnf
          repeat (refine ⟨trivial, ?_⟩; conv => whnf)
          refine ⟨.inr (by omega), ?_⟩
          conv => whnf
          repeat (refine ⟨trivial, ?_⟩; conv => whnf)
          refine use_draw 0 rfl hd4 (by omega) (by omega) fun b d5 h7 h8 hd5 => ?_
          conv => whnf
          repeat (refine ⟨trivial, ?_⟩; conv => whnf)
          refine ⟨.inr (by omega), ?_⟩
          conv => whnf
          repeat (refine ⟨trivial, ?_⟩; conv => whnf)
          refine ⟨sz2, ?_⟩
          conv => whnf
          repeat (refine ⟨trivial, ?_⟩; conv => whnf)
          have pl : ∀ i j : Int, Pl 1 (.tup [.int i, .int j]) := fun i j => .tup fun d h => by
            simp only [List.mem_cons, List.not_mem_nil, or_false] at h
            rcases h with e | e <;> rw [e] <;> exact .int 0 _
          refine ⟨sz2, ?_⟩
          conv => whnf
          repeat (refine ⟨trivial, ?_⟩; conv => whnf)
          refine ne_pl (pl _ _) (pl _ _) ?_
          refine brI (fun c4 => ?_) (fun c4 => ?_)
          · conv => whnf
            repeat (refine ⟨trivial, ?_⟩; conv => whnf)
            refine set_cel rfl nt spl ?_
            exact hM _ ⟨d5, done ++ [t], q, _, _, _, _, rfl, ek2, hd5, so.add (by omega) (by omega) (by omega) (by omega) (by omega), rfl⟩
          · conv => whnf
            repeat (refine ⟨trivial, ?_⟩; conv => whnf)
            exact skip d5 _ _ hd5
        · conv => whnf
          repeat (refine ⟨trivial, ?_⟩; conv => whnf)
          exact skip d3 _ _ hd3
      · conv => whnf
        repeat (refine ⟨trivial, ?_⟩; conv => whnf)
        rw [brP_false]
        conv => whnf
        repeat (refine ⟨trivial, ?_⟩; conv => whnf)
        exact skip d' _ _ hd'
theorem use_cells {env : AEnv} (j : Nat) {d : D} {ks : List Int} {R : RV → AEnv → Prop} (e : env[j]? = some (.own d)) (hd : Dr d) (hl : ks.length ≤ 64) (nd : ks.Nodup) (k : ∀ (sp : List Span) d', SpOk ks sp → Dr d' → R (.new (celD sp)) (env.set j (.own d'))) : callR S_law_cells [.at j, .dat (itsD ks)] env R :=
  call_lent j [itsD ks] e ⟨d, ks, rfl, hd, hl, nd, k⟩
/-! a value stored -/
def putB (b : Bd) (t v : Int) : Bd := if t ∈ b.map (·.1) then setB b t v else b ++ [(t, v)]
theorem setB_keys (t v : Int) : ∀ b : Bd, (setB b t v).map (·.1) = b.map (·.1)
  | [] => rfl
  | (k, w) :: r => by
    simp only [setB, List.map_cons, setB_keys t v r]
    split <;> rfl
theorem setB_vals (t v : Int) : ∀ b : Bd, dPutV (b.map fun p => D.int p.1) (b.map fun p => D.int p.2) (.int t) (.int v) = (setB b t v).map fun p => D.int p.2
  | [] => rfl
  | (k, w) :: r => by
    simp only [setB, List.map_cons, dPutV, setB_vals t v r]
    by_cases c : k = t
    · rw [if_pos (by rw [c]), if_pos c]
    · rw [if_neg (fun z => c (by injection z)), if_neg c]
theorem bd_keysD (b : Bd) : (b.map fun p => D.int p.1) = (b.map (·.1)).map D.int := by rw [List.map_map]; rfl
theorem set_bd {env : AEnv} {j : Nat} {b : Bd} {t v : Int} {N : AEnv → Prop} (e : env[j]? = some (.own (bD b))) (hz : b.length ≤ 1000) (h : N (env.set j (.own (bD (putB b t v))))) : setAt j (.int t) (.int v) env N := by
  unfold setAt
  rw [e]
  refine ⟨rfl, by rw [List.length_map]; exact sz_lt (by omega), ?_⟩
  unfold putB at h
  unfold dPutK dPutW
  by_cases c : t ∈ b.map (·.1)
  · rw [if_pos c] at h
    rw [if_pos (bd_mem.mpr c), if_pos (bd_mem.mpr c), setB_vals]
    have : (b.map fun p => D.int p.1) = (setB b t v).map fun p => D.int p.1 := by rw [bd_keysD, bd_keysD, setB_keys]
    rw [this]
    exact h
  · rw [if_neg c] at h
    rw [if_neg fun z => c (bd_mem.mp z), if_neg fun z => c (bd_mem.mp z)]
    unfold bD at h
    rw [List.map_append, List.map_append] at h
    exact h
theorem putB_len (b : Bd) (t v : Int) : (putB b t v).length ≤ b.length + 1 := by
  unfold putB
  split
  · have := congrArg List.length (setB_keys t v b)
    rw [List.length_map, List.length_map] at this
    omega
  · simp
theorem p_law_spoil : BodyOk 2 3 B_law_spoil a_law_spoil S_law_spoil := by
  rintro _ R ⟨b, ks, rfl, hb, hk, k⟩
  refine ⟨rfl, own0 (ds := [_]) rfl, ?_⟩
  conv => whnf
  repeat (refine ⟨trivial, ?_⟩; conv => whnf)
  intro _
  refine for_ind (Iv := fun items env => ∃ (b' : Bd) (rest : List Int) (x2 : AV), items = rest.map D.int ∧ b'.length + rest.length ≤ 300 ∧ env = [.own (bD b'), .dat (itsD ks), x2]) ?_ ?_ _ _ ⟨b, ks, .un, rfl, by omega, rfl⟩
  · rintro env ⟨b', rest, x2, e, hz, rfl⟩
    conv => whnf
    repeat (refine ⟨trivial, ?_⟩; conv => whnf)
    refine set_bd (b := b') rfl (by omega) ?_
    exact k _
  · rintro y ds env M hM ⟨b', rest, x2, e, hz, rfl⟩
    obtain ⟨t, q, rfl, rfl, rfl⟩ := map_cons_inv e.symm
    rw [List.length_cons] at hz
    conv => whnf
    repeat (refine ⟨trivial, ?_⟩; conv => whnf)
    refine set_bd (b := b') rfl (by omega) ?_
    exact hM _ ⟨_, q, _, rfl, by have := putB_len b' t 0; omega, rfl⟩
theorem use_spoil {env : AEnv} (j : Nat) (b : Bd) (ks : List Int) {R : RV → AEnv → Prop} (e : env[j]? = some (.own (bD b))) (hb : b.length ≤ 200) (hk : ks.length ≤ 64) (k : ∀ b', R (.dat .non) (env.set j (.own (bD b')))) : callR S_law_spoil [.at j, .dat (itsD ks)] env R :=
  call_lent j [itsD ks] e ⟨b, ks, rfl, hb, hk, k⟩
theorem p_law_meeting : BodyOk 2 4 B_law_meeting a_law_meeting S_law_meeting := by
  rintro _ R ⟨d, ks, rfl, hd, vo, k⟩
  refine ⟨rfl, own0 (ds := [_]) rfl, ?_⟩
  have nd := vo.2.1
  have hl := vo.1
  conv => whnf
  repeat (refine ⟨trivial, ?_⟩; conv => whnf)
  intro _
  refine for_ind (Iv := fun items env => ∃ (d' : D) (b : Bd) (rest : List Int) (x3 : AV), items = rest.map D.int ∧ ks = b.map (·.1) ++ rest ∧ Dr d' ∧ env = [.own d', .dat (itsD ks), .own (bD b), x3]) ?_ ?_ _ _ ⟨d, [], ks, .un, rfl, rfl, hd, rfl⟩
  · rintro env ⟨d', b, rest, x3, e, ek, hd', rfl⟩
    cases rest with
    | cons u r => cases e
    | nil =>
      rw [List.append_nil] at ek
      conv => whnf
      repeat (refine ⟨trivial, ?_⟩; conv => whnf)
      exact ⟨rfl, new_ _, k b d' ek.symm hd'⟩
  · rintro y ds env M hM ⟨d', b, rest, x3, e, ek, hd', rfl⟩
    obtain ⟨t, q, rfl, rfl, rfl⟩ := map_cons_inv e.symm
    have nt : t ∉ b.map (·.1) := fun h => by
      rw [ek] at nd
      exact (List.nodup_append.mp nd).2.2 _ h _ List.mem_cons_self rfl
    have bl : b.length ≤ 64 := by
      rw [ek, List.length_append, List.length_map] at hl
      omega
    conv => whnf
    repeat (refine ⟨trivial, ?_⟩; conv => whnf)
    refine ⟨sz_le (by simp), ?_⟩
    conv => whnf
    repeat (refine ⟨trivial, ?_⟩; conv => whnf)
    refine use_pick 0 [.int 3, .int 17, .int 50, .int 250, .int 999] rfl hd' rfl (by simp) (by simp) fun z d2 hz hd2 => ?_
    have iz : ∃ i, z = .int i := by
      simp only [List.mem_cons, List.not_mem_nil, or_false] at hz
      rcases hz with e | e | e | e | e <;> exact ⟨_, e⟩
    obtain ⟨i, rfl⟩ := iz
    conv => whnf
    repeat (refine ⟨trivial, ?_⟩; conv => whnf)
    refine set_bd (b := b) rfl (by omega) ?_
    have ep : putB b t i = b ++ [(t, i)] := by
      unfold putB
      rw [if_neg nt]
    rw [ep]
    exact hM _ ⟨d2, b ++ [(t, i)], q, _, rfl, by rw [List.map_append, List.append_assoc]; exact ek, hd2, rfl⟩
theorem use_meeting {env : AEnv} (j : Nat) {d : D} {ks : List Int} {R : RV → AEnv → Prop} (e : env[j]? = some (.own d)) (hd : Dr d) (vo : VarsOk ks) (k : ∀ (b : Bd) d', b.map (·.1) = ks → Dr d' → R (.new (bD b)) (env.set j (.own d'))) : callR S_law_meeting [.at j, .dat (itsD ks)] env R :=
  call_lent j [itsD ks] e ⟨d, ks, rfl, hd, vo, k⟩
end AL
namespace AL
open PySem L2
/-! P18: rows that are asked for. -/
theorem ix_last {l : List D} {z : D} {F : RV → Prop} (f : F (.dat z)) : fIx (.lst (l ++ [z])) (.int (-1)) F := by
  unfold fIx
  refine ⟨z, ?_, f⟩
  unfold atI
  have e : ixN (l ++ [z]).length (-1) = some l.length := by
    unfold ixN
    rw [List.length_append, List.length_singleton]
    rw [if_neg (by omega), if_pos (by omega)]
    congr 1
    omega
  rw [e]
  simp
theorem as_row {A : AEnds} {x1 x2 x3 x5 x9 x10 x11 x12 : AV} {s a : Int} (hs : 1 ≤ s ∧ s ≤ 66) (ha : 0 ≤ a ∧ a < 67) (cs : List Str) (h4 : cs.length ≤ 4) (d : D) (hd : Dr d) (met : List Int) (hm : ∀ x ∈ met, -67 ≤ x ∧ x < 0) (hz : met.length ≤ 1000)
    (h : ∀ (d' : D) (met' tms : List Int) (y9 y12 : AV), Dr d' → (∀ x ∈ met', -67 ≤ x ∧ x < 0) → met'.length ≤ met.length + 4 → tms.length ≤ 4 → (∀ x ∈ tms, TmOk x) → A.nx [.own d', x1, x2, x3, .own (itsD met'), x5, .dat (.int s), .dat (.int a), .own (itsD tms), y9, x10, x11, y12]) :
    forL (agName 9) law_asked_2_0 A (cs.map D.str) [.own d, x1, x2, x3, .own (itsD met), x5, .dat (.int s), .dat (.int a), .own (.lst []), x9, x10, x11, x12] := by
  refine for_ind (Iv := fun items env => ∃ (d' : D) (met' tms : List Int) (us : List Str) (y9 y12 : AV), items = us.map D.str ∧ Dr d' ∧ (∀ x ∈ met', -67 ≤ x ∧ x < 0) ∧ met'.length + us.length ≤ met.length + 4 ∧ tms.length + us.length ≤ 4 ∧ (∀ x ∈ tms, TmOk x) ∧ env = [.own d', x1, x2, x3, .own (itsD met'), x5, .dat (.int s), .dat (.int a), .own (itsD tms), y9, x10, x11, y12]) ?_ ?_ _ _ ⟨d, met, [], cs, x9, x12, rfl, hd, hm, by omega, by simpa using h4, (fun x h => nomatch h), rfl⟩
  · rintro env ⟨d', met', tms, us, y9, y12, e, hd', hm', l1, l2, ht, rfl⟩
    exact h d' met' tms y9 y12 hd' hm' (by omega) (by omega) ht
  · rintro y ds env M hM ⟨d', met', tms, us, y9, y12, e, hd', hm', l1, l2, ht, rfl⟩
    obtain ⟨c, q, rfl, rfl, rfl⟩ := map_cons_inv e.symm
    rw [List.length_cons] at l1 l2
    have tz : (tms.map D.int).length < sizeLine := by rw [List.length_map]; exact sz_lt (by omega)
    have mz : (met'.map D.int).length < sizeLine := by rw [List.length_map]; exact sz_lt (by omega)
    have fin : ∀ (d2 : D) (m2 : List Int) (v : Int) (w : AV), Dr d2 → (∀ x ∈ m2, -67 ≤ x ∧ x < 0) → m2.length ≤ met'.length + 1 → TmOk v → M [.own d2, x1, x2, x3, .own (itsD m2), x5, .dat (.int s), .dat (.int a), .own (.lst (tms.map D.int ++ [.int v])), .dat (.str c), x10, x11, w] := fun d2 m2 v w hd2 hm2 l3 hv => by
      refine hM _ ⟨d2, m2, tms ++ [v], q, _, _, rfl, hd2, hm2, by omega, by rw [List.length_append, List.length_singleton]; omega, fun x hx => ?_, by unfold itsD; rw [List.map_append]; rfl⟩
      rcases List.mem_append.mp hx with z | z
      · exact ht x z
      · rw [List.mem_singleton.mp z]; exact hv
    conv => whnf
    repeat (refine ⟨trivial, ?_⟩; conv => whnf)
    refine use_draw 0 rfl hd' (by omega) (by omega) fun w d2 w1 w2 hd2 => ?_
    conv => whnf
    repeat (refine ⟨trivial, ?_⟩; conv => whnf)
    refine eq_int ?_
    refine brI (fun c1 => ?_) (fun c1 => ?_)
    · conv => whnf
      repeat (refine ⟨trivial, ?_⟩; conv => whnf)
      refine ⟨⟨_, rfl⟩, ?_⟩
      conv => whnf
      repeat (refine ⟨trivial, ?_⟩; conv => whnf)
      refine use_draw 0 rfl hd2 (by omega) (by omega) fun r1 d3 h1 h2 hd3 => ?_
      conv => whnf
      repeat (refine ⟨trivial, ?_⟩; conv => whnf)
      refine ⟨.inr (by omega), ?_⟩
      conv => whnf
      repeat (refine ⟨trivial, ?_⟩; conv => whnf)
      refine use_draw 0 rfl hd3 (by omega) (by omega) fun r2 d4 h3 h4' hd4 => ?_
      conv => whnf
      repeat (refine ⟨trivial, ?_⟩; conv => whnf)
      refine ⟨.inr (by omega), ?_⟩
      conv => whnf
      repeat (refine ⟨trivial, ?_⟩; conv => whnf)
      refine ⟨tz, ?_⟩
      conv => whnf
      repeat (refine ⟨trivial, ?_⟩; conv => whnf)
      exact fin d4 met' _ _ hd4 hm' (by omega) ⟨by omega, by omega, fun _ => by omega⟩
    · conv => whnf
      repeat (refine ⟨trivial, ?_⟩; conv => whnf)
      have gen : ∀ w2 : AV, law_asked_6_0 { nx := M, ct := M, bk := A.nx, rt := A.rt } [.own d2, x1, x2, x3, .own (itsD met'), x5, .dat (.int s), .dat (.int a), .own (itsD tms), .dat (.str c), x10, x11, w2] := by
        intro w2
        conv => whnf
        repeat (refine ⟨trivial, ?_⟩; conv => whnf)
        refine ⟨⟨_, rfl⟩, ?_⟩
        conv => whnf
        repeat (refine ⟨trivial, ?_⟩; conv => whnf)
        refine ⟨.inr (by omega), ?_⟩
        conv => whnf
        repeat (refine ⟨trivial, ?_⟩; conv => whnf)
        refine ⟨by omega, ?_⟩
        conv => whnf
        repeat (refine ⟨trivial, ?_⟩; conv => whnf)
        refine ⟨mz, ?_⟩
        conv => whnf
        repeat (refine ⟨trivial, ?_⟩; conv => whnf)
        refine ⟨⟨_, rfl⟩, ?_⟩
        conv => whnf
        repeat (refine ⟨trivial, ?_⟩; conv => whnf)
        refine ix_last ?_
        conv => whnf
        repeat (refine ⟨trivial, ?_⟩; conv => whnf)
        refine ⟨tz, ?_⟩
        conv => whnf
        repeat (refine ⟨trivial, ?_⟩; conv => whnf)
        have b1 := Int.emod_nonneg (((met'.map D.int).length : Int) * s + a) (b := 67) (by omega)
        have b2 := Int.emod_lt_of_pos (((met'.map D.int).length : Int) * s + a) (b := 67) (by omega)
        have e2 : met'.map D.int ++ [D.int (-1 - (((met'.map D.int).length : Int) * s + a) % 67)] = (met' ++ [-1 - (((met'.map D.int).length : Int) * s + a) % 67]).map D.int := by rw [List.map_append]; rfl
        have := fin d2 (met' ++ [-1 - (((met'.map D.int).length : Int) * s + a) % 67]) (-1 - (((met'.map D.int).length : Int) * s + a) % 67) w2 hd2 (fun x hx => ?_) (by rw [List.length_append, List.length_singleton]; omega) ⟨by omega, by omega, fun _ => by omega⟩
        · unfold itsD at this
          rw [← e2] at this
          exact this
        · rcases List.mem_append.mp hx with z | z
          · exact hm' x z
          · rw [List.mem_singleton.mp z]; omega
      refine brI (fun c2 => ?_) (fun c2 => ?_)
      · conv => whnf
        repeat (refine ⟨trivial, ?_⟩; conv => whnf)
        refine brI (fun c3 => ?_) (fun c3 => ?_)
        · have mne : met' ≠ [] := fun e0 => by rw [e0] at c3; simp at c3
          conv => whnf
          repeat (refine ⟨trivial, ?_⟩; conv => whnf)
          refine ⟨⟨_, rfl⟩, ?_⟩
          conv => whnf
          repeat (refine ⟨trivial, ?_⟩; conv => whnf)
          refine use_pickO 0 4 (met'.map D.int) rfl rfl (by omega) hd2 rfl (fun e0 => mne (List.map_eq_nil_iff.mp e0)) (by rw [List.length_map]; omega) fun z d3 hz hd3 => ?_
          obtain ⟨v, hv, rfl⟩ := List.mem_map.mp hz
          have := hm' v hv
          conv => whnf
          repeat (refine ⟨trivial, ?_⟩; conv => whnf)
          refine ⟨tz, ?_⟩
          conv => whnf
          repeat (refine ⟨trivial, ?_⟩; conv => whnf)
          exact fin d3 met' v _ hd3 hm' (by omega) ⟨by omega, by omega, fun _ => by omega⟩
        · exact gen _
      · conv => whnf
        repeat (refine ⟨trivial, ?_⟩; conv => whnf)
        rw [brP_false]
        exact gen _
theorem pk_tab {ts : List Tab} {z : D} (h : z ∈ ts.map tabD) : ∃ t ∈ ts, z = tabD t := by
  obtain ⟨t, ht, rfl⟩ := List.mem_map.mp h
  exact ⟨t, ht, rfl⟩
theorem p_law_asked : BodyOk 3 13 B_law_asked a_law_asked S_law_asked := by
  rintro _ R ⟨d, ts, m, rfl, hd, ok, m0, m16, k⟩
  refine ⟨rfl, own0 (ds := [_, _]) rfl, ?_⟩
  have t8 := ok.few
  conv => whnf
  repeat (refine ⟨trivial, ?_⟩; conv => whnf)
  refine use_draw 0 rfl hd (by omega) (by omega) fun s d1 s1 s2 hd1 => ?_
  conv => whnf
  repeat (refine ⟨trivial, ?_⟩; conv => whnf)
  refine use_draw 0 rfl hd1 (by omega) (by omega) fun a d2 a1 a2 hd2 => ?_
  conv => whnf
  repeat (refine ⟨trivial, ?_⟩; conv => whnf)
  refine ⟨rfl, ?_⟩
  conv => whnf
  repeat (refine ⟨trivial, ?_⟩; conv => whnf)
  refine ⟨Nat.zero_le _, ?_⟩
  conv => whnf
  repeat (refine ⟨trivial, ?_⟩; conv => whnf)
  refine ⟨Nat.zero_le _, ?_⟩
  conv => whnf
  repeat (refine ⟨trivial, ?_⟩; conv => whnf)
  refine ⟨⟨by omega, by omega⟩, ?_⟩
  refine for_ind (Iv := fun items env => ∃ (d' : D) (rs : List Row) (met : List Int) (x5 x8 x9 x10 x11 x12 : AV), Dr d' ∧ rs.length + items.length ≤ 16 ∧ (∀ r ∈ rs, RowOk r ∧ r.1 ∈ ts.map (·.1)) ∧ (∀ x ∈ met, -67 ≤ x ∧ x < 0) ∧ met.length + 4 * items.length ≤ 64 ∧ env = [.own d', .dat (tabsD ts), .dat (.int m), .own (.lst (rs.map rowD)), .own (itsD met), x5, .dat (.int (1 + s)), .dat (.int a), x8, x9, x10, x11, x12]) ?_ ?_ _ _ ⟨d2, [], [], .un, .un, .un, .un, .un, .un, hd2, by rw [range_len]; simp; omega, (fun r h => nomatch h), (fun r h => nomatch h), by rw [range_len]; simp; omega, rfl⟩
  · rintro env ⟨d', rs, met, x5, x8, x9, x10, x11, x12, hd', l1, hr, hm, l2, rfl⟩
    conv => whnf
    repeat (refine ⟨trivial, ?_⟩; conv => whnf)
    exact ⟨nat_ _, k rs d' ⟨by simpa using l1, fun r h => (hr r h).1⟩ (fun r h => (hr r h).2) hd'⟩
  · rintro y ds env M hM ⟨d', rs, met, x5, x8, x9, x10, x11, x12, hd', l1, hr, hm, l2, rfl⟩
    rw [List.length_cons] at l1 l2
    conv => whnf
    repeat (refine ⟨trivial, ?_⟩; conv => whnf)
    refine use_pick 0 (ts.map tabD) rfl hd' rfl (fun e0 => ok.ne (List.map_eq_nil_iff.mp e0)) (by rw [List.length_map]; omega) fun z d3 hz hd3 => ?_
    obtain ⟨t, ht, rfl⟩ := pk_tab hz
    have nm := ok.nm t ht
    conv => whnf
    repeat (refine ⟨trivial, ?_⟩; conv => whnf)
    refine ⟨rfl, ?_⟩
    conv => whnf
    repeat (refine ⟨trivial, ?_⟩; conv => whnf)
    refine ⟨rfl, ?_⟩
    conv => whnf
    repeat (refine ⟨trivial, ?_⟩; conv => whnf)
    refine ⟨Nat.zero_le _, ?_⟩
    conv => whnf
    repeat (refine ⟨trivial, ?_⟩; conv => whnf)
    intro _
    refine as_row (s := 1 + s) (a := a) ⟨by omega, by omega⟩ ⟨a1, a2⟩ t.2 (ok.cn t ht).2.1 d3 hd3 met hm (by omega) fun d4 met' tms y9 y12 hd4 hm' l3 l4 ht' => ?_
    conv => whnf
    repeat (refine ⟨trivial, ?_⟩; conv => whnf)
    refine ⟨sz2, ?_⟩
    conv => whnf
    repeat (refine ⟨trivial, ?_⟩; conv => whnf)
    refine notin_lst (rowD_pl (r := (t.1, tms)) nm.ok) (n := 2) (fun x hx => ?_) ?_
    · obtain ⟨r, h, rfl⟩ := List.mem_map.mp hx
      exact rowD_pl (hr r h).1.nm
    refine brI (fun c => ?_) (fun c => ?_)
    · conv => whnf
      repeat (refine ⟨trivial, ?_⟩; conv => whnf)
      refine ⟨⟨_, rfl⟩, ?_⟩
      conv => whnf
      repeat (refine ⟨trivial, ?_⟩; conv => whnf)
      refine ⟨sz2, ?_⟩
      conv => whnf
      repeat (refine ⟨trivial, ?_⟩; conv => whnf)
      refine ⟨by rw [List.length_map]; exact sz_lt (by omega), ?_⟩
      conv => whnf
      repeat (refine ⟨trivial, ?_⟩; conv => whnf)
      refine hM _ ⟨d4, rs ++ [(t.1, tms)], met', _, _, _, _, _, _, hd4, by rw [List.length_append, List.length_singleton]; omega, fun r h => ?_, hm', by omega, by rw [List.map_append]; rfl⟩
      rcases List.mem_append.mp h with z | z
      · exact hr r z
      · rw [List.mem_singleton.mp z]
        exact ⟨⟨nm.ok, l4, ht'⟩, List.mem_map.mpr ⟨t, ht, rfl⟩⟩
    · conv => whnf
      repeat (refine ⟨trivial, ?_⟩; conv => whnf)
      exact hM _ ⟨d4, rs, met', _, _, _, _, _, _, hd4, by omega, hr, hm', by omega, rfl⟩
theorem use_asked {env : AEnv} (j : Nat) {d : D} {ts : List Tab} {m : Int} {R : RV → AEnv → Prop} (e : env[j]? = some (.own d)) (hd : Dr d) (ok : TabsOk ts) (m0 : 0 ≤ m) (m16 : m ≤ 16) (k : ∀ (rs : List Row) d', RowsOk 16 rs → Dr d' → R (.dat (rowsD rs)) (env.set j (.own d'))) : callR S_law_asked [.at j, .dat (tabsD ts), .dat (.int m)] env R :=
  call_lent j [tabsD ts, .int m] e ⟨d, ts, m, rfl, hd, ok, m0, m16, fun rs d' a _ c => k rs d' a c⟩
end AL
namespace AL
open PySem L2
/-! P19: own values. -/
/-- what d.get(t, (0, 1000)) gives of the cells -/
theorem get_cel {sp : List Span} {t : Int} (ht : t < 0) : (dGet (sp.map fun s => D.int s.1) (sp.map fun s => D.tup [.int s.2.1, .int s.2.2]) (.int t)).getD (.tup [.int 0, .int 1000]) = prD (bnd sp t) := by
  rw [get_spans, bnd_lt (by omega)]
  cases e : sp.find? (fun s => s.1 == t) with
  | none => rfl
  | some s => rfl
theorem bnd_ok {ks : List Int} {sp : List Span} (so : SpOk ks sp) {t : Int} (ht : t < 0) : 0 ≤ (bnd sp t).1 ∧ (bnd sp t).1 < (bnd sp t).2 ∧ (bnd sp t).2 ≤ 1000 ∧ (bnd sp t).1 % 100 = 0 ∧ (bnd sp t).2 % 100 = 0 := by
  rw [bnd_lt (by omega)]
  cases e : sp.find? (fun s => s.1 == t) with
  | none => exact ⟨by decide, by decide, by decide, by decide, by decide⟩
  | some s => exact so.ok s (List.mem_of_find?_eq_some e)
theorem ow_body {A : AEnds} {x1 x2 x7 x6 : AV} {d : D} {b : Bd} {us : List Int} {t low high : Int} (hd : Dr d) (h0 : 0 ≤ low) (h1 : low < high) (h2 : high ≤ 1000) (nt : t ∉ b.map (·.1)) (bl : b.length ≤ 64) (ul : us.length ≤ 64)
    (h : ∀ (d' : D) (v : Int) (x7 : AV), Dr d' → low ≤ v → v < high → A.nx [.own d', x1, x2, .own (bD (b ++ [(t, v)])), .own (itsD (us ++ [v])), .dat (.int t), .dat (.int v), x7, .dat (.int low), .dat (.int high)]) :
    law_own_1_1 A [.own d, x1, x2, .own (bD b), .own (itsD us), .dat (.int t), x6, x7, .dat (.int low), .dat (.int high)] := by
  conv => whnf
  repeat (refine ⟨trivial, ?_⟩; conv => whnf)
  refine use_draw 0 rfl hd (by omega) (by omega) fun r d1 r1 r2 hd1 => ?_
  conv => whnf
  repeat (refine ⟨trivial, ?_⟩; conv => whnf)
  refine ⟨⟨by omega, by omega⟩, ?_⟩
  have fin : ∀ (v : Int) (x7 : AV), low ≤ v → v < high → law_own_1_3 { nx := A.nx, rt := A.rt, bk := A.bk, ct := A.ct } [.own d1, x1, x2, .own (bD b), .own (itsD us), .dat (.int t), .dat (.int v), x7, .dat (.int low), .dat (.int high)] := by
    intro v x7 v1 v2
    conv => whnf
    repeat (refine ⟨trivial, ?_⟩; conv => whnf)
    refine set_bd (b := b) rfl (by omega) ?_
    have ep : putB b t v = b ++ [(t, v)] := by unfold putB; rw [if_neg nt]
    rw [ep]
    conv => whnf
    repeat (refine ⟨trivial, ?_⟩; conv => whnf)
    refine ⟨⟨_, rfl⟩, ?_⟩
    conv => whnf
    repeat (refine ⟨trivial, ?_⟩; conv => whnf)
    refine ⟨by rw [List.length_map]; exact sz_lt (by omega), ?_⟩
    conv => whnf
    repeat (refine ⟨trivial, ?_⟩; conv => whnf)
    have := h d1 v x7 hd1 v1 v2
    unfold itsD at this
    rw [List.map_append] at this
    exact this
  refine for_ind (Iv := fun items env => ∃ (v : Int) (x7 : AV), low ≤ v ∧ v < high ∧ env = [.own d1, x1, x2, .own (bD b), .own (itsD us), .dat (.int t), .dat (.int v), x7, .dat (.int low), .dat (.int high)]) ?_ ?_ _ _ ⟨low + r, x7, by omega, by omega, rfl⟩
  · rintro env ⟨v, x7, v1, v2, rfl⟩
    exact fin v x7 v1 v2
  · rintro y ds env M hM ⟨v, x7, v1, v2, rfl⟩
    have step : law_own_2_1 { nx := M, ct := M, bk := law_own_1_3 { nx := A.nx, rt := A.rt, bk := A.bk, ct := A.ct }, rt := A.rt } [.own d1, x1, x2, .own (bD b), .own (itsD us), .dat (.int t), .dat (.int v), .dat y, .dat (.int low), .dat (.int high)] := by
      conv => whnf
      repeat (refine ⟨trivial, ?_⟩; conv => whnf)
      refine brI (fun c => ?_) (fun c => ?_)
      · have c : v + 1 < high := by simpa using c
        conv => whnf
        repeat (refine ⟨trivial, ?_⟩; conv => whnf)
        exact hM _ ⟨v + 1, _, by omega, c, rfl⟩
      · conv => whnf
        repeat (refine ⟨trivial, ?_⟩; conv => whnf)
        exact hM _ ⟨low, _, by omega, h1, rfl⟩
    conv => whnf
    repeat (refine ⟨trivial, ?_⟩; conv => whnf)
    refine ⟨by omega, ?_⟩
    conv => whnf
    repeat (refine ⟨trivial, ?_⟩; conv => whnf)
    refine brI (fun c => ?_) (fun c => ?_)
    · conv => whnf
      repeat (refine ⟨trivial, ?_⟩; conv => whnf)
      refine notin_lst (.int 0 v) (n := 0) (fun z hz => ?_) ?_
      · obtain ⟨i, _, rfl⟩ := List.mem_map.mp hz
        exact .int 0 i
      refine brI (fun c2 => ?_) (fun c2 => ?_)
      · exact fin v _ v1 v2
      · exact step
    · conv => whnf
      repeat (refine ⟨trivial, ?_⟩; conv => whnf)
      rw [brP_false]
      exact step
theorem p_law_own : BodyOk 3 10 B_law_own a_law_own S_law_own := by
  rintro _ R ⟨d, ks, sp, rfl, hd, vo, so, k⟩
  refine ⟨rfl, own0 (ds := [_, _]) rfl, ?_⟩
  have nd := vo.2.1
  have hl := vo.1
  conv => whnf
  repeat (refine ⟨trivial, ?_⟩; conv => whnf)
  refine ⟨Nat.zero_le _, ?_⟩
  conv => whnf
  repeat (refine ⟨trivial, ?_⟩; conv => whnf)
  intro _
  refine for_ind (Iv := fun items env => ∃ (d' : D) (b : Bd) (us rest : List Int) (x5 x6 x7 x8 x9 : AV), items = rest.map D.int ∧ ks = b.map (·.1) ++ rest ∧ Dr d' ∧ us.length = b.length ∧ (∀ p ∈ b, (bnd sp p.1).1 ≤ p.2 ∧ p.2 < (bnd sp p.1).2) ∧ env = [.own d', .dat (itsD ks), .dat (celD sp), .own (bD b), .own (itsD us), x5, x6, x7, x8, x9]) ?_ ?_ _ _ ⟨d, [], [], ks, .un, .un, .un, .un, .un, rfl, rfl, hd, rfl, (fun p h => nomatch h), rfl⟩
  · rintro env ⟨d', b, us, rest, x5, x6, x7, x8, x9, e, ek, hd', ul, hb, rfl⟩
    cases rest with
    | cons u r => cases e
    | nil =>
      rw [List.append_nil] at ek
      conv => whnf
      repeat (refine ⟨trivial, ?_⟩; conv => whnf)
      exact ⟨rfl, new_ _, k b d' ⟨ek.symm, hb⟩ hd'⟩
  · rintro y ds env M hM ⟨d', b, us, rest, x5, x6, x7, x8, x9, e, ek, hd', ul, hb, rfl⟩
    obtain ⟨t, q, rfl, rfl, rfl⟩ := map_cons_inv e.symm
    have tk : t ∈ ks := by rw [ek]; simp
    have nt : t ∉ b.map (·.1) := fun h => by
      rw [ek] at nd
      exact (List.nodup_append.mp nd).2.2 _ h _ List.mem_cons_self rfl
    have bl : b.length ≤ 64 := by
      rw [ek, List.length_append, List.length_map] at hl
      omega
    have tn := (vo.2.2 t tk).2
    obtain ⟨b0, b1, b2, _, _⟩ := bnd_ok so tn
    conv => whnf
    repeat (refine ⟨trivial, ?_⟩; conv => whnf)
    refine ⟨sz2, ?_⟩
    conv => whnf
    repeat (refine ⟨trivial, ?_⟩; conv => whnf)
    refine ⟨rfl, ?_⟩
    rw [get_cel tn]
    refine And.intro rfl (And.intro rfl ?_)
    refine ow_body hd' b0 b1 b2 nt bl (by omega) fun d2 v x7' hd2 v1 v2 => ?_
    refine hM _ ⟨d2, b ++ [(t, v)], us ++ [v], q, _, _, _, _, _, rfl, by rw [List.map_append, List.append_assoc]; exact ek, hd2, by rw [List.length_append, List.length_append, ul]; rfl, fun p hp => ?_, rfl⟩
    rcases List.mem_append.mp hp with z | z
    · exact hb p z
    · rw [List.mem_singleton.mp z]; exact ⟨v1, v2⟩
theorem use_own {env : AEnv} (j : Nat) {d : D} {ks : List Int} {sp : List Span} {R : RV → AEnv → Prop} (e : env[j]? = some (.own d)) (hd : Dr d) (vo : VarsOk ks) (so : SpOk ks sp) (k : ∀ (b : Bd) d', OwOk ks sp b → Dr d' → R (.new (bD b)) (env.set j (.own d'))) : callR S_law_own [.at j, .dat (itsD ks), .dat (celD sp)] env R :=
  call_lent j [itsD ks, celD sp] e ⟨d, ks, sp, rfl, hd, vo, so, k⟩
end AL
namespace AL
open PySem L2
/-! P20: needs. -/
theorem lk_mem {x v : Int} : ∀ {b : Bd}, lkB b x = some v → (x, v) ∈ b
  | [], h => by cases h
  | (k, u) :: r, h => by
    have h : (if k = x then some u else lkB r x) = some v := h
    by_cases e : k = x
    · rw [if_pos e] at h
      cases h
      rw [e]; exact List.mem_cons_self
    · rw [if_neg e] at h
      exact List.mem_cons_of_mem _ (lk_mem h)
def Tm (rs : List Row) (x : Int) : Prop := ∃ r ∈ rs, x ∈ r.2
theorem nd_inner {A : AEnds} {x0 x1 x2 x4 x5 x6 x7 x8 x9 x10 : AV} {rs : List Row} (us : List Int) (hu : ∀ x ∈ us, Tm rs x) (tms : List Int) (ht : ∀ x ∈ tms, Tm rs x) (hz : tms.length + us.length ≤ 1000)
    (h : ∀ (tms' : List Int) (y7 : AV), (∀ x ∈ tms', Tm rs x) → tms'.length ≤ tms.length + us.length → A.nx [x0, x1, x2, .own (itsD tms'), x4, x5, x6, y7, x8, x9, x10]) :
    forL (agName 7) law_needs_2_0 A (us.map D.int) [x0, x1, x2, .own (itsD tms), x4, x5, x6, x7, x8, x9, x10] := by
  refine for_ind (Iv := fun items env => ∃ (tms' rest : List Int) (y7 : AV), items = rest.map D.int ∧ (∀ x ∈ rest, Tm rs x) ∧ (∀ x ∈ tms', Tm rs x) ∧ tms'.length + rest.length ≤ tms.length + us.length ∧ env = [x0, x1, x2, .own (itsD tms'), x4, x5, x6, y7, x8, x9, x10]) ?_ ?_ _ _ ⟨tms, us, x7, rfl, hu, ht, by omega, rfl⟩
  · rintro env ⟨tms', rest, y7, e, _, h1, h2, rfl⟩
    exact h tms' y7 h1 (by omega)
  · rintro y ds env M hM ⟨tms', rest, y7, e, hr, h1, h2, rfl⟩
    obtain ⟨t, q, rfl, rfl, rfl⟩ := map_cons_inv e.symm
    rw [List.length_cons] at h2
    have hq : ∀ x ∈ q, Tm rs x := fun x hx => hr x (List.mem_cons_of_mem _ hx)
    conv => whnf
    repeat (refine ⟨trivial, ?_⟩; conv => whnf)
    refine notin_lst (.int 0 t) (n := 0) (fun z hz => ?_) ?_
    · obtain ⟨i, _, rfl⟩ := List.mem_map.mp hz
      exact .int 0 i
    refine brI (fun c => ?_) (fun c => ?_)
    · conv => whnf
      repeat (refine ⟨trivial, ?_⟩; conv => whnf)
      refine ⟨⟨_, rfl⟩, ?_⟩
      conv => whnf
      repeat (refine ⟨trivial, ?_⟩; conv => whnf)
      refine ⟨by rw [List.length_map]; exact sz_lt (by omega), ?_⟩
      conv => whnf
      repeat (refine ⟨trivial, ?_⟩; conv => whnf)
      refine hM _ ⟨tms' ++ [t], q, _, rfl, hq, fun x hx => ?_, by rw [List.length_append, List.length_singleton]; omega, by unfold itsD; rw [List.map_append]; rfl⟩
      rcases List.mem_append.mp hx with z | z
      · exact h1 x z
      · rw [List.mem_singleton.mp z]; exact hr t List.mem_cons_self
    · conv => whnf
      repeat (refine ⟨trivial, ?_⟩; conv => whnf)
      exact hM _ ⟨tms', q, _, rfl, hq, h1, by omega, rfl⟩
theorem p_law_needs : BodyOk 3 11 B_law_needs a_law_needs S_law_needs := by
  rintro _ R ⟨d, t, b, rfl, hd, ok, ow, k⟩
  refine ⟨rfl, own0 (ds := [_, _]) rfl, ?_⟩
  have hasb : ∀ x, Tm t.rows x → x < 0 → x ∈ b.map (·.1) := fun x ⟨r, hr, hx⟩ lt => by
    rw [ow.keys]
    exact vars_has t.rows r hr x hx lt
  have mk : ∀ x, Tm t.rows x → TmOk x := fun x ⟨r, hr, hx⟩ => (ok.rows.2 r hr).tm x hx
  have wOk : ∀ nd : Need, nd.length ≤ 2 → (∀ p ∈ nd, Tm t.rows p.1 ∧ Tm t.rows p.2 ∧ vB b p.1 < vB b p.2) → NdOk t nd := fun nd h1 h2 => by
    refine ⟨h1, fun p hp => ⟨fun lt => ?_, fun lt => ?_⟩, vB b, fun x hx => vB_pos hx, fun x hx => ?_, fun p hp => ⟨(h2 p hp).2.2, (mk _ (h2 p hp).1).2.2, (mk _ (h2 p hp).2.1).2.2⟩⟩
    · rw [← ow.keys]; exact hasb _ (h2 p hp).1 lt
    · rw [← ow.keys]; exact hasb _ (h2 p hp).2.1 lt
    · rw [← ow.keys] at hx
      obtain ⟨v, e⟩ := lkB_some hx
      have hm := lk_mem e
      have := ow.ok _ hm
      have lt := vars_neg t.rows x (by rw [← ow.keys]; exact hx)
      rw [vB_neg lt, e]
      exact this
  conv => whnf
  repeat (refine ⟨trivial, ?_⟩; conv => whnf)
  refine ⟨Nat.zero_le _, ?_⟩
  conv => whnf
  repeat (refine ⟨trivial, ?_⟩; conv => whnf)
  intro _
  refine for_ind (Iv := fun items env => ∃ (tms : List Int) (rest : List Row) (x4 x7 : AV), items = rest.map rowD ∧ (∀ r ∈ rest, r ∈ t.rows) ∧ (∀ x ∈ tms, Tm t.rows x) ∧ tms.length + 4 * rest.length ≤ 64 ∧ env = [.own d, .dat (rowsD t.rows), .dat (bD b), .own (itsD tms), x4, .un, .un, x7, .un, .un, .un]) ?_ ?_ _ _ ⟨[], t.rows, .un, .un, rfl, fun _ h => h, (fun x h => nomatch h), by have := ok.rows.1; simp; omega, rfl⟩
  · rintro env ⟨tms, rest, x4, x7, e, _, ht, hz, rfl⟩
    conv => whnf
    repeat (refine ⟨trivial, ?_⟩; conv => whnf)
    refine ⟨Nat.zero_le _, ?_⟩
    conv => whnf
    repeat (refine ⟨trivial, ?_⟩; conv => whnf)
    refine use_draw 0 rfl hd (by omega) (by omega) fun r d1 r1 r2 hd1 => ?_
    conv => whnf
    repeat (refine ⟨trivial, ?_⟩; conv => whnf)
    refine ⟨⟨by omega, by omega⟩, ?_⟩
    refine for_ind (Iv := fun items env => ∃ (d' : D) (nd : Need) (x6 x8 x9 x10 : AV), Dr d' ∧ nd.length + items.length ≤ 2 ∧ (∀ p ∈ nd, Tm t.rows p.1 ∧ Tm t.rows p.2 ∧ vB b p.1 < vB b p.2) ∧ env = [.own d', .dat (rowsD t.rows), .dat (bD b), .own (itsD tms), x4, .own (needD nd), x6, x7, x8, x9, x10]) ?_ ?_ _ _ ⟨d1, [], .un, .un, .un, .un, hd1, by rw [range_len]; simp; omega, (fun p h => nomatch h), rfl⟩
    · rintro env ⟨d', nd, x6, x8, x9, x10, hd', hl, hn, rfl⟩
      conv => whnf
      repeat (refine ⟨trivial, ?_⟩; conv => whnf)
      exact ⟨rfl, new_ _, k nd d' (wOk nd (by simpa using hl) hn) hd'⟩
    · rintro y ds env M hM ⟨d', nd, x6, x8, x9, x10, hd', hl, hn, rfl⟩
      rw [List.length_cons] at hl
      have nz : (nd.map prD).length < sizeLine := by rw [List.length_map]; exact sz_lt (by omega)
      conv => whnf
      repeat (refine ⟨trivial, ?_⟩; conv => whnf)
      refine brI (fun c => ?_) (fun c => ?_)
      · have c : (1 : Int) < ((tms.map D.int).length : Int) := by simpa using c
        have tne : tms.map D.int ≠ [] := fun e0 => by rw [e0] at c; simp at c
        have tz : (tms.map D.int).length ≤ 1000000 := by rw [List.length_map]; omega
        conv => whnf
        repeat (refine ⟨trivial, ?_⟩; conv => whnf)
        refine use_pickO 0 3 (tms.map D.int) rfl rfl (by omega) hd' rfl tne tz fun z1 d2 hz1 hd2 => ?_
        conv => whnf
        repeat (refine ⟨trivial, ?_⟩; conv => whnf)
        refine use_pickO 0 3 (tms.map D.int) rfl rfl (by omega) hd2 rfl tne tz fun z2 d3 hz2 hd3 => ?_
        obtain ⟨i1, hi1, rfl⟩ := List.mem_map.mp hz1
        obtain ⟨i2, hi2, rfl⟩ := List.mem_map.mp hz2
        conv => whnf
        repeat (refine ⟨trivial, ?_⟩; conv => whnf)
        refine ⟨sz2, ?_⟩
        conv => whnf
        repeat (refine ⟨trivial, ?_⟩; conv => whnf)
        refine use_mixed 0 [.int i1, .int i2] rfl hd3 rfl (by simp) fun l' d4 pm hd4 => ?_
        obtain ⟨ys, rfl, py⟩ := perm_ex pm [i1, i2] rfl
        have ym : ∀ x ∈ ys, Tm t.rows x := fun x hx => by
          have := py.mem_iff.mp hx
          simp only [List.mem_cons, List.not_mem_nil, or_false] at this
          rcases this with e | e
          · rw [e]; exact ht i1 hi1
          · rw [e]; exact ht i2 hi2
        obtain ⟨a, a', rfl⟩ : ∃ a a', ys = [a, a'] := by
          have yl := py.length_eq
          match ys, yl with
          | [a, a'], _ => exact ⟨a, a', rfl⟩
        have ta := ym a (by simp)
        have ta' := ym a' (by simp)
        conv => whnf
        repeat (refine ⟨trivial, ?_⟩; conv => whnf)
        refine use_valued [a, a'] b rfl (by simp) (fun x hx lt => hasb x (ym x hx) lt) ?_
        conv => whnf
        repeat (refine ⟨trivial, ?_⟩; conv => whnf)
        refine ⟨rfl, ?_⟩
        conv => whnf
        repeat (refine ⟨trivial, ?_⟩; conv => whnf)
        refine ⟨rfl, ?_⟩
        conv => whnf
        repeat (refine ⟨trivial, ?_⟩; conv => whnf)
        refine brI (fun c2 => ?_) (fun c2 => ?_)
        · have c2 : vB b a < vB b a' := by simpa using c2
          conv => whnf
          repeat (refine ⟨trivial, ?_⟩; conv => whnf)
          refine ⟨⟨_, rfl⟩, ?_⟩
          conv => whnf
          repeat (refine ⟨trivial, ?_⟩; conv => whnf)
          refine ix_lst (by omega) rfl ?_
          conv => whnf
          repeat (refine ⟨trivial, ?_⟩; conv => whnf)
          refine ix_lst (by omega) rfl ?_
          conv => whnf
          repeat (refine ⟨trivial, ?_⟩; conv => whnf)
          refine ⟨sz2, ?_⟩
          conv => whnf
          repeat (refine ⟨trivial, ?_⟩; conv => whnf)
          refine ⟨nz, ?_⟩
          conv => whnf
          repeat (refine ⟨trivial, ?_⟩; conv => whnf)
          refine hM _ ⟨d4, nd ++ [(a, a')], _, _, _, _, hd4, by rw [List.length_append, List.length_singleton]; omega, fun p hp => ?_, by unfold needD; rw [List.map_append]; rfl⟩
          rcases List.mem_append.mp hp with z | z
          · exact hn p z
          · rw [List.mem_singleton.mp z]; exact ⟨ta, ta', c2⟩
        · conv => whnf
          repeat (refine ⟨trivial, ?_⟩; conv => whnf)
          refine brI (fun c3 => ?_) (fun c3 => ?_)
          · have c3 : vB b a' < vB b a := by simpa using c3
            conv => whnf
            repeat (refine ⟨trivial, ?_⟩; conv => whnf)
            refine ⟨⟨_, rfl⟩, ?_⟩
            conv => whnf
            repeat (refine ⟨trivial, ?_⟩; conv => whnf)
            refine ix_lst (by omega) rfl ?_
            conv => whnf
            repeat (refine ⟨trivial, ?_⟩; conv => whnf)
            refine ix_lst (by omega) rfl ?_
            conv => whnf
            repeat (refine ⟨trivial, ?_⟩; conv => whnf)
            refine ⟨sz2, ?_⟩
            conv => whnf
            repeat (refine ⟨trivial, ?_⟩; conv => whnf)
            refine ⟨nz, ?_⟩
            conv => whnf
            repeat (refine ⟨trivial, ?_⟩; conv => whnf)
            refine hM _ ⟨d4, nd ++ [(a', a)], _, _, _, _, hd4, by rw [List.length_append, List.length_singleton]; omega, fun p hp => ?_, by unfold needD; rw [List.map_append]; rfl⟩
            rcases List.mem_append.mp hp with z | z
            · exact hn p z
            · rw [List.mem_singleton.mp z]; exact ⟨ta', ta, c3⟩
          · conv => whnf
            repeat (refine ⟨trivial, ?_⟩; conv => whnf)
            exact hM _ ⟨d4, nd, _, _, _, _, hd4, by omega, hn, rfl⟩
      · conv => whnf
        repeat (refine ⟨trivial, ?_⟩; conv => whnf)
        exact hM _ ⟨d', nd, _, _, _, _, hd', by omega, hn, rfl⟩
  · rintro y ds env M hM ⟨tms, rest, x4, x7, e, hr, ht, hz, rfl⟩
    obtain ⟨r, q, rfl, rfl, rfl⟩ := map_cons_inv e.symm
    rw [List.length_cons] at hz
    have rin := hr r List.mem_cons_self
    have r4 := (ok.rows.2 r rin).few
    conv => whnf
    repeat (refine ⟨trivial, ?_⟩; conv => whnf)
    refine ix_tup (by omega) rfl ?_
    conv => whnf
    repeat (refine ⟨trivial, ?_⟩; conv => whnf)
    intro _
    refine nd_inner (rs := t.rows) r.2 (fun x hx => ⟨r, rin, hx⟩) tms ht (by omega) fun tms' y7 h1 h2 => ?_
    exact hM _ ⟨tms', q, _, _, rfl, fun z hz => hr z (List.mem_cons_of_mem _ hz), h1, by omega, rfl⟩
theorem use_needs {env : AEnv} (j : Nat) {d : D} (t : Tree) (b : Bd) {R : RV → AEnv → Prop} (e : env[j]? = some (.own d)) (hd : Dr d) (ok : TreeOk t) (ow : OwOk (vars t.rows) t.spans b) (k : ∀ (nd : Need) d', NdOk t nd → Dr d' → R (.new (needD nd)) (env.set j (.own d'))) : callR S_law_needs [.at j, .dat (rowsD t.rows), .dat (bD b)] env R :=
  call_lent j [rowsD t.rows, bD b] e ⟨d, t, b, rfl, hd, ok, ow, k⟩
end AL
namespace AL
open PySem L2
/-! P21: the plain law of the frozen values, first part. -/
theorem lk_set {t v x : Int} : ∀ {b : Bd}, lkB (setB b t v) x = if x = t ∧ t ∈ b.map (·.1) then some v else lkB b x
  | [] => by simp [setB, lkB]
  | (k, w) :: r => by
    have ih := lk_set (t := t) (v := v) (x := x) (b := r)
    by_cases c : k = t
    · subst c
      have e1 : setB ((k, w) :: r) k v = (k, v) :: setB r k v := by simp [setB]
      rw [e1]
      show (if k = x then some v else lkB (setB r k v) x) = _
      by_cases c2 : k = x
      · subst c2
        rw [if_pos rfl, if_pos ⟨rfl, by simp⟩]
      · rw [if_neg c2, ih, if_neg (fun z => c2 z.1.symm), if_neg (fun z => c2 z.1.symm)]
        show _ = if k = x then some w else lkB r x
        rw [if_neg c2]
    · have e1 : setB ((k, w) :: r) t v = (k, w) :: setB r t v := by simp [setB, c]
      rw [e1]
      show (if k = x then some w else lkB (setB r t v) x) = if x = t ∧ t ∈ ((k, w) :: r).map (·.1) then some v else (if k = x then some w else lkB r x)
      by_cases c2 : k = x
      · subst c2
        rw [if_pos rfl, if_neg fun z => c z.1, if_pos rfl]
      · rw [if_neg c2, if_neg c2, ih]
        by_cases c3 : x = t ∧ t ∈ r.map (·.1)
        · rw [if_pos c3, if_pos ⟨c3.1, by rw [List.map_cons]; exact List.mem_cons_of_mem _ c3.2⟩]
        · rw [if_neg c3, if_neg fun z => c3 ⟨z.1, ?_⟩]
          have := z.2
          rw [List.map_cons, List.mem_cons] at this
          exact this.resolve_left fun e => c e.symm
theorem lk_app {t v x : Int} : ∀ {b : Bd}, t ∉ b.map (·.1) → lkB (b ++ [(t, v)]) x = if x = t then some v else lkB b x
  | [], _ => by
    show (if t = x then some v else none) = _
    by_cases c : x = t
    · rw [if_pos c.symm, if_pos c]
    · rw [if_neg (fun z => c z.symm), if_neg c]; rfl
  | (k, w) :: r, h => by
    rw [List.map_cons, List.mem_cons] at h
    show (if k = x then some w else lkB (r ++ [(t, v)]) x) = if x = t then some v else (if k = x then some w else lkB r x)
    rw [lk_app (b := r) fun z => h (.inr z)]
    by_cases c : k = x
    · subst c
      rw [if_pos rfl, if_neg fun z => h (.inl z.symm), if_pos rfl]
    · rw [if_neg c, if_neg c]
theorem lk_of : ∀ {b : Bd}, (b.map (·.1)).Nodup → ∀ p ∈ b, lkB b p.1 = some p.2
  | [], _, p, h => nomatch h
  | (x, y) :: r, nd, p, hp => by
    rw [List.map_cons, List.nodup_cons] at nd
    show (if x = p.1 then some y else lkB r p.1) = some p.2
    rcases List.mem_cons.mp hp with z | z
    · rw [z, if_pos rfl]
    · rw [if_neg fun e => nd.1 (by
        have e : x = p.1 := e
        rw [e]
        exact List.mem_map.mpr ⟨p, z, rfl⟩)]
      exact lk_of nd.2 p z
/-- the state is in order: its keys are variables, its values are unlike, and these are in use -/
structure FrOk (ks : List Int) (f : Fr) : Prop where
  nd : (f.1.map (·.1)).Nodup
  sub : ∀ x ∈ f.1.map (·.1), x ∈ ks
  und : f.2.Nodup
  mem : ∀ x, x ∈ f.2 ↔ ∃ t, lkB f.1 t = some x
  inj : ∀ t t' x, lkB f.1 t = some x → lkB f.1 t' = some x → t = t'
theorem FrOk.len {ks : List Int} {f : Fr} (h : FrOk ks f) (hk : ks.length ≤ 64) : f.1.length ≤ 64 ∧ f.2.length ≤ 64 := by
  have h1 : f.1.length ≤ 64 := by
    have := nd_sub_len h.nd h.sub
    rw [List.length_map] at this
    omega
  refine ⟨h1, ?_⟩
  have : f.2.length ≤ (f.1.map (·.2)).length := nd_sub_len h.und fun x hx => by
    obtain ⟨t, e⟩ := (h.mem x).mp hx
    exact List.mem_map.mpr ⟨(t, x), lk_mem e, rfl⟩
  rw [List.length_map] at this
  omega
theorem FrOk.nil (ks : List Int) : FrOk ks ([], []) := ⟨List.nodup_nil, (fun x h => nomatch h), List.nodup_nil, fun x => ⟨fun h => (by cases h), fun ⟨t, e⟩ => (by cases e)⟩, fun t t' x h => (by cases h)⟩
theorem putT_ok {ks : List Int} {f : Fr} (h : FrOk ks f) (hk : ks.length ≤ 64) (sp : List Span) {t : Int} (ht : t < 0 → t ∈ ks) : FrOk ks (putT sp f t) := by
  unfold putT
  by_cases c : t < 0 ∧ t ∉ f.1.map (·.1)
  · rw [if_pos c]
    have nb := pf_plain (us := f.2) (low := (bnd sp t).1) (by have := (h.len hk).2; omega)
    have nv : pfrom 200 (bnd sp t).1 f.2 ∉ f.2 := fun z => nb (.inr z)
    refine ⟨?_, fun x hx => ?_, ?_, fun x => ?_, fun t1 t2 x h1 h2 => ?_⟩
    · show (List.map (fun p : Int × Int => p.1) (f.1 ++ [(t, _)])).Nodup
      rw [List.map_append]
      refine List.nodup_append.mpr ⟨h.nd, by simp, fun a ha b hb => ?_⟩
      rw [List.mem_singleton.mp hb]
      exact fun e => c.2 (by
        have e : a = t := e
        rw [← e]; exact ha)
    · rw [List.map_append] at hx
      rcases List.mem_append.mp hx with z | z
      · exact h.sub x z
      · rw [List.mem_singleton.mp z]; exact ht c.1
    · exact List.nodup_append.mpr ⟨h.und, by simp, fun a ha b hb => by
        rw [List.mem_singleton.mp hb]
        exact fun e => nv (by rw [← e]; exact ha)⟩
    · show x ∈ f.2 ++ [_] ↔ ∃ t', lkB (f.1 ++ [(t, _)]) t' = some x
      rw [List.mem_append, List.mem_singleton]
      constructor
      · rintro (z | z)
        · obtain ⟨t', e⟩ := (h.mem x).mp z
          refine ⟨t', ?_⟩
          rw [lk_app c.2, if_neg fun e0 => ?_]
          · exact e
          · exact c.2 (by rw [← e0]; exact List.mem_map.mpr ⟨(t', x), lk_mem e, rfl⟩)
        · exact ⟨t, by rw [lk_app c.2, if_pos rfl, z]⟩
      · rintro ⟨t', e⟩
        rw [lk_app c.2] at e
        by_cases e0 : t' = t
        · rw [if_pos e0] at e; cases e; exact .inr rfl
        · rw [if_neg e0] at e; exact .inl ((h.mem x).mpr ⟨t', e⟩)
    · have h1 : lkB (f.1 ++ [(t, _)]) t1 = some x := h1
      have h2 : lkB (f.1 ++ [(t, _)]) t2 = some x := h2
      rw [lk_app c.2] at h1 h2
      by_cases c1 : t1 = t <;> by_cases c2 : t2 = t
      · rw [c1, c2]
      · rw [if_pos c1] at h1; rw [if_neg c2] at h2
        cases h1
        exact (nv ((h.mem _).mpr ⟨t2, h2⟩)).elim
      · rw [if_neg c1] at h1; rw [if_pos c2] at h2
        cases h2
        exact (nv ((h.mem _).mpr ⟨t1, h1⟩)).elim
      · rw [if_neg c1] at h1; rw [if_neg c2] at h2
        exact h.inj t1 t2 x h1 h2
  · rw [if_neg c]; exact h
theorem fix_eq (sp : List Span) (f : Fr) (p : Int × Int) (c : vB f.1 p.2 ≤ vB f.1 p.1 ∧ p.2 < 0) : fixP sp f p = (setB f.1 p.2 (pfrom 200 (max (bnd sp p.2).1 (vB f.1 p.1 + 1)) (f.2.filter fun j => decide (j ≠ vB f.1 p.2))), (f.2.filter fun j => decide (j ≠ vB f.1 p.2)) ++ [pfrom 200 (max (bnd sp p.2).1 (vB f.1 p.1 + 1)) (f.2.filter fun j => decide (j ≠ vB f.1 p.2))]) := by
  unfold fixP
  rw [if_pos c]
theorem fix_ne (sp : List Span) (f : Fr) (p : Int × Int) (c : ¬ (vB f.1 p.2 ≤ vB f.1 p.1 ∧ p.2 < 0)) : fixP sp f p = f := by
  unfold fixP
  rw [if_neg c]
theorem fixP_keys (sp : List Span) (f : Fr) (p : Int × Int) : (fixP sp f p).1.map (·.1) = f.1.map (·.1) := by
  by_cases c : vB f.1 p.2 ≤ vB f.1 p.1 ∧ p.2 < 0
  · rw [fix_eq sp f p c]; exact setB_keys _ _ _
  · rw [fix_ne sp f p c]
theorem fixP_ok {ks : List Int} {f : Fr} (h : FrOk ks f) (hk : ks.length ≤ 64) (sp : List Span) {p : Int × Int} (hp : p.2 < 0 → p.2 ∈ f.1.map (·.1)) : FrOk ks (fixP sp f p) := by
  by_cases c : vB f.1 p.2 ≤ vB f.1 p.1 ∧ p.2 < 0
  · rw [fix_eq sp f p c]
    obtain ⟨w, ew⟩ := lkB_some (hp c.2)
    have evw : vB f.1 p.2 = w := by rw [vB_neg c.2, ew]; rfl
    rw [evw]
    have fl := List.length_filter_le (fun j : Int => decide (j ≠ w)) f.2
    have nb := pf_plain (us := f.2.filter fun j => decide (j ≠ w)) (low := max (bnd sp p.2).1 (vB f.1 p.1 + 1)) (by have := (h.len hk).2; omega)
    generalize pfrom 200 (max (bnd sp p.2).1 (vB f.1 p.1 + 1)) (f.2.filter fun j => decide (j ≠ w)) = v at nb ⊢
    have nv : v ∉ f.2.filter fun j => decide (j ≠ w) := fun z => nb (.inr z)
    have inf : ∀ x, x ∈ (f.2.filter fun j => decide (j ≠ w)) ↔ x ∈ f.2 ∧ x ≠ w := fun x => by rw [List.mem_filter]; simp
    have other : ∀ t x, t ≠ p.2 → lkB f.1 t = some x → x ≠ w := fun t x ne e e0 => by
      subst e0
      exact ne (h.inj t p.2 x e ew)
    refine ⟨by show ((setB f.1 p.2 v).map (·.1)).Nodup; rw [setB_keys]; exact h.nd, fun x hx => ?_, ?_, fun x => ?_, fun t1 t2 x h1 h2 => ?_⟩
    · have hx : x ∈ (setB f.1 p.2 v).map (·.1) := hx
      rw [setB_keys] at hx
      exact h.sub x hx
    · exact List.nodup_append.mpr ⟨h.und.filter _, by simp, fun a ha b hb => by
        rw [List.mem_singleton.mp hb]
        exact fun e => nv (by rw [← e]; exact ha)⟩
    · show x ∈ (f.2.filter fun j => decide (j ≠ w)) ++ [v] ↔ ∃ t', lkB (setB f.1 p.2 v) t' = some x
      rw [List.mem_append, List.mem_singleton, inf]
      constructor
      · rintro (⟨z, nz⟩ | z)
        · obtain ⟨t', e⟩ := (h.mem x).mp z
          refine ⟨t', ?_⟩
          rw [lk_set, if_neg fun e0 => ?_]
          · exact e
          · rw [e0.1, ew] at e
            cases e
            exact nz rfl
        · exact ⟨p.2, by rw [lk_set, if_pos ⟨rfl, hp c.2⟩, z]⟩
      · rintro ⟨t', e⟩
        rw [lk_set] at e
        by_cases e0 : t' = p.2 ∧ p.2 ∈ f.1.map (·.1)
        · rw [if_pos e0] at e; cases e; exact .inr rfl
        · rw [if_neg e0] at e
          have ne : t' ≠ p.2 := fun z => e0 ⟨z, hp c.2⟩
          exact .inl ⟨(h.mem x).mpr ⟨t', e⟩, other t' x ne e⟩
    · have h1 : lkB (setB f.1 p.2 v) t1 = some x := h1
      have h2 : lkB (setB f.1 p.2 v) t2 = some x := h2
      rw [lk_set] at h1 h2
      have nn : ∀ t', t' ≠ p.2 → lkB f.1 t' = some v → False := fun t' ne e => nv ((inf v).mpr ⟨(h.mem v).mpr ⟨t', e⟩, other t' v ne e⟩)
      by_cases c1 : t1 = p.2 <;> by_cases c2 : t2 = p.2
      · rw [c1, c2]
      · rw [if_pos ⟨c1, hp c.2⟩] at h1; rw [if_neg fun z => c2 z.1] at h2
        cases h1
        exact (nn t2 c2 h2).elim
      · rw [if_neg fun z => c1 z.1] at h1; rw [if_pos ⟨c2, hp c.2⟩] at h2
        cases h2
        exact (nn t1 c1 h1).elim
      · rw [if_neg fun z => c1 z.1] at h1; rw [if_neg fun z => c2 z.1] at h2
        exact h.inj t1 t2 x h1 h2
  · rw [fix_ne sp f p c]; exact h
theorem putT_keys (sp : List Span) (f : Fr) (t : Int) : ∀ x, x ∈ (putT sp f t).1.map (·.1) ↔ x ∈ f.1.map (·.1) ∨ (x = t ∧ t < 0) := fun x => by
  unfold putT
  by_cases c : t < 0 ∧ t ∉ f.1.map (·.1)
  · rw [if_pos c]
    show x ∈ List.map (fun p : Int × Int => p.1) (f.1 ++ [(t, _)]) ↔ _
    rw [List.map_append, List.mem_append]
    constructor
    · rintro (z | z)
      · exact .inl z
      · exact .inr ⟨List.mem_singleton.mp z, c.1⟩
    · rintro (z | z)
      · exact .inl z
      · exact .inr (List.mem_singleton.mpr z.1)
  · rw [if_neg c]
    constructor
    · exact .inl
    · rintro (z | ⟨z, lt⟩)
      · exact z
      · rw [z]; exact Classical.byContradiction fun n => c ⟨lt, n⟩
end AL
namespace AL
open PySem L2
/-! P22: the frozen values are made. -/
theorem use_spanT {C : Cls} {env : AEnv} (t : Tree) (x : Int) {R : RV → AEnv → Prop} (ok : TreeOk t) (k : R (.dat (prD (bnd t.spans x))) env) : callR (S_Body_span C) [.dat (objD C t), .dat (.int x)] env R := use_span t x ok k
theorem set_us {env : AEnv} {j : Nat} {us : List Int} {v : Int} {N : AEnv → Prop} (e : env[j]? = some (.own (usD us))) (nv : v ∉ us) (hz : us.length ≤ 1000) (h : N (env.set j (.own (usD (us ++ [v]))))) : setAt j (.int v) (.bl true) env N := by
  refine set_dic e rfl (fun hm => nv (us_mem.mp hm)) (by rw [List.length_map]; omega) ?_
  unfold usD at h
  rw [List.map_append, List.map_append] at h
  exact h
theorem us_drop (w : Int) : ∀ us : List Int, dDropK (us.map D.int) (.int w) = (us.filter fun j => decide (j ≠ w)).map D.int ∧ dDropV (us.map D.int) (us.map fun _ => D.bl true) (.int w) = (us.filter fun j => decide (j ≠ w)).map fun _ => D.bl true
  | [] => ⟨rfl, rfl⟩
  | u :: us => by
    obtain ⟨h1, h2⟩ := us_drop w us
    unfold dDropK at h1 ⊢
    by_cases c : u = w
    · subst c
      constructor
      · rw [List.map_cons, List.filter_cons_of_neg (by simp), List.filter_cons_of_neg (by simp)]
        exact h1
      · rw [List.filter_cons_of_neg (by simp)]
        simp only [List.map_cons, dDropV, if_pos]
        exact h2
    · constructor
      · rw [List.map_cons, List.filter_cons_of_pos (by simpa using c), List.filter_cons_of_pos (by simpa using c), List.map_cons, h1]
      · rw [List.filter_cons_of_pos (by simpa using c)]
        simp only [List.map_cons, dDropV]
        rw [if_neg (by simpa using c), h2]
theorem pop_us {env : AEnv} {j : Nat} {us : List Int} {w : Int} {R : RV → AEnv → Prop} (e : env[j]? = some (.own (usD us))) (h : ∀ z, R (.dat z) (env.set j (.own (usD (us.filter fun j => decide (j ≠ w)))))) : popAt j (.int w) .non env R := by
  unfold popAt
  rw [e]
  refine ⟨rfl, ?_⟩
  obtain ⟨h1, h2⟩ := us_drop w us
  cases q : dGet (us.map D.int) (us.map fun _ => D.bl true) (.int w) with
  | some z =>
    have := h z
    unfold usD at this
    rw [← h1, ← h2] at this
    exact this
  | none =>
    have nm : w ∉ us := by
      intro hm
      have : ∀ l : List Int, w ∈ l → dGet (l.map D.int) (l.map fun _ => D.bl true) (.int w) ≠ none := fun l => by
        induction l with
        | nil => intro h; cases h
        | cons a l ih =>
          intro h
          simp only [List.map_cons, dGet]
          by_cases c : a = w
          · rw [if_pos (by rw [c])]; simp
          · rw [if_neg (by simpa using c)]
            exact ih ((List.mem_cons.mp h).resolve_left fun z => c z.symm)
      exact this us hm q
    have ef : (us.filter fun j => decide (j ≠ w)) = us := List.filter_eq_self.mpr fun a ha => by
      simp
      exact fun z => nm (by rw [← z]; exact ha)
    have := h .non
    rw [ef] at this
    have es : env.set j (.own (usD us)) = env := List.ext_getElem? fun i => by
      by_cases c : j = i
      · subst c
        rw [List.getElem?_set_self (List.getElem?_eq_some_iff.mp e).1, e]
      · rw [List.getElem?_set_ne c]
    rw [es] at this
    exact this
/-- one value is put -/
theorem pt_step {C : Cls} {t : Tree} (ok : TreeOk t) {M : AEnv → Prop} {A : AEnds} {x1 x4 x5 x7 x8 x9 : AV} {f : Fr} (fo : FrOk (vars t.rows) f) {x : Int} (hx : x < 0 → x ∈ vars t.rows) (hk : (vars t.rows).length ≤ 64)
    (h : M [.dat (objD C t), x1, .own (bD (putT t.spans f x).1), .own (usD (putT t.spans f x).2), x4, x5, .dat (.int x), x7, x8, x9]) :
    put_needed_2_0 C { nx := M, rt := A.rt, bk := A.bk, ct := A.ct } [.dat (objD C t), x1, .own (bD f.1), .own (usD f.2), x4, x5, .dat (.int x), x7, x8, x9] := by
  obtain ⟨bl, ul⟩ := fo.len hk
  unfold putT at h
  conv => whnf
  repeat (refine ⟨trivial, ?_⟩; conv => whnf)
  refine brI (fun c => ?_) (fun c => ?_)
  · have c : x < 0 := by simpa using c
    conv => whnf
    repeat (refine ⟨trivial, ?_⟩; conv => whnf)
    refine notin_dic rfl ?_
    refine brI (fun c2 => ?_) (fun c2 => ?_)
    · have c2 : x ∉ f.1.map (·.1) := by simpa [bd_mem] using c2
      rw [if_pos ⟨c, c2⟩] at h
      conv => whnf
      repeat (refine ⟨trivial, ?_⟩; conv => whnf)
      refine ⟨⟨_, _, rfl, rfl⟩, ?_⟩
      conv => whnf
      repeat (refine ⟨trivial, ?_⟩; conv => whnf)
      refine use_spanT t x ok ?_
      conv => whnf
      repeat (refine ⟨trivial, ?_⟩; conv => whnf)
      refine ix_tup (by omega) rfl ?_
      conv => whnf
      repeat (refine ⟨trivial, ?_⟩; conv => whnf)
      refine use_plainfromO 3 (bnd t.spans x).1 f.2 rfl (by omega) ?_
      conv => whnf
      repeat (refine ⟨trivial, ?_⟩; conv => whnf)
      refine set_bd (b := f.1) rfl (by omega) ?_
      have ep : ∀ v, putB f.1 x v = f.1 ++ [(x, v)] := fun v => by unfold putB; rw [if_neg c2]
      rw [ep]
      conv => whnf
      repeat (refine ⟨trivial, ?_⟩; conv => whnf)
      refine ix_bd (b := f.1 ++ [(x, pfrom 200 (bnd t.spans x).1 f.2)]) (by simp) ?_
      rw [lk_app c2, if_pos rfl]
      conv => whnf
      repeat (refine ⟨trivial, ?_⟩; conv => whnf)
      refine set_us (us := f.2) rfl ?_ (by omega) ?_
      · exact fun z => pf_plain (us := f.2) (low := (bnd t.spans x).1) (by omega) (.inr z)
      · exact h
    · have c2 : x ∈ f.1.map (·.1) := by simpa [bd_mem] using c2
      rw [if_neg fun z => z.2 c2] at h
      conv => whnf
      repeat (refine ⟨trivial, ?_⟩; conv => whnf)
      exact h
  · have c : ¬ x < 0 := by simpa using c
    rw [if_neg fun z => c z.1] at h
    conv => whnf
    repeat (refine ⟨trivial, ?_⟩; conv => whnf)
    rw [brP_false]
    conv => whnf
    repeat (refine ⟨trivial, ?_⟩; conv => whnf)
    exact h
/-- one value is mended -/
theorem fx_step {C : Cls} {t : Tree} (ok : TreeOk t) {M : AEnv → Prop} {A : AEnds} {x1 x4 x5 x6 x9 : AV} {f : Fr} (fo : FrOk (vars t.rows) f) {p : Int × Int} (h1 : p.1 < 0 → p.1 ∈ f.1.map (·.1)) (h2 : p.2 < 0 → p.2 ∈ f.1.map (·.1)) (hk : (vars t.rows).length ≤ 64)
    (h : ∀ y9, M [.dat (objD C t), x1, .own (bD (fixP t.spans f p).1), .own (usD (fixP t.spans f p).2), x4, x5, x6, .dat (.int p.1), .dat (.int p.2), y9]) :
    put_needed_5_0 C { nx := M, rt := A.rt, bk := A.bk, ct := A.ct } [.dat (objD C t), x1, .own (bD f.1), .own (usD f.2), x4, x5, x6, .dat (.int p.1), .dat (.int p.2), x9] := by
  obtain ⟨bl, ul⟩ := fo.len hk
  conv => whnf
  repeat (refine ⟨trivial, ?_⟩; conv => whnf)
  refine use_valueofO 2 f.1 p.1 rfl h1 ?_
  conv => whnf
  repeat (refine ⟨trivial, ?_⟩; conv => whnf)
  refine use_valueofO 2 f.1 p.2 rfl h2 ?_
  conv => whnf
  repeat (refine ⟨trivial, ?_⟩; conv => whnf)
  refine brI (fun c => ?_) (fun c => ?_)
  · have c : vB f.1 p.2 ≤ vB f.1 p.1 := by simpa using c
    conv => whnf
    repeat (refine ⟨trivial, ?_⟩; conv => whnf)
    refine brI (fun c2 => ?_) (fun c2 => ?_)
    · have c2 : p.2 < 0 := by simpa using c2
      have em : max (bnd t.spans p.2).1 (vB f.1 p.1 + 1) = (if vB f.1 p.1 + 1 > (bnd t.spans p.2).1 then vB f.1 p.1 + 1 else (bnd t.spans p.2).1) := by
        rw [Int.max_def]
        split <;> split <;> omega
      rw [fix_eq t.spans f p ⟨c, c2⟩, em] at h
      have fl := List.length_filter_le (fun j : Int => decide (j ≠ vB f.1 p.2)) f.2
      conv => whnf
      repeat (refine ⟨trivial, ?_⟩; conv => whnf)
      refine ⟨⟨_, _, rfl, rfl⟩, ?_⟩
      conv => whnf
      repeat (refine ⟨trivial, ?_⟩; conv => whnf)
      refine use_spanT t p.2 ok ?_
      conv => whnf
      repeat (refine ⟨trivial, ?_⟩; conv => whnf)
      refine ix_tup (by omega) rfl ?_
      conv => whnf
      repeat (refine ⟨trivial, ?_⟩; conv => whnf)
      refine use_valueofO 2 f.1 p.1 rfl h1 ?_
      conv => whnf
      repeat (refine ⟨trivial, ?_⟩; conv => whnf)
      refine ix_bd (b := f.1) (h2 c2) ?_
      rw [← vB_neg c2]
      conv => whnf
      repeat (refine ⟨trivial, ?_⟩; conv => whnf)
      refine pop_us (us := f.2) rfl fun z => ?_
      conv => whnf
      repeat (refine ⟨trivial, ?_⟩; conv => whnf)
      refine use_plainfromO 3 _ (f.2.filter fun j => decide (j ≠ vB f.1 p.2)) rfl (by omega) ?_
      conv => whnf
      repeat (refine ⟨trivial, ?_⟩; conv => whnf)
      refine set_bd (b := f.1) rfl (by omega) ?_
      have ep : ∀ v, putB f.1 p.2 v = setB f.1 p.2 v := fun v => by unfold putB; rw [if_pos (h2 c2)]
      rw [ep]
      conv => whnf
      repeat (refine ⟨trivial, ?_⟩; conv => whnf)
      refine ix_bd (b := setB f.1 p.2 _) (by rw [setB_keys]; exact h2 c2) ?_
      rw [lk_set, if_pos ⟨rfl, h2 c2⟩]
      conv => whnf
      repeat (refine ⟨trivial, ?_⟩; conv => whnf)
      refine set_us (us := f.2.filter fun j => decide (j ≠ vB f.1 p.2)) rfl ?_ (by omega) ?_
      · exact fun z => pf_plain (us := f.2.filter fun j => decide (j ≠ vB f.1 p.2)) (low := if vB f.1 p.1 + 1 > (bnd t.spans p.2).1 then vB f.1 p.1 + 1 else (bnd t.spans p.2).1) (by omega) (.inr z)
      · exact h _
    · have c2 : ¬ p.2 < 0 := by simpa using c2
      rw [fix_ne t.spans f p fun z => c2 z.2] at h
      conv => whnf
      repeat (refine ⟨trivial, ?_⟩; conv => whnf)
      exact h _
  · have c : ¬ vB f.1 p.2 ≤ vB f.1 p.1 := by simpa using c
    rw [fix_ne t.spans f p fun z => c z.1] at h
    conv => whnf
    repeat (refine ⟨trivial, ?_⟩; conv => whnf)
    rw [brP_false]
    conv => whnf
    repeat (refine ⟨trivial, ?_⟩; conv => whnf)
    exact h _
end AL
namespace AL
open PySem L2
/-! P23: put_needed, freeze. -/
def put2 (sp : List Span) (f : Fr) (p : Int × Int) : Fr := putT sp (putT sp f p.1) p.2
def In2 (f : Fr) (p : Int × Int) : Prop := (p.1 < 0 → p.1 ∈ f.1.map (·.1)) ∧ (p.2 < 0 → p.2 ∈ f.1.map (·.1))
theorem pn_pair {C : Cls} {t : Tree} (ok : TreeOk t) (hk : (vars t.rows).length ≤ 64) {A : AEnds} {x1 x5 x6 x7 x8 x9 : AV} {f : Fr} (fo : FrOk (vars t.rows) f) {p : Int × Int} (h1 : p.1 < 0 → p.1 ∈ vars t.rows) (h2 : p.2 < 0 → p.2 ∈ vars t.rows)
    (h : ∀ y6, A.nx [.dat (objD C t), x1, .own (bD (put2 t.spans f p).1), .own (usD (put2 t.spans f p).2), .dat (prD p), x5, y6, x7, x8, x9]) :
    put_needed_1_0 C A [.dat (objD C t), x1, .own (bD f.1), .own (usD f.2), .dat (prD p), x5, x6, x7, x8, x9] := by
  conv => whnf
  repeat (refine ⟨trivial, ?_⟩; conv => whnf)
  intro _
  have fo1 := putT_ok fo hk t.spans h1
  refine for_ind (Iv := fun items env => ∃ (us : List Int) (f' : Fr) (y6 : AV), items = us.map D.int ∧ us.foldl (putT t.spans) f' = put2 t.spans f p ∧ FrOk (vars t.rows) f' ∧ (∀ x ∈ us, x < 0 → x ∈ vars t.rows) ∧ env = [.dat (objD C t), x1, .own (bD f'.1), .own (usD f'.2), .dat (prD p), x5, y6, x7, x8, x9]) ?_ ?_ _ _ ⟨[p.1, p.2], f, x6, rfl, rfl, fo, fun x hx => ?_, rfl⟩
  · rintro env ⟨us, f', y6, e, ef, _, _, rfl⟩
    cases us with
    | cons u r => cases e
    | nil =>
      have ef : f' = put2 t.spans f p := ef
      rw [ef]
      exact h y6
  · rintro y ds env M hM ⟨us, f', y6, e, ef, fo', hu, rfl⟩
    obtain ⟨x, q, rfl, rfl, rfl⟩ := map_cons_inv e.symm
    show put_needed_2_0 C _ _
    refine pt_step (A := { nx := M, rt := A.rt, bk := A.nx, ct := M }) ok fo' (hu x List.mem_cons_self) hk ?_
    exact hM _ ⟨q, _, _, rfl, ef, putT_ok fo' hk t.spans (hu x List.mem_cons_self), fun z hz => hu z (List.mem_cons_of_mem _ hz), rfl⟩
  · simp only [List.mem_cons, List.not_mem_nil, or_false] at hx
    rcases hx with e | e
    · rw [e]; exact h1
    · rw [e]; exact h2
theorem putT_in {sp : List Span} {f : Fr} {x : Int} {p : Int × Int} (h : In2 f p) : In2 (putT sp f x) p := ⟨fun lt => (putT_keys sp f x _).mpr (.inl (h.1 lt)), fun lt => (putT_keys sp f x _).mpr (.inl (h.2 lt))⟩
theorem put2_in {sp : List Span} {f : Fr} {p : Int × Int} : In2 (put2 sp f p) p := ⟨fun lt => (putT_keys sp _ _ _).mpr (.inl ((putT_keys sp f p.1 _).mpr (.inr ⟨rfl, lt⟩))), fun lt => (putT_keys sp _ _ _).mpr (.inr ⟨rfl, lt⟩)⟩
theorem fixP_in {sp : List Span} {f : Fr} {p q : Int × Int} (h : In2 f p) : In2 (fixP sp f q) p := ⟨fun lt => by rw [fixP_keys]; exact h.1 lt, fun lt => by rw [fixP_keys]; exact h.2 lt⟩
theorem pn_turn {C : Cls} {t : Tree} (ok : TreeOk t) (hk : (vars t.rows).length ≤ 64) {A : AEnds} {x4 x5 x6 x7 x8 x9 : AV} {nd : Need} (hl : nd.length ≤ 2) {f : Fr} (fo : FrOk (vars t.rows) f) (hin : ∀ p ∈ nd, In2 f p)
    (h : ∀ y7 y8 y9, FrOk (vars t.rows) (nd.foldl (fixP t.spans) f) → (∀ p ∈ nd, In2 (nd.foldl (fixP t.spans) f) p) → A.nx [.dat (objD C t), .dat (needD nd), .own (bD (nd.foldl (fixP t.spans) f).1), .own (usD (nd.foldl (fixP t.spans) f).2), x4, x5, x6, y7, y8, y9]) :
    put_needed_4_0 C A [.dat (objD C t), .dat (needD nd), .own (bD f.1), .own (usD f.2), x4, x5, x6, x7, x8, x9] := by
  conv => whnf
  repeat (refine ⟨trivial, ?_⟩; conv => whnf)
  intro _
  refine for_ind (Iv := fun items env => ∃ (rest : Need) (f' : Fr) (y7 y8 y9 : AV), items = rest.map prD ∧ rest.foldl (fixP t.spans) f' = nd.foldl (fixP t.spans) f ∧ FrOk (vars t.rows) f' ∧ (∀ p ∈ nd, In2 f' p) ∧ (∀ p ∈ rest, p ∈ nd) ∧ env = [.dat (objD C t), .dat (needD nd), .own (bD f'.1), .own (usD f'.2), x4, x5, x6, y7, y8, y9]) ?_ ?_ _ _ ⟨nd, f, x7, x8, x9, rfl, rfl, fo, hin, fun _ h => h, rfl⟩
  · rintro env ⟨rest, f', y7, y8, y9, e, ef, fo', hi, _, rfl⟩
    cases rest with
    | cons u r => cases e
    | nil =>
      have ef : f' = nd.foldl (fixP t.spans) f := ef
      subst ef
      exact h y7 y8 y9 fo' hi
  · rintro y ds env M hM ⟨rest, f', y7, y8, y9, e, ef, fo', hi, hr, rfl⟩
    obtain ⟨p, q, rfl, rfl, rfl⟩ := map_cons_inv e.symm
    have pin := hr p List.mem_cons_self
    refine And.intro rfl (And.intro rfl ?_)
    show put_needed_5_0 C _ _
    refine fx_step (A := { nx := M, rt := A.rt, bk := A.nx, ct := M }) ok fo' (hi p pin).1 (hi p pin).2 hk fun y9' => ?_
    exact hM _ ⟨q, _, _, _, _, rfl, ef, fixP_ok fo' hk t.spans (hi p pin).2, fun z hz => fixP_in (hi z hz), fun z hz => hr z (List.mem_cons_of_mem _ hz), rfl⟩
theorem p_put_needed {C : Cls} : BodyOk 4 10 B_put_needed (a_put_needed C) (S_put_needed C) := by
  rintro _ R ⟨t, nd, rfl, ok, no, k⟩
  have hk := vars_len ok.rows
  refine ⟨rfl, fun i e q => ?_, ?_⟩
  · match i, q with
    | 0, q => cases q
    | 1, q => cases q
    | 2, _ => rfl
    | 3, _ => rfl
  have nl := no.few
  conv => whnf
  repeat (refine ⟨trivial, ?_⟩; conv => whnf)
  intro _
  refine for_ind (Iv := fun items env => ∃ (done rest : Need) (f : Fr) (x4 x6 : AV), nd = done ++ rest ∧ items = rest.map prD ∧ rest.foldl (put2 t.spans) f = nd.foldl (put2 t.spans) ([], []) ∧ FrOk (vars t.rows) f ∧ (∀ p ∈ done, In2 f p) ∧ env = [.dat (objD C t), .dat (needD nd), .own (bD f.1), .own (usD f.2), x4, .un, x6, .un, .un, .un]) ?_ ?_ _ _ ⟨[], nd, ([], []), .un, .un, rfl, rfl, rfl, .nil _, (fun p h => nomatch h), rfl⟩
  · rintro env ⟨done, rest, f, x4, x6, en, e, ef, fo, hi, rfl⟩
    cases rest with
    | cons u r => cases e
    | nil =>
      rw [List.append_nil] at en
      subst en
      have ef : f = nd.foldl (put2 t.spans) ([], []) := ef
      conv => whnf
      repeat (refine ⟨trivial, ?_⟩; conv => whnf)
      refine ⟨⟨by omega, by omega⟩, ?_⟩
      refine for_ind (Iv := fun items env => ∃ (f' : Fr) (x5 x7 x8 x9 : AV), (List.replicate items.length ()).foldl (fun f _ => nd.foldl (fixP t.spans) f) f' = putN t.spans nd ([], []) ∧ FrOk (vars t.rows) f' ∧ (∀ p ∈ nd, In2 f' p) ∧ env = [.dat (objD C t), .dat (needD nd), .own (bD f'.1), .own (usD f'.2), x4, x5, x6, x7, x8, x9]) ?_ ?_ _ _ ⟨f, .un, .un, .un, .un, ?_, fo, hi, rfl⟩
      · rintro env ⟨f', x5, x7, x8, x9, ef', fo', hi', rfl⟩
        have ef' : f' = putN t.spans nd ([], []) := ef'
        subst ef'
        exact k
      · rintro y ds env M hM ⟨f', x5, x7, x8, x9, ef', fo', hi', rfl⟩
        show put_needed_4_0 C _ _
        refine pn_turn ok hk nl fo' hi' fun y7 y8 y9 fo2 hi2 => ?_
        exact hM _ ⟨_, _, _, _, _, ef', fo2, hi2, rfl⟩
      · rw [range_len, ef]
        rfl
  · rintro y ds env M hM ⟨done, rest, f, x4, x6, en, e, ef, fo, hi, rfl⟩
    obtain ⟨p, q, rfl, rfl, rfl⟩ := map_cons_inv e.symm
    have pin : p ∈ nd := by rw [en]; simp
    show put_needed_1_0 C _ _
    refine pn_pair ok hk fo (no.has p pin).1 (no.has p pin).2 fun y6 => ?_
    refine hM _ ⟨done ++ [p], q, _, _, _, by rw [en, List.append_assoc]; rfl, rfl, ef, putT_ok (putT_ok fo hk t.spans (no.has p pin).1) hk t.spans (no.has p pin).2, fun z hz => ?_, rfl⟩
    rcases List.mem_append.mp hz with z1 | z1
    · exact putT_in (putT_in (hi z z1))
    · rw [List.mem_singleton.mp z1]; exact put2_in
end AL
namespace AL
open PySem L2
/-! P24: freeze; the least values. -/
theorem puts_ok {ks : List Int} (hk : ks.length ≤ 64) (sp : List Span) : ∀ (nd : Need) (f : Fr), FrOk ks f → (∀ p ∈ nd, (p.1 < 0 → p.1 ∈ ks) ∧ (p.2 < 0 → p.2 ∈ ks)) → FrOk ks (nd.foldl (put2 sp) f) ∧ (∀ p ∈ nd, In2 (nd.foldl (put2 sp) f) p) ∧ ∀ p, In2 f p → In2 (nd.foldl (put2 sp) f) p
  | [], f, h, _ => ⟨h, (fun p h => nomatch h), fun p h => h⟩
  | p :: nd, f, h, hh => by
    have h1 := putT_ok (putT_ok h hk sp (hh p List.mem_cons_self).1) hk sp (hh p List.mem_cons_self).2
    obtain ⟨a, b, c⟩ := puts_ok hk sp nd (put2 sp f p) h1 fun q hq => hh q (List.mem_cons_of_mem _ hq)
    refine ⟨a, fun q hq => ?_, fun q hq => c q (putT_in (putT_in hq))⟩
    rcases List.mem_cons.mp hq with e | e
    · rw [e]; exact c p put2_in
    · exact b q e
theorem fixes_ok {ks : List Int} (hk : ks.length ≤ 64) (sp : List Span) {N : Need} : ∀ (nd : Need) (f : Fr), FrOk ks f → (∀ p ∈ N, In2 f p) → (∀ p ∈ nd, p ∈ N) → FrOk ks (nd.foldl (fixP sp) f) ∧ ∀ p ∈ N, In2 (nd.foldl (fixP sp) f) p
  | [], f, h, h2, _ => ⟨h, h2⟩
  | p :: nd, f, h, h2, hs => fixes_ok hk sp nd (fixP sp f p) (fixP_ok h hk sp (h2 p (hs p List.mem_cons_self)).2) (fun q hq => fixP_in (h2 q hq)) fun q hq => hs q (List.mem_cons_of_mem _ hq)
theorem turns_ok {ks : List Int} (hk : ks.length ≤ 64) (sp : List Span) {N : Need} {α : Type} : ∀ (l : List α) (f : Fr), FrOk ks f → (∀ p ∈ N, In2 f p) → FrOk ks (l.foldl (fun f _ => N.foldl (fixP sp) f) f) ∧ ∀ p ∈ N, In2 (l.foldl (fun f _ => N.foldl (fixP sp) f) f) p
  | [], f, h, h2 => ⟨h, h2⟩
  | a :: l, f, h, h2 => by
    obtain ⟨a1, a2⟩ := fixes_ok hk sp N f h h2 fun _ h => h
    exact turns_ok hk sp l _ a1 a2
theorem putN_ok {t : Tree} {nd : Need} (ok : TreeOk t) (no : NdOk t nd) : FrOk (vars t.rows) (putN t.spans nd ([], [])) ∧ ∀ p ∈ nd, In2 (putN t.spans nd ([], [])) p := by
  obtain ⟨a, b, _⟩ := puts_ok (vars_len ok.rows) t.spans nd ([], []) (.nil _) no.has
  exact turns_ok (vars_len ok.rows) t.spans (List.range 8) _ a b
theorem fr_step {C : Cls} {t : Tree} (ok : TreeOk t) {M : AEnv → Prop} {A : AEnds} {x1 : AV} {f : Fr} (fo : FrOk (vars t.rows) f) {x : Int} (lt : x < 0) (hk : (vars t.rows).length ≤ 64)
    (h : M [.dat (objD C t), x1, .own (bD (putT t.spans f x).1), .own (usD (putT t.spans f x).2), .dat (.int x)]) :
    freeze_1_0 C { nx := M, rt := A.rt, bk := A.bk, ct := A.ct } [.dat (objD C t), x1, .own (bD f.1), .own (usD f.2), .dat (.int x)] := by
  obtain ⟨bl, ul⟩ := fo.len hk
  unfold putT at h
  conv => whnf
  repeat (refine ⟨trivial, ?_⟩; conv => whnf)
  refine notin_dic rfl ?_
  refine brI (fun c2 => ?_) (fun c2 => ?_)
  · have c2 : x ∉ f.1.map (·.1) := by simpa [bd_mem] using c2
    rw [if_pos ⟨lt, c2⟩] at h
    conv => whnf
    repeat (refine ⟨trivial, ?_⟩; conv => whnf)
    refine ⟨⟨_, _, rfl, rfl⟩, ?_⟩
    conv => whnf
    repeat (refine ⟨trivial, ?_⟩; conv => whnf)
    refine use_spanT t x ok ?_
    conv => whnf
    repeat (refine ⟨trivial, ?_⟩; conv => whnf)
    refine ix_tup (by omega) rfl ?_
    conv => whnf
    repeat (refine ⟨trivial, ?_⟩; conv => whnf)
    refine use_plainfromO 3 (bnd t.spans x).1 f.2 rfl (by omega) ?_
    conv => whnf
    repeat (refine ⟨trivial, ?_⟩; conv => whnf)
    refine set_bd (b := f.1) rfl (by omega) ?_
    have ep : ∀ v, putB f.1 x v = f.1 ++ [(x, v)] := fun v => by unfold putB; rw [if_neg c2]
    rw [ep]
    conv => whnf
    repeat (refine ⟨trivial, ?_⟩; conv => whnf)
    refine ix_bd (b := f.1 ++ [(x, pfrom 200 (bnd t.spans x).1 f.2)]) (by simp) ?_
    rw [lk_app c2, if_pos rfl]
    conv => whnf
    repeat (refine ⟨trivial, ?_⟩; conv => whnf)
    refine set_us (us := f.2) rfl ?_ (by omega) ?_
    · exact fun z => pf_plain (us := f.2) (low := (bnd t.spans x).1) (by omega) (.inr z)
    · exact h
  · have c2 : x ∈ f.1.map (·.1) := by simpa [bd_mem] using c2
    rw [if_neg fun z => z.2 c2] at h
    conv => whnf
    repeat (refine ⟨trivial, ?_⟩; conv => whnf)
    exact h
theorem use_putneeded {C : Cls} {env : AEnv} (t : Tree) (nd : Need) {R : RV → AEnv → Prop} (e2 : env[2]? = some (.own (bD []))) (e3 : env[3]? = some (.own (usD []))) (ok : TreeOk t) (no : NdOk t nd)
    (k : R (.dat .non) ((env.set 2 (.own (bD (putN t.spans nd ([], [])).1))).set 3 (.own (usD (putN t.spans nd ([], [])).2)))) : callR (S_put_needed C) [.dat (objD C t), .dat (needD nd), .at 2, .at 3] env R := by
  refine call_gen ⟨?_, fun m hm => ?_⟩ ?_
  · show [2, 3].Nodup
    exact List.nodup_cons.mpr ⟨by simp, List.nodup_cons.mpr ⟨by simp, List.nodup_nil⟩⟩
  · have hm : m ∈ [2, 3] := hm
    simp only [List.mem_cons, List.not_mem_nil, or_false] at hm
    rcases hm with rfl | rfl
    · exact ⟨_, e2⟩
    · exact ⟨_, e3⟩
  · simp only [argsE, e2, e3]
    exact ⟨t, nd, rfl, ok, no, k⟩
theorem p_freeze {C : Cls} : BodyOk 2 5 B_freeze (a_freeze C) (S_freeze C) := by
  rintro _ R ⟨t, nd, rfl, ok, no, k⟩
  refine ⟨rfl, ownN (ds := [_, _]), ?_⟩
  have hk := vars_len ok.rows
  obtain ⟨fo, _⟩ := putN_ok ok no
  conv => whnf
  repeat (refine ⟨trivial, ?_⟩; conv => whnf)
  refine use_putneeded t nd rfl rfl ok no ?_
  conv => whnf
  repeat (refine ⟨trivial, ?_⟩; conv => whnf)
  refine ⟨⟨_, _, rfl, rfl⟩, ?_⟩
  conv => whnf
  repeat (refine ⟨trivial, ?_⟩; conv => whnf)
  refine use_bvars t ok ?_
  conv => whnf
  repeat (refine ⟨trivial, ?_⟩; conv => whnf)
  intro _
  refine for_ind (Iv := fun items env => ∃ (rest : List Int) (f : Fr) (x4 : AV), items = rest.map D.int ∧ (∀ x ∈ rest, x ∈ vars t.rows) ∧ rest.foldl (putT t.spans) f = (vars t.rows).foldl (putT t.spans) (putN t.spans nd ([], [])) ∧ FrOk (vars t.rows) f ∧ env = [.dat (objD C t), .dat (needD nd), .own (bD f.1), .own (usD f.2), x4]) ?_ ?_ _ _ ⟨vars t.rows, _, .un, rfl, fun _ h => h, rfl, fo, rfl⟩
  · rintro env ⟨rest, f, x4, e, _, ef, fo', rfl⟩
    cases rest with
    | cons u r => cases e
    | nil =>
      have ef : f = (vars t.rows).foldl (putT t.spans) (putN t.spans nd ([], [])) := ef
      subst ef
      conv => whnf
      repeat (refine ⟨trivial, ?_⟩; conv => whnf)
      exact ⟨rfl, new_ _, k⟩
  · rintro y ds env M hM ⟨rest, f, x4, e, hr, ef, fo', rfl⟩
    obtain ⟨x, q, rfl, rfl, rfl⟩ := map_cons_inv e.symm
    have xin := hr x List.mem_cons_self
    show freeze_1_0 C _ _
    refine fr_step (A := { nx := M, rt := _, bk := _, ct := M }) ok fo' (vars_neg t.rows x xin) hk ?_
    exact hM _ ⟨q, _, _, rfl, fun z hz => hr z (List.mem_cons_of_mem _ hz), ef, putT_ok fo' hk t.spans fun _ => xin, rfl⟩
theorem use_freeze {C : Cls} {env : AEnv} (t : Tree) (nd : Need) {R : RV → AEnv → Prop} (ok : TreeOk t) (no : NdOk t nd) (k : R (.new (bD (frzB t nd))) env) : callR (S_freeze C) [.dat (objD C t), .dat (needD nd)] env R :=
  call_dats [_, _] ⟨t, nd, rfl, ok, no, k⟩
theorem lv_loop {t : Tree} {A : AEnds} {x0 x1 x2 x4 x6 : AV} {us : List Int} {low : Int} (h : ∀ x6, A.nx [x0, x1, x2, .own (itsD us), x4, .dat (.int (pfrom 200 low us)), x6]) :
    forL (agName 6) law_least_values_2_0 A (rangeD 0 200) [x0, x1, x2, .own (itsD us), x4, .dat (.int low), x6] := by
  refine for_ind (Iv := fun items env => ∃ (v : Int) (x6 : AV), pfrom items.length v us = pfrom 200 low us ∧ env = [x0, x1, x2, .own (itsD us), x4, .dat (.int v), x6]) ?_ ?_ _ _ ⟨low, x6, by rw [range_len], rfl⟩
  · rintro env ⟨v, x6, e, rfl⟩
    have e : v = pfrom 200 low us := e
    rw [e]
    exact h x6
  · rintro y ds env M hM ⟨v, x6, e, rfl⟩
    rw [List.length_cons] at e
    have e : (if v % 10 = 0 ∨ v ∈ us then pfrom ds.length (v + 1) us else v) = pfrom 200 low us := e
    have step : (v % 10 = 0 ∨ v ∈ us) → law_least_values_2_1 { nx := M, ct := M, bk := A.nx, rt := A.rt } [x0, x1, x2, .own (itsD us), x4, .dat (.int v), .dat y] := fun c => by
      rw [if_pos c] at e
      conv => whnf
      repeat (refine ⟨trivial, ?_⟩; conv => whnf)
      exact hM _ ⟨v + 1, _, e, rfl⟩
    conv => whnf
    repeat (refine ⟨trivial, ?_⟩; conv => whnf)
    refine ⟨by omega, ?_⟩
    conv => whnf
    repeat (refine ⟨trivial, ?_⟩; conv => whnf)
    refine brI (fun c => ?_) (fun c => ?_)
    · have c : 0 < v % 10 := by simpa using c
      conv => whnf
      repeat (refine ⟨trivial, ?_⟩; conv => whnf)
      refine notin_lst (.int 0 v) (n := 0) (fun z hz => ?_) ?_
      · obtain ⟨i, _, rfl⟩ := List.mem_map.mp hz
        exact .int 0 i
      refine brI (fun c2 => ?_) (fun c2 => ?_)
      · have c2 : v ∉ us := by simpa [us_mem] using c2
        rw [if_neg fun z => z.elim (fun z => by omega) c2] at e
        rw [e]
        exact h _
      · have c2 : v ∈ us := by simpa [us_mem] using c2
        exact step (.inr c2)
    · have c : ¬ 0 < v % 10 := by simpa using c
      conv => whnf
      repeat (refine ⟨trivial, ?_⟩; conv => whnf)
      rw [brP_false]
      exact step (.inl (by omega))
theorem p_law_least_values : BodyOk 2 7 B_law_least_values a_law_least_values S_law_least_values := by
  rintro _ R ⟨t, rfl, ok, k⟩
  refine ⟨rfl, ownN (ds := [_, _]), ?_⟩
  have hk := vars_len ok.rows
  have vo := vars_ok ok.rows
  conv => whnf
  repeat (refine ⟨trivial, ?_⟩; conv => whnf)
  refine ⟨Nat.zero_le _, ?_⟩
  conv => whnf
  repeat (refine ⟨trivial, ?_⟩; conv => whnf)
  intro _
  refine for_ind (Iv := fun items env => ∃ (done rest : List Int) (f : Fr) (x4 x5 x6 : AV), vars t.rows = done ++ rest ∧ items = rest.map D.int ∧ rest.foldl (putT t.spans) f = (vars t.rows).foldl (putT t.spans) ([], []) ∧ FrOk (vars t.rows) f ∧ (∀ x ∈ f.1.map (·.1), x ∈ done) ∧ env = [.dat (itsD (vars t.rows)), .dat (celD t.spans), .own (bD f.1), .own (itsD f.2), x4, x5, x6]) ?_ ?_ _ _ ⟨[], vars t.rows, ([], []), .un, .un, .un, rfl, rfl, rfl, .nil _, (fun x h => by cases h), rfl⟩
  · rintro env ⟨done, rest, f, x4, x5, x6, en, e, ef, fo', _, rfl⟩
    cases rest with
    | cons u r => cases e
    | nil =>
      have ef : f = (vars t.rows).foldl (putT t.spans) ([], []) := ef
      subst ef
      conv => whnf
      repeat (refine ⟨trivial, ?_⟩; conv => whnf)
      exact ⟨rfl, new_ _, k⟩
  · rintro y ds env M hM ⟨done, rest, f, x4, x5, x6, en, e, ef, fo', hd, rfl⟩
    obtain ⟨x, q, rfl, rfl, rfl⟩ := map_cons_inv e.symm
    have xin : x ∈ vars t.rows := by rw [en]; simp
    have lt := vars_neg t.rows x xin
    obtain ⟨bl, ul⟩ := fo'.len hk
    have nx : x ∉ f.1.map (·.1) := fun h => by
      have h := hd x h
      have nd := vo.2.1
      rw [en] at nd
      exact (List.nodup_append.mp nd).2.2 _ h _ List.mem_cons_self rfl
    have ep : putT t.spans f x = (f.1 ++ [(x, pfrom 200 (bnd t.spans x).1 f.2)], f.2 ++ [pfrom 200 (bnd t.spans x).1 f.2]) := by
      unfold putT
      rw [if_pos ⟨lt, nx⟩]
    conv => whnf
    repeat (refine ⟨trivial, ?_⟩; conv => whnf)
    refine ⟨sz2, ?_⟩
    conv => whnf
    repeat (refine ⟨trivial, ?_⟩; conv => whnf)
    refine ⟨rfl, ?_⟩
    rw [get_cel lt]
    conv => whnf
    repeat (refine ⟨trivial, ?_⟩; conv => whnf)
    refine ix_tup (by omega) rfl ?_
    conv => whnf
    repeat (refine ⟨trivial, ?_⟩; conv => whnf)
    refine ⟨⟨by omega, by omega⟩, ?_⟩
    refine lv_loop (t := t) (us := f.2) fun x6' => ?_
    conv => whnf
    repeat (refine ⟨trivial, ?_⟩; conv => whnf)
    refine set_bd (b := f.1) rfl (by omega) ?_
    have eb : ∀ v, putB f.1 x v = f.1 ++ [(x, v)] := fun v => by unfold putB; rw [if_neg nx]
    rw [eb]
    conv => whnf
    repeat (refine ⟨trivial, ?_⟩; conv => whnf)
    refine ⟨⟨_, rfl⟩, ?_⟩
    conv => whnf
    repeat (refine ⟨trivial, ?_⟩; conv => whnf)
    refine ⟨by rw [List.length_map]; exact sz_lt (by omega), ?_⟩
    conv => whnf
    repeat (refine ⟨trivial, ?_⟩; conv => whnf)
    refine hM _ ⟨done ++ [x], q, putT t.spans f x, .dat (.int x), .dat (.int (pfrom 200 (bnd t.spans x).1 f.2)), x6', by rw [en, List.append_assoc]; rfl, rfl, ef, putT_ok fo' hk t.spans fun _ => xin, fun z hz => ?_, ?_⟩
    · rcases (putT_keys t.spans f x z).mp hz with z1 | z1
      · exact List.mem_append.mpr (.inl (hd z z1))
      · rw [z1.1]; simp
    · rw [ep]
      unfold itsD
      rw [List.map_append]
      rfl
theorem use_least {env : AEnv} (t : Tree) {R : RV → AEnv → Prop} (ok : TreeOk t) (k : R (.new (bD (frzB t []))) env) : callR S_law_least_values [.dat (itsD (vars t.rows)), .dat (celD t.spans)] env R :=
  call_dats [_, _] ⟨t, rfl, ok, k⟩
end AL
namespace AL
open PySem L2
/-! P25: the plain law of the frozen values: plain, unlike, within their cells, the needs met. -/
structure Kk (sp : List Span) (w : Int → Int) (m : Int) (f : Fr) : Prop where
  top : ∀ u ∈ f.2, u % 10 ≤ m
  val : ∀ x v, lkB f.1 x = some v → v % 10 ≠ 0 ∧ (bnd sp x).1 ≤ v ∧ 10 * (v / 10) ≤ w x
theorem Kk.up {sp : List Span} {w : Int → Int} {m m' : Int} {f : Fr} (h : Kk sp w m f) (le : m ≤ m') : Kk sp w m' f := ⟨fun u hu => by have := h.top u hu; omega, h.val⟩
/-- from a start within a decade of which the places up to m alone are in use -/
theorem pf_dec {us : List Int} {s m D0 : Int} (ul : us.length ≤ 70) (top : ∀ u ∈ us, u % 10 ≤ m) (hm : 0 ≤ m) (hm9 : m + 1 ≤ 9) (hd : D0 % 10 = 0) (h1 : D0 ≤ s) (h2 : s ≤ D0 + m + 1) : s ≤ pfrom 200 s us ∧ pfrom 200 s us ≤ D0 + m + 1 ∧ pfrom 200 s us % 10 ≠ 0 ∧ pfrom 200 s us % 10 ≤ m + 1 ∧ 10 * (pfrom 200 s us / 10) = D0 := by
  have nb : ¬ Bad us (D0 + m + 1) := fun z => by
    rcases z with z | z
    · omega
    · have := top _ z
      omega
  have a1 := (pf_ge (us := us) 200 s).1
  have a2 := pf_le (us := us) 200 s (D0 + m + 1) h2 (by omega) nb
  have a3 := pf_plain (us := us) (low := s) ul
  have a4 : pfrom 200 s us % 10 ≠ 0 := fun z => a3 (.inl z)
  refine ⟨a1, a2, a4, ?_, ?_⟩ <;> omega
section
variable {t : Tree} {w : Int → Int} {m : Int} {f : Fr}
theorem putT_k (ok : TreeOk t) (fo : FrOk (vars t.rows) f) (k : Kk t.spans w m f) (hm : 0 ≤ m) (hm9 : m + 1 ≤ 9) {x : Int} (hw : x < 0 → (bnd t.spans x).1 ≤ w x) : Kk t.spans w (m + 1) (putT t.spans f x) := by
  unfold putT
  by_cases c : x < 0 ∧ x ∉ f.1.map (·.1)
  · rw [if_pos c]
    obtain ⟨b0, b1, b2, b3, b4⟩ := bnd_ok ok.sp c.1
    have ul := (fo.len (vars_len ok.rows)).2
    obtain ⟨p1, p2, p3, p4, p5⟩ := pf_dec (us := f.2) (s := (bnd t.spans x).1) (m := m) (D0 := (bnd t.spans x).1) (by omega) k.top hm hm9 (by omega) (Int.le_refl _) (by omega)
    refine ⟨fun u hu => ?_, fun y v e => ?_⟩
    · rcases List.mem_append.mp hu with z | z
      · have := k.top u z; omega
      · rw [List.mem_singleton.mp z]; exact p4
    · have e : lkB (f.1 ++ [(x, _)]) y = some v := e
      rw [lk_app c.2] at e
      by_cases c2 : y = x
      · rw [if_pos c2] at e
        cases e
        rw [c2]
        exact ⟨p3, p1, by have := hw c.1; omega⟩
      · rw [if_neg c2] at e
        exact k.val y v e
  · rw [if_neg c]
    exact k.up (by omega)
/-- what the less of a pair is worth -/
theorem less_k (fo : FrOk (vars t.rows) f) (k : Kk t.spans w m f) (hm : 0 ≤ m) {p : Int × Int} (hin : In2 f p) (hp : 0 ≤ p.1 → p.1 % 10 = 0) (hw0 : ∀ x, 0 ≤ x → w x = x) : vB f.1 p.1 % 10 ≤ m ∧ 10 * (vB f.1 p.1 / 10) ≤ w p.1 := by
  by_cases c : 0 ≤ p.1
  · rw [vB_pos c]
    have := hp c
    have := hw0 _ c
    omega
  · obtain ⟨v, e⟩ := lkB_some (hin.1 (by omega))
    rw [vB_neg (by omega), e]
    show v % 10 ≤ m ∧ 10 * (v / 10) ≤ w p.1
    exact ⟨k.top v ((fo.mem v).mpr ⟨_, e⟩), (k.val _ _ e).2.2⟩
theorem fixP_k (ok : TreeOk t) (fo : FrOk (vars t.rows) f) (k : Kk t.spans w m f) (hm : 0 ≤ m) (hm9 : m + 1 ≤ 9) {p : Int × Int} (hin : In2 f p) (hp : 0 ≤ p.1 → p.1 % 10 = 0) (hw0 : ∀ x, 0 ≤ x → w x = x) (hlt : w p.1 < w p.2) (hw : p.2 < 0 → (bnd t.spans p.2).1 ≤ w p.2) :
    Kk t.spans w (m + 1) (fixP t.spans f p) := by
  by_cases c : vB f.1 p.2 ≤ vB f.1 p.1 ∧ p.2 < 0
  · rw [fix_eq t.spans f p c]
    obtain ⟨b0, b1, b2, b3, b4⟩ := bnd_ok ok.sp c.2
    have ul := (fo.len (vars_len ok.rows)).2
    have fl := List.length_filter_le (fun j : Int => decide (j ≠ vB f.1 p.2)) f.2
    obtain ⟨l1, l2⟩ := less_k fo k hm hin hp hw0
    have top1 : ∀ u ∈ f.2.filter (fun j => decide (j ≠ vB f.1 p.2)), u % 10 ≤ m := fun u hu => k.top u (List.mem_filter.mp hu).1
    have key : ∃ D0, D0 % 10 = 0 ∧ D0 ≤ max (bnd t.spans p.2).1 (vB f.1 p.1 + 1) ∧ max (bnd t.spans p.2).1 (vB f.1 p.1 + 1) ≤ D0 + m + 1 ∧ D0 ≤ w p.2 := by
      rw [Int.max_def]
      split
      · exact ⟨10 * (vB f.1 p.1 / 10), by omega, by omega, by omega, by omega⟩
      · exact ⟨(bnd t.spans p.2).1, by omega, by omega, by omega, hw c.2⟩
    obtain ⟨D0, d1, d2, d3, d4⟩ := key
    obtain ⟨p1, p2, p3, p4, p5⟩ := pf_dec (m := m) (D0 := D0) (by omega) top1 hm hm9 d1 d2 d3
    have lm : (bnd t.spans p.2).1 ≤ max (bnd t.spans p.2).1 (vB f.1 p.1 + 1) := Int.le_max_left _ _
    refine ⟨fun u hu => ?_, fun y v e => ?_⟩
    · rcases List.mem_append.mp hu with z | z
      · have := top1 u z; omega
      · rw [List.mem_singleton.mp z]; exact p4
    · have e : lkB (setB f.1 p.2 _) y = some v := e
      rw [lk_set] at e
      by_cases c2 : y = p.2 ∧ p.2 ∈ f.1.map (·.1)
      · rw [if_pos c2] at e
        cases e
        rw [c2.1]
        exact ⟨p3, by omega, by omega⟩
      · rw [if_neg c2] at e
        exact k.val y v e
  · rw [fix_ne t.spans f p c]
    exact k.up (by omega)
def Sat (f : Fr) (p : Int × Int) : Prop := vB f.1 p.1 < vB f.1 p.2
theorem vB_set {b : Bd} {x v y : Int} (h : y ≠ x) : vB (setB b x v) y = vB b y := by
  by_cases c : 0 ≤ y
  · rw [vB_pos c, vB_pos c]
  · rw [vB_neg (by omega), vB_neg (by omega), lk_set, if_neg fun z => h z.1]
theorem vB_at {b : Bd} {x v : Int} (lt : x < 0) (h : x ∈ b.map (·.1)) : vB (setB b x v) x = v := by
  rw [vB_neg lt, lk_set, if_pos ⟨rfl, h⟩]
  rfl
theorem fix_sat (fo : FrOk (vars t.rows) f) (k : Kk t.spans w m f) (hm : 0 ≤ m) {p : Int × Int} (hin : In2 f p) (hp : 0 ≤ p.1 → p.1 % 10 = 0) (hp2 : 0 ≤ p.2 → p.2 % 10 = 0) (hw0 : ∀ x, 0 ≤ x → w x = x) (hlt : w p.1 < w p.2) : Sat (fixP t.spans f p) p := by
  have ne : p.1 ≠ p.2 := fun e => by rw [e] at hlt; omega
  by_cases c : vB f.1 p.2 ≤ vB f.1 p.1 ∧ p.2 < 0
  · rw [fix_eq t.spans f p c]
    unfold Sat
    rw [vB_set ne, vB_at c.2 (hin.2 c.2)]
    have := (pf_ge (us := f.2.filter fun j => decide (j ≠ vB f.1 p.2)) 200 (max (bnd t.spans p.2).1 (vB f.1 p.1 + 1))).1
    have lm : vB f.1 p.1 + 1 ≤ max (bnd t.spans p.2).1 (vB f.1 p.1 + 1) := Int.le_max_right _ _
    omega
  · rw [fix_ne t.spans f p c]
    unfold Sat
    obtain ⟨l1, l2⟩ := less_k fo k hm hin hp hw0
    by_cases c2 : p.2 < 0
    · have : ¬ vB f.1 p.2 ≤ vB f.1 p.1 := fun z => c ⟨z, c2⟩
      omega
    · have e2 : 0 ≤ p.2 := by omega
      rw [vB_pos e2]
      have := hp2 e2
      have := hw0 _ e2
      omega
theorem fix_keep {p q : Int × Int} (hq : In2 f q) (h : Sat f p) (ne : p.1 ≠ q.2) : Sat (fixP t.spans f q) p := by
  by_cases c : vB f.1 q.2 ≤ vB f.1 q.1 ∧ q.2 < 0
  · rw [fix_eq t.spans f q c]
    unfold Sat at h ⊢
    rw [vB_set ne]
    by_cases e : p.2 = q.2
    · rw [e] at h ⊢
      rw [vB_at c.2 (hq.2 c.2)]
      have := (pf_ge (us := f.2.filter fun j => decide (j ≠ vB f.1 q.2)) 200 (max (bnd t.spans q.2).1 (vB f.1 q.1 + 1))).1
      have lm : vB f.1 q.1 + 1 ≤ max (bnd t.spans q.2).1 (vB f.1 q.1 + 1) := Int.le_max_right _ _
      omega
    · rw [vB_set e]
      exact h
  · rw [fix_ne t.spans f q c]
    exact h
theorem fix_id {sp : List Span} {p : Int × Int} (h : Sat f p) : fixP sp f p = f := fix_ne sp f p fun z => by
  unfold Sat at h
  omega
end
theorem fold_fix {α β : Type} (F : β → β) (x : β) (h : F x = x) : ∀ l : List α, l.foldl (fun f _ => F f) x = x
  | [] => rfl
  | a :: l => by
    show l.foldl (fun f _ => F f) (F x) = x
    rw [h]
    exact fold_fix F x h l
theorem fold8_1 {β : Type} (F : β → β) (x : β) (h : F (F x) = F x) : (List.range 8).foldl (fun f _ => F f) x = F x := fold_fix F (F x) h [1, 2, 3, 4, 5, 6, 7]
theorem fold8_2 {β : Type} (F : β → β) (x : β) (h : F (F (F x)) = F (F x)) : (List.range 8).foldl (fun f _ => F f) x = F (F x) := fold_fix F (F (F x)) h [2, 3, 4, 5, 6, 7]
def turn1 (sp : List Span) (nd : Need) (f : Fr) : Fr := nd.foldl (fixP sp) f
theorem turn_1 (sp : List Span) (p : Int × Int) (f : Fr) : turn1 sp [p] f = fixP sp f p := rfl
theorem turn_2 (sp : List Span) (p q : Int × Int) (f : Fr) : turn1 sp [p, q] f = fixP sp (fixP sp f p) q := rfl
structure NdW (t : Tree) (w : Int → Int) (p : Int × Int) : Prop where
  has : (p.1 < 0 → p.1 ∈ vars t.rows) ∧ (p.2 < 0 → p.2 ∈ vars t.rows)
  lt : w p.1 < w p.2
  m1 : 0 ≤ p.1 → p.1 % 10 = 0
  m2 : 0 ≤ p.2 → p.2 % 10 = 0
theorem puts_k {t : Tree} (ok : TreeOk t) {w : Int → Int} (hw : ∀ x ∈ vars t.rows, (bnd t.spans x).1 ≤ w x) : ∀ (nd : Need) (f : Fr) (m : Int), FrOk (vars t.rows) f → Kk t.spans w m f → 0 ≤ m → m + 2 * nd.length ≤ 8 → (∀ p ∈ nd, NdW t w p) → Kk t.spans w (m + 2 * nd.length) (nd.foldl (put2 t.spans) f)
  | [], f, m, fo, k, hm, _, _ => by
    have e : m + 2 * (([] : Need).length : Int) = m := by simp
    rw [e]
    exact k
  | p :: nd, f, m, fo, k, hm, hl, hp => by
    rw [List.length_cons] at hl
    have np := hp p List.mem_cons_self
    have hk := vars_len ok.rows
    have fo1 := putT_ok fo hk t.spans np.has.1
    have k1 := putT_k ok fo k hm (by omega) (x := p.1) fun lt => hw _ (np.has.1 lt)
    have k2 := putT_k ok fo1 k1 (by omega) (by omega) (x := p.2) fun lt => hw _ (np.has.2 lt)
    have := puts_k ok hw nd (put2 t.spans f p) (m + 1 + 1) (putT_ok fo1 hk t.spans np.has.2) k2 (by omega) (by omega) fun q hq => hp q (List.mem_cons_of_mem _ hq)
    have e : m + 2 * ((p :: nd).length : Int) = m + 1 + 1 + 2 * (nd.length : Int) := by rw [List.length_cons]; omega
    rw [e]
    exact this
/-- behind the eight turns all needs are met -/
theorem putN_k {t : Tree} (ok : TreeOk t) {w : Int → Int} (hw0 : ∀ x, 0 ≤ x → w x = x) (hw : ∀ x ∈ vars t.rows, (bnd t.spans x).1 ≤ w x) {nd : Need} (hl : nd.length ≤ 2) (hp : ∀ p ∈ nd, NdW t w p) :
    Kk t.spans w 9 (putN t.spans nd ([], [])) ∧ ∀ p ∈ nd, Sat (putN t.spans nd ([], [])) p := by
  have hk := vars_len ok.rows
  have k0 := puts_k ok hw nd ([], []) 0 (.nil _) ⟨(fun u h => by cases h), fun x v h => by cases h⟩ (by omega) (by omega) hp
  obtain ⟨fo0, in0, _⟩ := puts_ok hk t.spans nd ([], []) (.nil _) fun p h => (hp p h).has
  have e0 : putN t.spans nd ([], []) = (List.range 8).foldl (fun f _ => turn1 t.spans nd f) (nd.foldl (put2 t.spans) ([], [])) := rfl
  rw [e0]
  generalize nd.foldl (put2 t.spans) ([], []) = f0 at k0 fo0 in0
  match nd, hl, hp, in0, k0 with
  | [], _, _, _, k0 =>
    rw [fold_fix (fun f => turn1 t.spans [] f) f0 rfl]
    exact ⟨k0.up (by simp), fun p h => by cases h⟩
  | [p], _, hp, in0, k0 =>
    have np := hp p (by simp)
    have ip := in0 p (by simp)
    have k1 := fixP_k ok fo0 k0 (by simp) (by simp) ip np.m1 hw0 np.lt fun lt => hw _ (np.has.2 lt)
    have s1 := fix_sat fo0 k0 (by simp) ip np.m1 np.m2 hw0 np.lt
    have e : (List.range 8).foldl (fun f _ => turn1 t.spans [p] f) f0 = fixP t.spans f0 p := by
      rw [fold8_1 (turn1 t.spans [p]) f0 (by rw [turn_1, turn_1, fix_id s1]), turn_1]
    rw [e]
    exact ⟨k1.up (by simp), fun q h => by rw [List.mem_singleton.mp h]; exact s1⟩
  | [p, q], _, hp, in0, k0 =>
    have np := hp p (by simp)
    have nq := hp q (by simp)
    have ip := in0 p (by simp)
    have iq := in0 q (by simp)
    have k0 : Kk t.spans w 4 f0 := k0
    have k1 := fixP_k ok fo0 k0 (by omega) (by omega) ip np.m1 hw0 np.lt fun lt => hw _ (np.has.2 lt)
    have s1 := fix_sat fo0 k0 (by omega) ip np.m1 np.m2 hw0 np.lt
    have fo1 := fixP_ok fo0 hk t.spans ip.2
    have iq1 : In2 (fixP t.spans f0 p) q := fixP_in iq
    have ip1 : In2 (fixP t.spans f0 p) p := fixP_in ip
    have k2 := fixP_k ok fo1 k1 (by omega) (by omega) iq1 nq.m1 hw0 nq.lt fun lt => hw _ (nq.has.2 lt)
    have s2 := fix_sat fo1 k1 (by omega) iq1 nq.m1 nq.m2 hw0 nq.lt
    have fo2 := fixP_ok fo1 hk t.spans iq1.2
    have ip2 : In2 (fixP t.spans (fixP t.spans f0 p) q) p := fixP_in ip1
    by_cases c : p.1 = q.2
    · have c2 : q.1 ≠ p.2 := fun e => by
        have h1 := np.lt
        have h2 := nq.lt
        rw [← e] at h1
        rw [← c] at h2
        omega
      have k3 := fixP_k ok fo2 k2 (by omega) (by omega) ip2 np.m1 hw0 np.lt fun lt => hw _ (np.has.2 lt)
      have s3 := fix_sat fo2 k2 (by omega) ip2 np.m1 np.m2 hw0 np.lt
      have s3q : Sat (fixP t.spans (fixP t.spans (fixP t.spans f0 p) q) p) q := fix_keep ip2 s2 c2
      have e : (List.range 8).foldl (fun f _ => turn1 t.spans [p, q] f) f0 = fixP t.spans (fixP t.spans (fixP t.spans f0 p) q) p := by
        have g2 : turn1 t.spans [p, q] (turn1 t.spans [p, q] f0) = fixP t.spans (fixP t.spans (fixP t.spans f0 p) q) p := by
          rw [turn_2 t.spans p q f0, turn_2, fix_id s3q]
        rw [fold8_2 (turn1 t.spans [p, q]) f0 (by rw [g2, turn_2, fix_id s3, fix_id s3q]), g2]
      rw [e]
      refine ⟨k3.up (by omega), fun r h => ?_⟩
      simp only [List.mem_cons, List.not_mem_nil, or_false] at h
      rcases h with h | h
      · rw [h]; exact s3
      · rw [h]; exact s3q
    · have s2p : Sat (fixP t.spans (fixP t.spans f0 p) q) p := fix_keep iq1 s1 c
      have e : (List.range 8).foldl (fun f _ => turn1 t.spans [p, q] f) f0 = fixP t.spans (fixP t.spans f0 p) q := by
        have g1 : turn1 t.spans [p, q] f0 = fixP t.spans (fixP t.spans f0 p) q := turn_2 _ _ _ _
        rw [fold8_1 (turn1 t.spans [p, q]) f0 (by rw [g1, turn_2, fix_id s2p, fix_id s2]), g1]
      rw [e]
      refine ⟨k2.up (by omega), fun r h => ?_⟩
      simp only [List.mem_cons, List.not_mem_nil, or_false] at h
      rcases h with h | h
      · rw [h]; exact s2p
      · rw [h]; exact s2
end AL
namespace AL
open PySem L2
/-! P26: the frozen values are right. -/
theorem const_perm {l m : List D} (p : l.Perm m) (h : ∀ a ∈ l, ∀ b ∈ l, a = b) : l = m := by
  cases l with
  | nil => exact (List.nil_perm.mp p).symm
  | cons x r =>
    have e1 : (x :: r) = List.replicate (x :: r).length x := List.eq_replicate_of_mem fun b hb => h b hb x List.mem_cons_self
    have e2 : m = List.replicate m.length x := List.eq_replicate_of_mem fun b hb => h b (p.mem_iff.mpr hb) x List.mem_cons_self
    exact e1.trans ((congrArg (fun n => List.replicate n x) p.length_eq).trans e2.symm)
theorem toks_inj {d e : PyData} (al : PySem.W.alike d e = true) (h : PySem.W.keyToks d = PySem.W.keyToks e) : PyData.eqv d e = true := by
  cases q : PyData.eqv d e with
  | true => rfl
  | false =>
    have := (PySem.W.toks_eqv d e al).2 q [] [.inl 0]
    rw [h, PySem.W.lex_pre, PyProof.Rows.lex_irrefl] at this
    cases this
theorem le_anti {n : Nat} {d e : D} (al : PySem.W.alike d.pd e.pd = true) (p1 : Pl n d) (p2 : Pl n e) (h1 : PySem.W.dataLe false D.pd d e = true) (h2 : PySem.W.dataLe false D.pd e d = true) : d = e := by
  rw [PySem.W.dataLe_eq] at h1 h2
  have a1 : PySem.W.dataLt e.pd d.pd = false := by simpa using h1
  have a2 : PySem.W.dataLt d.pd e.pd = false := by simpa using h2
  exact (p1.eqv p2).mp (toks_inj al (PyProof.Rows.lex_total _ _ a2 a1))
theorem sort_perm {n : Nat} {l m : List D} (p : l.Perm m) (al : ∀ a ∈ l, ∀ b ∈ l, PySem.W.alike a.pd b.pd = true) (pl : ∀ x ∈ l, Pl n x) : sortD l = sortD m := by
  have T : PySem.W.TotalLe (PySem.W.dataLe false D.pd) := PySem.W.sortLe_total _ _ _
  refine PySem.W.sort_one T _ _ (PySem.W.sort_pairwise T l) (PySem.W.sort_pairwise T m) fun c => ?_
  have pp := ((List.mergeSort_perm l (PySem.W.dataLe false D.pd)).trans p).trans (List.mergeSort_perm m (PySem.W.dataLe false D.pd)).symm
  refine const_perm (pp.filter _) fun a ha b hb => ?_
  obtain ⟨ha, ca⟩ := List.mem_filter.mp ha
  obtain ⟨hb, cb⟩ := List.mem_filter.mp hb
  unfold PySem.W.sameRank at ca cb
  rw [Bool.and_eq_true] at ca cb
  have ha := List.mem_mergeSort.mp ha
  have hb := List.mem_mergeSort.mp hb
  exact le_anti (al a ha b hb) (pl a ha) (pl b hb) (T.trans _ _ _ ca.2 cb.1) (T.trans _ _ _ cb.2 ca.1)
theorem ints_ok (ks : List Int) : SortOk (ks.map D.int) := by
  refine ⟨fun d hd d' hd' => ?_, .inr fun d hd => ?_, fun d hd => ?_⟩
  · obtain ⟨e, he, rfl⟩ := List.mem_map.mp hd
    obtain ⟨r, _, rfl⟩ := List.mem_map.mp he
    obtain ⟨e', he', rfl⟩ := List.mem_map.mp hd'
    obtain ⟨q, _, rfl⟩ := List.mem_map.mp he'
    rfl
  · obtain ⟨e, he, rfl⟩ := List.mem_map.mp hd
    obtain ⟨r, _, rfl⟩ := List.mem_map.mp he
    exact ⟨fun e => (by cases e), fun xs e => by cases e⟩
  · obtain ⟨r, hr, rfl⟩ := List.mem_map.mp hd
    have p : Pl 0 (D.int r) := .int 0 r
    exact ⟨p.sh (by omega), by have := p.dep; omega⟩
theorem ints_pl0 {ks : List Int} : ∀ x ∈ ks.map D.int, Pl 0 x := fun x h => by
  obtain ⟨i, _, rfl⟩ := List.mem_map.mp h
  exact .int 0 i
theorem sort_ints_perm {l m : List Int} (p : l.Perm m) : sortD (l.map D.int) = sortD (m.map D.int) := by
  refine sort_perm (n := 0) (p.map _) (fun a ha b hb => ?_) ints_pl0
  obtain ⟨r, _, rfl⟩ := List.mem_map.mp ha
  obtain ⟨q, _, rfl⟩ := List.mem_map.mp hb
  rfl
theorem sub_len' {l m : List Int} (h1 : l.Nodup) (h2 : m.Nodup) (h : ∀ x, x ∈ l ↔ x ∈ m) : l.Perm m := by
  obtain ⟨r, p⟩ := sub_perm h1 fun x hx => (h x).mp hx
  have e := p.length_eq
  rw [List.length_append] at e
  have el := nd_len h1 h2 h
  have z : r = [] := List.length_eq_zero_iff.mp (by omega)
  rw [z, List.append_nil] at p
  exact p.symm
structure Fin1 (t : Tree) (nd : Need) (f : Fr) : Prop where
  fo : FrOk (vars t.rows) f
  val : ∀ x v, lkB f.1 x = some v → v % 10 ≠ 0 ∧ (bnd t.spans x).1 ≤ v ∧ v < (bnd t.spans x).2
  sat : ∀ p ∈ nd, Sat f p
  in2 : ∀ p ∈ nd, In2 f p
theorem fin_put {t : Tree} {nd : Need} {f : Fr} (ok : TreeOk t) (h : Fin1 t nd f) {x : Int} (hx : x ∈ vars t.rows) : Fin1 t nd (putT t.spans f x) := by
  have hk := vars_len ok.rows
  refine ⟨putT_ok h.fo hk t.spans fun _ => hx, ?_, ?_, fun p hp => putT_in (h.in2 p hp)⟩
  · unfold putT
    by_cases c : x < 0 ∧ x ∉ f.1.map (·.1)
    · rw [if_pos c]
      intro y v e
      have e : lkB (f.1 ++ [(x, _)]) y = some v := e
      rw [lk_app c.2] at e
      by_cases c2 : y = x
      · rw [if_pos c2] at e
        cases e
        rw [c2]
        obtain ⟨b0, b1, b2, b3, b4⟩ := bnd_ok ok.sp c.1
        have ul := (h.fo.len hk).2
        have h1 := (pf_ge (us := f.2) 200 (bnd t.spans x).1).1
        have h2 := pf_near (us := f.2) (low := (bnd t.spans x).1) (by omega)
        have h3 := pf_plain (us := f.2) (low := (bnd t.spans x).1) (by omega)
        exact ⟨fun z => h3 (.inl z), h1, by omega⟩
      · rw [if_neg c2] at e
        exact h.val y v e
    · rw [if_neg c]; exact h.val
  · intro p hp
    have s := h.sat p hp
    have i := h.in2 p hp
    unfold putT
    by_cases c : x < 0 ∧ x ∉ f.1.map (·.1)
    · rw [if_pos c]
      have same : ∀ y, (y < 0 → y ∈ f.1.map (·.1)) → ∀ v, vB (f.1 ++ [(x, v)]) y = vB f.1 y := fun y hy v => by
        by_cases c2 : 0 ≤ y
        · rw [vB_pos c2, vB_pos c2]
        · rw [vB_neg (by omega), vB_neg (by omega), lk_app c.2, if_neg fun e => c.2 (by rw [← e]; exact hy (by omega))]
      unfold Sat at s ⊢
      show vB (f.1 ++ [(x, _)]) p.1 < vB (f.1 ++ [(x, _)]) p.2
      rw [same _ i.1, same _ i.2]
      exact s
    · rw [if_neg c]; exact s
theorem fin_puts {t : Tree} {nd : Need} (ok : TreeOk t) : ∀ (l : List Int) (f : Fr), Fin1 t nd f → (∀ x ∈ l, x ∈ vars t.rows) → Fin1 t nd (l.foldl (putT t.spans) f) ∧ (∀ x ∈ f.1.map (·.1), x ∈ (l.foldl (putT t.spans) f).1.map (·.1)) ∧ ∀ x ∈ l, x ∈ (l.foldl (putT t.spans) f).1.map (·.1)
  | [], f, h, _ => ⟨h, fun _ h => h, fun x h => by cases h⟩
  | x :: l, f, h, hl => by
    have hx := hl x List.mem_cons_self
    obtain ⟨a, b, c⟩ := fin_puts ok l (putT t.spans f x) (fin_put ok h hx) fun y hy => hl y (List.mem_cons_of_mem _ hy)
    refine ⟨a, fun y hy => b y ((putT_keys t.spans f x y).mpr (.inl hy)), fun y hy => ?_⟩
    rcases List.mem_cons.mp hy with e | e
    · rw [e]; exact b x ((putT_keys t.spans f x x).mpr (.inr ⟨rfl, vars_neg t.rows x hx⟩))
    · exact c y e
structure Frz (t : Tree) (nd : Need) (b : Bd) : Prop where
  len : b.length ≤ 64
  perm : (b.map (·.1)).Perm (vars t.rows)
  val : ∀ x ∈ vars t.rows, ∃ v, lkB b x = some v ∧ v % 10 ≠ 0 ∧ (bnd t.spans x).1 ≤ v ∧ v < (bnd t.spans x).2
  inj : ∀ x y v, lkB b x = some v → lkB b y = some v → x = y
  sat : ∀ p ∈ nd, vB b p.1 < vB b p.2
theorem frzB_ok {t : Tree} {nd : Need} (ok : TreeOk t) (no : NdOk t nd) : Frz t nd (frzB t nd) := by
  obtain ⟨w, w0, w1, w2⟩ := no.own
  obtain ⟨fo, i2⟩ := putN_ok ok no
  have hk := vars_len ok.rows
  obtain ⟨k, s⟩ := putN_k ok w0 (fun x hx => (w1 x hx).1) no.few fun p hp => ⟨no.has p hp, (w2 p hp).1, (w2 p hp).2.1, (w2 p hp).2.2⟩
  have f1 : Fin1 t nd (putN t.spans nd ([], [])) := ⟨fo, fun x v e => by
    obtain ⟨k1, k2, k3⟩ := k.val x v e
    have hx := fo.sub x (List.mem_map.mpr ⟨(x, v), lk_mem e, rfl⟩)
    have := (w1 x hx).2
    obtain ⟨b0, b1, b2, b3, b4⟩ := bnd_ok ok.sp (vars_neg t.rows x hx)
    exact ⟨k1, k2, by omega⟩, s, i2⟩
  obtain ⟨a, _, c⟩ := fin_puts ok (vars t.rows) _ f1 fun _ h => h
  refine ⟨(a.fo.len hk).1, ?_, fun x hx => ?_, fun x y v e1 e2 => a.fo.inj x y v e1 e2, a.sat⟩
  · refine sub_len' a.fo.nd (vars_nodup t.rows) fun x => ⟨a.fo.sub x, c x⟩
  · obtain ⟨v, e⟩ := lkB_some (c x hx)
    exact ⟨v, e, a.val x v e⟩
theorem nd_nil (t : Tree) (ok : TreeOk t) : NdOk t [] := by
  refine ⟨by simp, (fun p h => by cases h), fun x => if 0 ≤ x then x else (bnd t.spans x).1, fun x hx => if_pos hx, fun x hx => ?_, fun p h => by cases h⟩
  have lt := vars_neg t.rows x hx
  obtain ⟨b0, b1, _⟩ := bnd_ok ok.sp lt
  have e : (if 0 ≤ x then x else (bnd t.spans x).1) = (bnd t.spans x).1 := if_neg (by omega)
  show (bnd t.spans x).1 ≤ (if 0 ≤ x then x else (bnd t.spans x).1) ∧ (if 0 ≤ x then x else (bnd t.spans x).1) < (bnd t.spans x).2
  rw [e]
  omega
theorem p_law_is_frozen : BodyOk 4 12 B_law_is_frozen a_law_is_frozen S_law_is_frozen := by
  rintro _ R ⟨t, nd, rfl, ok, no, k⟩
  refine ⟨rfl, own0 (ds := [_, _, _]) rfl, ?_⟩
  have fz := frzB_ok ok no
  have hk := vars_len ok.rows
  have nl := no.few
  have bk : ∀ x ∈ vars t.rows, x ∈ (frzB t nd).map (·.1) := fun x hx => fz.perm.mem_iff.mpr hx
  generalize frzB t nd = b at fz bk k ⊢
  have bl := fz.len
  conv => whnf
  repeat (refine ⟨trivial, ?_⟩; conv => whnf)
  refine ⟨"dict", true, rfl, by decide +kernel, ?_⟩
  conv => whnf
  repeat (refine ⟨trivial, ?_⟩; conv => whnf)
  refine brF rfl ?_
  conv => whnf
  repeat (refine ⟨trivial, ?_⟩; conv => whnf)
  refine ⟨by rw [bd_keysD]; exact ints_ok _, sz_le (by rw [List.length_map]; omega), ?_⟩
  rw [bd_keysD, sort_ints_perm fz.perm]
  conv => whnf
  repeat (refine ⟨trivial, ?_⟩; conv => whnf)
  refine ⟨ints_ok _, ?_⟩
  conv => whnf
  repeat (refine ⟨trivial, ?_⟩; conv => whnf)
  have pl : ∀ x ∈ sortD ((vars t.rows).map D.int), Pl 0 x := fun x h => ints_pl0 x (List.mem_mergeSort.mp h)
  refine ne_pl (Pl.lst pl) (Pl.lst pl) ?_
  have e0 : ∀ d : D, (!decide (d = d)) = false := fun d => by simp
  rw [e0]
  refine brF rfl ?_
  conv => whnf
  repeat (refine ⟨trivial, ?_⟩; conv => whnf)
  refine ⟨Nat.zero_le _, ?_⟩
  conv => whnf
  repeat (refine ⟨trivial, ?_⟩; conv => whnf)
  intro _
  refine for_ind (Iv := fun items env => ∃ (done rest : List Int) (x5 x7 x8 x9 : AV), vars t.rows = done ++ rest ∧ items = rest.map D.int ∧ env = [.own (bD b), .dat (itsD (vars t.rows)), .dat (celD t.spans), .dat (needD nd), .own (itsD (done.map (vB b))), x5, .un, x7, x8, x9, .un, .un]) ?_ ?_ _ _ ⟨[], vars t.rows, .un, .un, .un, .un, rfl, rfl, rfl⟩
  · rintro env ⟨done, rest, x5, x7, x8, x9, ev, e, rfl⟩
    conv => whnf
    repeat (refine ⟨trivial, ?_⟩; conv => whnf)
    intro _
    refine for_ind (Iv := fun items env => ∃ (r : Need) (x6 x10 x11 : AV), items = r.map prD ∧ (∀ p ∈ r, p ∈ nd) ∧ env = [.own (bD b), .dat (itsD (vars t.rows)), .dat (celD t.spans), .dat (needD nd), .own (itsD (done.map (vB b))), x5, x6, x7, x8, x9, x10, x11]) ?_ ?_ _ _ ⟨nd, .un, .un, .un, rfl, fun _ h => h, rfl⟩
    · rintro env ⟨r, x6, x10, x11, _, _, rfl⟩
      conv => whnf
      repeat (refine ⟨trivial, ?_⟩; conv => whnf)
      exact ⟨nat_ _, k⟩
    · rintro y ds env M hM ⟨r, x6, x10, x11, e2, hr, rfl⟩
      obtain ⟨p, q, rfl, rfl, rfl⟩ := map_cons_inv e2.symm
      have pin := hr p List.mem_cons_self
      have s := fz.sat p pin
      conv => whnf
      repeat (refine ⟨trivial, ?_⟩; conv => whnf)
      refine use_valuedO 0 [p.1, p.2] b rfl rfl (by simp) (fun x hx lt => bk x ?_) ?_
      · simp only [List.mem_cons, List.not_mem_nil, or_false] at hx
        rcases hx with e | e
        · rw [e] at lt ⊢; exact (no.has p pin).1 lt
        · rw [e] at lt ⊢; exact (no.has p pin).2 lt
      conv => whnf
      repeat (refine ⟨trivial, ?_⟩; conv => whnf)
      refine ⟨rfl, ?_⟩
      conv => whnf
      repeat (refine ⟨trivial, ?_⟩; conv => whnf)
      refine ⟨rfl, ?_⟩
      conv => whnf
      repeat (refine ⟨trivial, ?_⟩; conv => whnf)
      have e3 : decide (vB b p.2 ≤ vB b p.1) = false := decide_eq_false (by omega)
      refine brF e3 ?_
      conv => whnf
      repeat (refine ⟨trivial, ?_⟩; conv => whnf)
      exact hM _ ⟨q, _, _, _, rfl, fun z hz => hr z (List.mem_cons_of_mem _ hz), rfl⟩
  · rintro y ds env M hM ⟨done, rest, x5, x7, x8, x9, ev, e, rfl⟩
    obtain ⟨x, q, rfl, rfl, rfl⟩ := map_cons_inv e.symm
    have xin : x ∈ vars t.rows := by rw [ev]; simp
    have lt := vars_neg t.rows x xin
    obtain ⟨v, ev1, v10, vlo, vhi⟩ := fz.val x xin
    have evx : vB b x = v := by rw [vB_neg lt, ev1]; rfl
    have dl : done.length ≤ 64 := by
      have := congrArg List.length ev
      rw [List.length_append] at this
      omega
    have nu : v ∉ done.map (vB b) := fun hm => by
      obtain ⟨x', hx', e'⟩ := List.mem_map.mp hm
      have x'in : x' ∈ vars t.rows := by rw [ev]; exact List.mem_append.mpr (.inl hx')
      obtain ⟨v', ev', _⟩ := fz.val x' x'in
      rw [vB_neg (vars_neg t.rows x' x'in), ev'] at e'
      have e' : v' = v := e'
      subst e'
      have := fz.inj x' x v' ev' ev1
      subst this
      have nd := vars_nodup t.rows
      rw [ev] at nd
      exact (List.nodup_append.mp nd).2.2 _ hx' _ List.mem_cons_self rfl
    conv => whnf
    repeat (refine ⟨trivial, ?_⟩; conv => whnf)
    refine ⟨sz2, ?_⟩
    conv => whnf
    repeat (refine ⟨trivial, ?_⟩; conv => whnf)
    refine ⟨rfl, ?_⟩
    rw [get_cel lt]
    conv => whnf
    repeat (refine ⟨trivial, ?_⟩; conv => whnf)
    refine ⟨rfl, ?_⟩
    conv => whnf
    repeat (refine ⟨trivial, ?_⟩; conv => whnf)
    refine ⟨rfl, ?_⟩
    conv => whnf
    repeat (refine ⟨trivial, ?_⟩; conv => whnf)
    refine ix_bd (b := b) (bk x xin) ?_
    have eg : (lkB b x).getD 0 = v := by rw [ev1]; rfl
    rw [eg]
    conv => whnf
    repeat (refine ⟨trivial, ?_⟩; conv => whnf)
    refine use_isint v ?_
    conv => whnf
    repeat (refine ⟨trivial, ?_⟩; conv => whnf)
    refine brF rfl ?_
    conv => whnf
    repeat (refine ⟨trivial, ?_⟩; conv => whnf)
    have c1 : (fun (i j : Int) => D.bl (decide (i ≤ j))) (bnd t.spans x).1 v = .bl true := ck_le vlo
    rw [c1]
    conv => whnf
    repeat (refine ⟨trivial, ?_⟩; conv => whnf)
    refine brF (ck_not vhi) ?_
    conv => whnf
    repeat (refine ⟨trivial, ?_⟩; conv => whnf)
    refine ⟨by omega, ?_⟩
    conv => whnf
    repeat (refine ⟨trivial, ?_⟩; conv => whnf)
    refine eq_int ?_
    refine brF (decide_eq_false v10) ?_
    conv => whnf
    repeat (refine ⟨trivial, ?_⟩; conv => whnf)
    refine in_lst (.int 0 v) (n := 0) ints_pl0 ?_
    refine brF (decide_eq_false fun h => nu (us_mem.mp h)) ?_
    conv => whnf
    repeat (refine ⟨trivial, ?_⟩; conv => whnf)
    refine ⟨⟨_, rfl⟩, ?_⟩
    conv => whnf
    repeat (refine ⟨trivial, ?_⟩; conv => whnf)
    refine ⟨by rw [List.length_map, List.length_map]; exact sz_lt (by omega), ?_⟩
    conv => whnf
    repeat (refine ⟨trivial, ?_⟩; conv => whnf)
    refine hM _ ⟨done ++ [x], q, .dat (.int x), .dat (.int v), .dat (.int (bnd t.spans x).1), .dat (.int (bnd t.spans x).2), by rw [ev, List.append_assoc]; rfl, rfl, ?_⟩
    rw [List.map_append]
    unfold itsD
    rw [List.map_append, ← evx]
    rfl
theorem use_isfrozen {env : AEnv} (j : Nat) (t : Tree) (nd : Need) {R : RV → AEnv → Prop} (e : env[j]? = some (.own (bD (frzB t nd)))) (ok : TreeOk t) (no : NdOk t nd) (k : R (.dat (.bl true)) (env.set j (.own (bD (frzB t nd))))) : callR S_law_is_frozen [.at j, .dat (itsD (vars t.rows)), .dat (celD t.spans), .dat (needD nd)] env R :=
  call_lent j [itsD (vars t.rows), celD t.spans, needD nd] e ⟨t, nd, rfl, ok, no, k⟩
end AL
namespace AL
open PySem L2
/-! P27: the law's last part. -/
theorem cut2 {α : Type} (xs : List α) : cutL xs none (some 2) = xs.take 2 := by
  unfold cutL
  rw [HT.sIx_none]
  have : HT.sIx xs.length xs.length (some 2) = min 2 xs.length := HT.sIx_nat _ _ 2
  rw [this, Nat.sub_zero]
  show (xs.drop 0).take (min 2 xs.length) = xs.take 2
  rw [List.drop_zero]
  rcases Nat.le_total 2 xs.length with h | h
  · rw [Nat.min_eq_left h]
  · rw [Nat.min_eq_right h, List.take_of_length_le (Nat.le_refl _), List.take_of_length_le h]
theorem vl_len (ts : List Int) (b : Bd) : (vl ts b).length = ts.length := by unfold vl; rw [List.length_map]
theorem hou_res (C : Cls) (q : Addr) (dc : D) (ts : List Tab) : res (houD C q dc ts) = houO C ts dc := by
  show D.obj C.House hNs [tabsD ts, .tup [], .tup [], .tup [], (lkR [q] [dc] q).getD (.ptr q)] = _
  have : lkR [q] [dc] q = some dc := by unfold lkR; rw [if_pos rfl]
  rw [this]
  rfl
theorem lwF {C : Cls} {A : AEnds} (h : ∀ env, A.rt (.dat (.bl true)) env) {x0 x1 x2 x4 x5 x6 x7 x8 x9 x10 x11 x12 x13 x14 x15 x16 x17 x18 : AV} {ts : List Tab} {ps : List Row} {rks : List (List Int)} (tok : TabsOk ts) (pok : RowsOk' ps) (rl : rks.length ≤ 4) :
    law_0_28 C A [x0, x1, x2, .dat (tabsD ts), x4, x5, x6, x7, x8, x9, x10, x11, x12, x13, x14, x15, x16, x17, x18, .own (.lst (ps.map rowD)), .dat (.tup (rks.map tmD)), .un, .un] := by
  conv => whnf
  repeat (refine ⟨trivial, ?_⟩; conv => whnf)
  refine ⟨Nat.zero_le _, ?_⟩
  conv => whnf
  repeat (refine ⟨trivial, ?_⟩; conv => whnf)
  refine ⟨Nat.zero_le _, ?_⟩
  conv => whnf
  repeat (refine ⟨trivial, ?_⟩; conv => whnf)
  refine ⟨Nat.zero_le _, ?_⟩
  conv => whnf
  repeat (refine ⟨trivial, ?_⟩; conv => whnf)
  refine call_lent 23 [tabsD ts, .tup [], .tup [], .tup []] (S := S_House_init C) (env := [x0, x1, x2, .dat (tabsD ts), x4, x5, x6, x7, x8, x9, x10, x11, x12, x13, x14, x15, x16, x17, x18, .own (.lst (ps.map rowD)), .dat (.tup (rks.map tmD)), .un, .un, .own (.obj C.House [] [])]) rfl ⟨ts, rfl, tok, fun q dc => ?_⟩
  conv => whnf
  repeat (refine ⟨trivial, ?_⟩; conv => whnf)
  refine ⟨rfl, _, rfl, ?_⟩
  conv => whnf
  refine ⟨trivial, ?_⟩
  have hr : res (D.rg [q] [dc] (houO C ts (D.ptr q))) = houO C ts dc := hou_res C q dc ts
  rw [hr]
  conv => whnf
  repeat (refine ⟨trivial, ?_⟩; conv => whnf)
  refine use_worldof ts dc ps (.tup (rks.map tmD)) tok pok ?_
  conv => whnf
  repeat (refine ⟨trivial, ?_⟩; conv => whnf)
  refine call_dats (S := S_law_world_right C) [worD C ts ps (.tup (rks.map tmD)), tabsD ts, .lst (ps.map rowD), .tup (rks.map tmD)] ⟨ts, ps, rks, rfl, tok, pok, rl, ?_⟩
  conv => whnf
  repeat (refine ⟨trivial, ?_⟩; conv => whnf)
  exact h _
theorem lwE {C : Cls} {A : AEnds} (h : ∀ env, A.rt (.dat (.bl true)) env) {x0 x2 x6 x7 x8 x9 x10 x11 x12 x13 x14 x15 x16 : AV} {d : D} {ts : List Tab} {rs : List Row} (hd : Dr d) (tok : TabsOk ts) (rok : RowsOk 16 rs) :
    law_0_22 C A [x0, .own d, x2, .dat (tabsD ts), .dat (rowsD rs), .dat (itsD (vars rs)), x6, x7, x8, x9, x10, x11, x12, x13, x14, x15, x16, .un, .un, .un, .un, .un, .un] := by
  conv => whnf
  repeat (refine ⟨trivial, ?_⟩; conv => whnf)
  refine use_meeting 1 rfl hd (vars_ok rok) fun b d1 bk hd1 => ?_
  conv => whnf
  repeat (refine ⟨trivial, ?_⟩; conv => whnf)
  have e2 : cutD (rs.map rowD) none (some 2) = (rs.take 2).map rowD := by rw [cutD_map, cut2]
  rw [e2]
  conv => whnf
  repeat (refine ⟨trivial, ?_⟩; conv => whnf)
  have l2 : (rs.take 2).length ≤ 2 := by rw [List.length_take]; omega
  have l1 := rok.1
  refine ⟨sz_le (by rw [List.length_map, List.length_map]; omega), ?_⟩
  rw [← List.map_append]
  have aok : RowsOk 18 (rs ++ rs.take 2) := ⟨by rw [List.length_append]; omega, fun r hr => by
    rcases List.mem_append.mp hr with z | z
    · exact rok.2 r z
    · exact rok.2 r (List.mem_of_mem_take z)⟩
  have has : ∀ r ∈ rs ++ rs.take 2, Has (b.map (·.1)) r.2 := fun r hr x hx lt => by
    rw [bk]
    rcases List.mem_append.mp hr with z | z
    · exact vars_has rs r z x hx lt
    · exact vars_has rs r (List.mem_of_mem_take z) x hx lt
  generalize rs ++ rs.take 2 = asked at aok has ⊢
  conv => whnf
  repeat (refine ⟨trivial, ?_⟩; conv => whnf)
  intro _
  refine ⟨noOwn_one (x := .un) rfl (fun e z => by cases z), sz_le (by rw [List.length_map]; have := aok.1; omega), ?_⟩
  refine lc_ind (Ev := fun env => env = [x0, .own d1, x2, .dat (tabsD ts), .dat (rowsD rs), .dat (itsD (vars rs)), x6, x7, x8, x9, x10, x11, x12, x13, x14, x15, x16, .own (bD b), .dat (rowsD asked), .un, .un, .un, .un]) (Stp := fun y oz => ∃ r : Row, y = rowD r ∧ oz = some (rowD (r.1, vl r.2 b))) _ ?_ _ _ rfl ?_
  · rintro y hy _ K rfl hK
    obtain ⟨r, hr, rfl⟩ := List.mem_map.mp hy
    conv => whnf
    repeat (refine ⟨trivial, ?_⟩; conv => whnf)
    rw [brP_true]
    conv => whnf
    repeat (refine ⟨trivial, ?_⟩; conv => whnf)
    refine ix_tup (by omega) rfl ?_
    conv => whnf
    repeat (refine ⟨trivial, ?_⟩; conv => whnf)
    refine ix_tup (by omega) rfl ?_
    conv => whnf
    repeat (refine ⟨trivial, ?_⟩; conv => whnf)
    refine use_valuedO 17 r.2 b rfl rfl (by have := (aok.2 r hr).few; omega) (has r hr) ?_
    conv => whnf
    repeat (refine ⟨trivial, ?_⟩; conv => whnf)
    refine ⟨sz2, ?_⟩
    conv => whnf
    repeat (refine ⟨trivial, ?_⟩; conv => whnf)
    exact hK _ _ rfl ⟨r, rfl, rfl⟩
  · rintro zs _ o rfl
    have ez := o.map (f := fun r : Row => rowD (r.1, vl r.2 b)) fun r oz ⟨u, e1, e2⟩ => by
      rw [rowD_inj.mp e1]
      exact e2
    rw [ez]
    conv => whnf
    repeat (refine ⟨trivial, ?_⟩; conv => whnf)
    refine use_frozenrows asked b aok has ?_
    conv => whnf
    repeat (refine ⟨trivial, ?_⟩; conv => whnf)
    have pl : ∀ x ∈ asked.map (fun r => rowD (r.1, vl r.2 b)), Pl 2 x := fun x hx => by
      obtain ⟨r, hr, rfl⟩ := List.mem_map.mp hx
      exact rowD_pl (aok.2 r hr).nm
    refine ne_pl (Pl.lst pl) (Pl.lst pl) ?_
    have e0 : ∀ d : D, (!decide (d = d)) = false := fun d => by simp
    rw [e0]
    refine brF rfl ?_
    conv => whnf
    repeat (refine ⟨trivial, ?_⟩; conv => whnf)
    have em : (asked.map fun r => rowD (r.1, vl r.2 b)) = (asked.map fun r : Row => ((r.1, vl r.2 b) : Row)).map rowD := by rw [List.map_map]; rfl
    refine use_mixed 1 _ rfl hd1 rfl (by rw [List.length_map]; have := aok.1; omega) fun l' d2 pm hd2 => ?_
    obtain ⟨ps, rfl, pp⟩ := perm_ex pm _ em
    have pok : RowsOk' ps := ⟨by
      have := pp.length_eq
      rw [List.length_map] at this
      have := aok.1
      omega, fun r hr => by
      obtain ⟨r', hr', e⟩ := List.mem_map.mp (pp.mem_iff.mp hr)
      rw [← e]
      exact ⟨(aok.2 r' hr').nm, by rw [vl_len]; exact (aok.2 r' hr').few⟩⟩
    conv => whnf
    repeat (refine ⟨trivial, ?_⟩; conv => whnf)
    refine use_ranks 1 rfl hd2 fun rks d3 rl _ hd3 => ?_
    exact lwF h tok pok rl
end AL
namespace AL
open PySem L2
/-! P28: the law's middle part. -/
theorem spD_pl (s : Span) : Pl 1 (spD s) := .tup fun d h => by
  simp only [List.mem_cons, List.not_mem_nil, or_false] at h
  rcases h with e | e | e <;> rw [e] <;> exact .int 0 _
theorem treeD_pl {t : Tree} (ok : TreeOk t) : Pl 5 (treeD t) := .tup fun d h => by
  simp only [List.mem_cons, List.not_mem_nil, or_false] at h
  rcases h with e | e | e | e
  · rw [e]; exact .tup fun x hx => ((rows_pl ok.rows) x hx).up (by omega)
  · rw [e]; exact .tup fun x hx => by cases hx
  · rw [e]; exact .tup fun x hx => by
      obtain ⟨s, _, rfl⟩ := List.mem_map.mp hx
      exact (spD_pl s).up (by omega)
  · rw [e]; exact (tmD_pl _).up (by omega)
theorem lwD {C : Cls} {A : AEnds} (h : ∀ env, A.rt (.dat (.bl true)) env) {x0 x2 x7 x10 x11 x12 x13 x14 x15 : AV} {d : D} {ts : List Tab} {t : Tree} (hd : Dr d) (tok : TabsOk ts) (ok : TreeOk t) :
    law_0_20 C A [x0, .own d, x2, .dat (tabsD ts), .dat (rowsD t.rows), .dat (itsD (vars t.rows)), .dat (celD t.spans), x7, .dat (tmD t.wide), .dat (objD C t), x10, x11, x12, x13, x14, x15, .un, .un, .un, .un, .un, .un, .un] := by
  have sl := ok.slen
  have dl := (dsort_perm t.spans).length_eq
  conv => whnf
  repeat (refine ⟨trivial, ?_⟩; conv => whnf)
  refine ⟨sz_le (by rw [List.length_map]; omega), ?_⟩
  conv => whnf
  repeat (refine ⟨trivial, ?_⟩; conv => whnf)
  refine ⟨t.spans.map (·.1), by rw [List.map_map]; rfl, fun ns' pm pw => ?_⟩
  have en : ns' = (dsort t.spans).map (·.1) := ge_uniq (pm.trans ((dsort_perm t.spans).map _).symm) pw (dsort_pw _)
  rw [en]
  conv => whnf
  repeat (refine ⟨trivial, ?_⟩; conv => whnf)
  intro _
  refine ⟨noOwn_one (x := .un) rfl (fun e z => by cases z), sz_le (by rw [List.length_map, List.length_map]; omega), ?_⟩
  refine lc_ind (Ev := fun env => env = [x0, .own d, x2, .dat (tabsD ts), .dat (rowsD t.rows), .dat (itsD (vars t.rows)), .dat (celD t.spans), x7, .dat (tmD t.wide), .dat (objD C t), x10, x11, x12, x13, x14, x15, .un, .un, .un, .un, .un, .un, .un]) (Stp := fun y oz => ∃ x : Int, y = .int x ∧ oz = some (((t.spans.find? fun z => z.1 == x).map spD).getD .non)) _ ?_ _ _ rfl ?_
  · rintro y hy _ K rfl hK
    obtain ⟨x, hx, rfl⟩ := List.mem_map.mp hy
    obtain ⟨s, hs, rfl⟩ := List.mem_map.mp hx
    have fs := find_nd ok.nd s ((dsort_perm t.spans).mem_iff.mp hs)
    conv => whnf
    repeat (refine ⟨trivial, ?_⟩; conv => whnf)
    rw [brP_true]
    conv => whnf
    repeat (refine ⟨trivial, ?_⟩; conv => whnf)
    refine ix_dic (z := .tup [.int s.2.1, .int s.2.2]) rfl (by rw [get_spans, fs]; rfl) ?_
    conv => whnf
    repeat (refine ⟨trivial, ?_⟩; conv => whnf)
    refine ix_tup (by omega) rfl ?_
    conv => whnf
    repeat (refine ⟨trivial, ?_⟩; conv => whnf)
    refine ix_dic (z := .tup [.int s.2.1, .int s.2.2]) rfl (by rw [get_spans, fs]; rfl) ?_
    conv => whnf
    repeat (refine ⟨trivial, ?_⟩; conv => whnf)
    refine ix_tup (by omega) rfl ?_
    conv => whnf
    repeat (refine ⟨trivial, ?_⟩; conv => whnf)
    refine ⟨sz3, ?_⟩
    conv => whnf
    repeat (refine ⟨trivial, ?_⟩; conv => whnf)
    exact hK _ _ rfl ⟨s.1, rfl, by rw [fs]; rfl⟩
  · rintro zs _ o rfl
    have ez := o.map (f := fun x : Int => ((t.spans.find? fun z => z.1 == x).map spD).getD .non) fun x oz ⟨u, e1, e2⟩ => by
      injection e1 with e1
      rw [e1]
      exact e2
    have e : zs = (dsort t.spans).map spD := by
      rw [ez, List.map_map]
      refine List.map_congr_left fun s hs => ?_
      show ((t.spans.find? fun z => z.1 == s.1).map spD).getD .non = _
      rw [find_nd ok.nd s ((dsort_perm t.spans).mem_iff.mp hs)]
      rfl
    rw [e]
    conv => whnf
    repeat (refine ⟨trivial, ?_⟩; conv => whnf)
    refine ⟨⟨_, _, rfl, rfl⟩, ?_⟩
    conv => whnf
    repeat (refine ⟨trivial, ?_⟩; conv => whnf)
    refine use_tree t ok ?_
    conv => whnf
    repeat (refine ⟨trivial, ?_⟩; conv => whnf)
    refine ⟨Nat.zero_le _, ?_⟩
    conv => whnf
    repeat (refine ⟨trivial, ?_⟩; conv => whnf)
    refine ⟨sz4, ?_⟩
    conv => whnf
    repeat (refine ⟨trivial, ?_⟩; conv => whnf)
    have e0 : ∀ d : D, (!decide (d = d)) = false := fun d => by simp
    refine ne_pl (treeD_pl ok) (treeD_pl ok) ?_
    refine brF (ck_not rfl) ?_
    exact lwE h hd tok ok.rows
/-! the dicts that are alike -/
theorem bd_alike : ∀ {b : Bd}, (b.map (·.1)).Nodup → ∀ (b0 : Bd), (∀ p ∈ b, lkB b0 p.1 = some p.2) → ∀ p ∈ (b.map fun p => D.int p.1).zip (b.map fun p => D.int p.2), (∃ n, p.2 = D.int n) ∧ dGet (b0.map fun p => D.int p.1) (b0.map fun p => D.int p.2) p.1 = some p.2
  | [], _, _, _, p, h => by cases h
  | (x, y) :: r, nd, b0, hb, p, h => by
    rw [List.map_cons, List.map_cons, List.zip_cons_cons] at h
    rcases List.mem_cons.mp h with e | e
    · rw [e]
      refine ⟨⟨y, rfl⟩, ?_⟩
      show dGet _ _ (D.int x) = some (D.int y)
      rw [get_bd, hb (x, y) List.mem_cons_self]
      rfl
    · rw [List.map_cons, List.nodup_cons] at nd
      exact bd_alike nd.2 b0 (fun q hq => hb q (List.mem_cons_of_mem _ hq)) p e
theorem frz_alike {t : Tree} {nd : Need} {b : Bd} (fz : Frz t nd b) : (b.map fun p => D.int p.1).length = (b.map fun p => D.int p.1).length ∧ ∀ p ∈ (b.map fun p => D.int p.1).zip (b.map fun p => D.int p.2), (∃ n, p.2 = D.int n) ∧ dGet (b.map fun p => D.int p.1) (b.map fun p => D.int p.2) p.1 = some p.2 :=
  have nd := fz.perm.nodup_iff.mpr (vars_nodup t.rows)
  ⟨rfl, bd_alike nd b (lk_of nd)⟩
theorem needD_pl (nd : Need) : Pl 2 (needD nd) := Pl.lst fun x hx => by
  obtain ⟨p, _, rfl⟩ := List.mem_map.mp hx
  exact .tup fun d h => by
    simp only [List.mem_cons, List.not_mem_nil, or_false] at h
    rcases h with e | e <;> rw [e] <;> exact .int 0 _
theorem vs_lc {t : Tree} {nd : Need} {b : Bd} (fz : Frz t nd b) {env0 : AEnv} {k : Nat} {R : List D → AEnv → Prop} (hk : val (env0.set 21 .un) (.at k) = some (bD b) → True)
    (he : ∀ (x : Int) (K : RV → AEnv → Prop), x ∈ vars t.rows → K (.dat (.int ((lkB b x).getD 0))) (env0.set 21 (.dat (.int x))) → aOp fIx (aVar k) (aVar 21) (env0.set 21 (.dat (.int x))) K)
    (hs : ∀ x : Int, (env0.set 21 .un).set 21 (.dat (.int x)) = env0.set 21 (.dat (.int x))) (hw2 : ∀ x : Int, wipeE (env0.set 21 (.dat (.int x))) [21] = env0.set 21 .un)
    (h : R ((vars t.rows).map fun x => D.int ((lkB b x).getD 0)) (env0.set 21 .un)) : lcL (agName 21) atYes (aOp fIx (aVar k) (aVar 21)) [21] ((vars t.rows).map D.int) R (env0.set 21 .un) := by
  refine lc_ind (Ev := fun env => env = env0.set 21 .un) (Stp := fun y oz => ∃ x : Int, y = .int x ∧ oz = some (.int ((lkB b x).getD 0))) _ ?_ _ _ rfl ?_
  · rintro y hy _ K rfl hK
    obtain ⟨x, hx, rfl⟩ := List.mem_map.mp hy
    show brP true (aFrz (aOp fIx (aVar k) (aVar 21)) ((env0.set 21 .un).set 21 (.dat (.int x))) (lcK K [21])) _
    rw [brP_true, hs]
    unfold aFrz
    refine he x _ hx ?_
    show K (some (.int ((lkB b x).getD 0))) (wipeE (env0.set 21 (.dat (.int x))) [21])
    rw [hw2]
    exact hK _ _ rfl ⟨x, rfl, rfl⟩
  · rintro zs _ o rfl
    have ez := o.map (f := fun x : Int => D.int ((lkB b x).getD 0)) fun x oz ⟨u, e1, e2⟩ => by
      injection e1 with e1
      rw [e1]
      exact e2
    rw [ez]
    exact h
theorem lwC {C : Cls} {A : AEnds} (h : ∀ env, A.rt (.dat (.bl true)) env) {x0 x2 : AV} {d : D} {ts : List Tab} {t : Tree} {nd : Need} (hd : Dr d) (tok : TabsOk ts) (ok : TreeOk t) (no : NdOk t nd) :
    law_0_15 C A [x0, .own d, x2, .dat (tabsD ts), .dat (rowsD t.rows), .dat (itsD (vars t.rows)), .dat (celD t.spans), .dat (needD nd), .dat (tmD t.wide), .dat (objD C t), .own (bD (frzB t [])), .own (bD (frzB t [])), .dat (needD nd), .own (bD (frzB t nd)), .un, .un, .un, .un, .un, .un, .un, .un, .un] := by
  have fz := frzB_ok ok no
  have f0 := frzB_ok ok (nd_nil t ok)
  have hk := vars_len ok.rows
  have bk : ∀ x ∈ vars t.rows, x ∈ (frzB t nd).map (·.1) := fun x hx => fz.perm.mem_iff.mpr hx
  have vz : ((vars t.rows).map D.int).length ≤ sizeLine := sz_le (by rw [List.length_map]; omega)
  conv => whnf
  repeat (refine ⟨trivial, ?_⟩; conv => whnf)
  intro _
  refine ⟨noOwn_one (x := .un) rfl (fun e z => by cases z), vz, ?_⟩
  refine vs_lc (env0 := [x0, .own d, x2, .dat (tabsD ts), .dat (rowsD t.rows), .dat (itsD (vars t.rows)), .dat (celD t.spans), .dat (needD nd), .dat (tmD t.wide), .dat (objD C t), .own (bD (frzB t [])), .own (bD (frzB t [])), .dat (needD nd), .own (bD (frzB t nd)), .un, .un, .un, .un, .un, .un, .un, .un, .un]) fz (fun _ => trivial) (fun x K hx hK => ?_) (fun _ => rfl) (fun _ => rfl) ?_
  · conv => whnf
    repeat (refine ⟨trivial, ?_⟩; conv => whnf)
    exact ix_bd (b := frzB t nd) (bk x hx) hK
  conv => whnf
  repeat (refine ⟨trivial, ?_⟩; conv => whnf)
  refine use_spoil 13 (frzB t nd) (vars t.rows) rfl (by have := fz.len; omega) (by omega) fun b1 => ?_
  conv => whnf
  repeat (refine ⟨trivial, ?_⟩; conv => whnf)
  refine use_spoil 11 (frzB t []) (vars t.rows) rfl (by have := f0.len; omega) (by omega) fun b2 => ?_
  conv => whnf
  repeat (refine ⟨trivial, ?_⟩; conv => whnf)
  refine use_freeze t nd ok no ?_
  conv => whnf
  repeat (refine ⟨trivial, ?_⟩; conv => whnf)
  intro _
  refine ⟨noOwn_one (x := .un) rfl (fun e z => by cases z), vz, ?_⟩
  refine vs_lc (env0 := [x0, .own d, x2, .dat (tabsD ts), .dat (rowsD t.rows), .dat (itsD (vars t.rows)), .dat (celD t.spans), .dat (needD nd), .dat (tmD t.wide), .dat (objD C t), .own (bD (frzB t [])), .own (bD b2), .dat (needD nd), .own (bD b1), .own (.lst ((vars t.rows).map fun x => D.int ((lkB (frzB t nd) x).getD 0))), .own (bD (frzB t nd)), .un, .un, .un, .un, .un, .un, .un]) fz (fun _ => trivial) (fun x K hx hK => ?_) (fun _ => rfl) (fun _ => rfl) ?_
  · conv => whnf
    repeat (refine ⟨trivial, ?_⟩; conv => whnf)
    exact ix_bd (b := frzB t nd) (bk x hx) hK
  have pl : ∀ z ∈ (vars t.rows).map (fun x => D.int ((lkB (frzB t nd) x).getD 0)), Pl 0 z := fun z hz => by
    obtain ⟨x, _, rfl⟩ := List.mem_map.mp hz
    exact .int 0 _
  conv => whnf
  repeat (refine ⟨trivial, ?_⟩; conv => whnf)
  refine ne_pl (Pl.lst pl) (Pl.lst pl) ?_
  refine brF (ck_not rfl) ?_
  conv => whnf
  repeat (refine ⟨trivial, ?_⟩; conv => whnf)
  refine ⟨Nat.zero_le _, ?_⟩
  conv => whnf
  repeat (refine ⟨trivial, ?_⟩; conv => whnf)
  refine use_freeze t [] ok (nd_nil t ok) ?_
  conv => whnf
  repeat (refine ⟨trivial, ?_⟩; conv => whnf)
  refine ⟨(frz_alike f0).1, (frz_alike f0).2, ?_⟩
  refine brF rfl ?_
  exact lwD h hd tok ok
end AL
namespace AL
open PySem L2
/-! P29: the law. -/
theorem cutk {α : Type} (xs : List α) (k : Nat) : cutL xs none (some (k : Int)) = xs.take k := by
  unfold cutL
  rw [HT.sIx_none, HT.sIx_nat, Nat.sub_zero]
  show (xs.drop 0).take (min k xs.length) = xs.take k
  rw [List.drop_zero]
  rcases Nat.le_total k xs.length with h | h
  · rw [Nat.min_eq_left h]
  · rw [Nat.min_eq_right h, List.take_of_length_le (Nat.le_refl _), List.take_of_length_le h]
theorem lwA {C : Cls} {A : AEnds} (h : ∀ env, A.rt (.dat (.bl true)) env) {x0 x2 : AV} {d : D} {ts : List Tab} {t : Tree} {nd : Need} (hd : Dr d) (tok : TabsOk ts) (ok : TreeOk t) (no : NdOk t nd) :
    law_0_10 C A [x0, .own d, x2, .dat (tabsD ts), .dat (rowsD t.rows), .dat (itsD (vars t.rows)), .dat (celD t.spans), .own (needD nd), .dat (tmD t.wide), .own (objD C t), .own (bD (frzB t [])), .un, .un, .un, .un, .un, .un, .un, .un, .un, .un, .un, .un] := by
  have f0 := frzB_ok ok (nd_nil t ok)
  conv => whnf
  repeat (refine ⟨trivial, ?_⟩; conv => whnf)
  refine ⟨Nat.zero_le _, ?_⟩
  conv => whnf
  repeat (refine ⟨trivial, ?_⟩; conv => whnf)
  refine use_freeze t [] ok (nd_nil t ok) ?_
  conv => whnf
  repeat (refine ⟨trivial, ?_⟩; conv => whnf)
  refine ⟨Nat.zero_le _, ?_⟩
  conv => whnf
  repeat (refine ⟨trivial, ?_⟩; conv => whnf)
  refine use_isfrozen 11 t [] rfl ok (nd_nil t ok) ?_
  conv => whnf
  repeat (refine ⟨trivial, ?_⟩; conv => whnf)
  refine brF rfl ?_
  conv => whnf
  repeat (refine ⟨trivial, ?_⟩; conv => whnf)
  refine ⟨(frz_alike f0).1, (frz_alike f0).2, ?_⟩
  refine brF rfl ?_
  conv => whnf
  repeat (refine ⟨trivial, ?_⟩; conv => whnf)
  refine use_freeze t nd ok no ?_
  conv => whnf
  repeat (refine ⟨trivial, ?_⟩; conv => whnf)
  refine use_isfrozen 13 t nd rfl ok no ?_
  conv => whnf
  repeat (refine ⟨trivial, ?_⟩; conv => whnf)
  refine brF rfl ?_
  conv => whnf
  repeat (refine ⟨trivial, ?_⟩; conv => whnf)
  refine ne_pl (needD_pl nd) (needD_pl nd) ?_
  refine brF (ck_not rfl) ?_
  exact lwC h hd tok ok no
theorem lw8 {C : Cls} {A : AEnds} (h : ∀ env, A.rt (.dat (.bl true)) env) {x0 x2 : AV} {d : D} {ts : List Tab} {rs : List Row} {sp : List Span} {ws : List Int} {nd : Need} (hd : Dr d) (tok : TabsOk ts) (ok : TreeOk ⟨rs, sp, ws⟩) (no : NdOk ⟨rs, sp, ws⟩ nd) :
    law_0_8 C A [x0, .own d, x2, .dat (tabsD ts), .dat (rowsD rs), .dat (itsD (vars rs)), .dat (celD sp), .own (needD nd), .dat (tmD ws), .un, .un, .un, .un, .un, .un, .un, .un, .un, .un, .un, .un, .un, .un] := by
  conv => whnf
  repeat (refine ⟨trivial, ?_⟩; conv => whnf)
  refine ⟨Nat.zero_le _, ?_⟩
  conv => whnf
  repeat (refine ⟨trivial, ?_⟩; conv => whnf)
  refine call_lent 23 [rowsD rs, .tup [], celD sp, tmD ws] (S := S_Body_init C) (env := [x0, .own d, x2, .dat (tabsD ts), .dat (rowsD rs), .dat (itsD (vars rs)), .dat (celD sp), .own (needD nd), .dat (tmD ws), .un, .un, .un, .un, .un, .un, .un, .un, .un, .un, .un, .un, .un, .un, .own (.obj C.Body [] [])]) rfl ⟨_, _, _, _, rfl, ?_⟩
  conv => whnf
  repeat (refine ⟨trivial, ?_⟩; conv => whnf)
  refine ⟨rfl, _, rfl, ?_⟩
  conv => whnf
  repeat (refine ⟨trivial, ?_⟩; conv => whnf)
  refine use_least ⟨rs, sp, ws⟩ ok ?_
  exact lwA (t := ⟨rs, sp, ws⟩) h hd tok ok no
theorem lw4 {C : Cls} {A : AEnds} (h : ∀ env, A.rt (.dat (.bl true)) env) {x0 x2 : AV} {d : D} {ts : List Tab} {rs : List Row} (hd : Dr d) (tok : TabsOk ts) (rok : RowsOk 16 rs) :
    law_0_4 C A [x0, .own d, x2, .dat (tabsD ts), .dat (rowsD rs), .un, .un, .un, .un, .un, .un, .un, .un, .un, .un, .un, .un, .un, .un, .un, .un, .un, .un] := by
  have hk := vars_len rok
  have vo := vars_ok rok
  conv => whnf
  repeat (refine ⟨trivial, ?_⟩; conv => whnf)
  refine use_variables rs ⟨by have := rok.1; omega, rok.2⟩ ?_
  conv => whnf
  repeat (refine ⟨trivial, ?_⟩; conv => whnf)
  refine use_cells 1 rfl hd hk (vars_nodup rs) fun sp d1 so hd1 => ?_
  conv => whnf
  repeat (refine ⟨trivial, ?_⟩; conv => whnf)
  refine use_own 1 rfl hd1 vo so fun b d2 ow hd2 => ?_
  conv => whnf
  repeat (refine ⟨trivial, ?_⟩; conv => whnf)
  have ok0 : TreeOk ⟨rs, sp, []⟩ := ⟨rok, so, Nat.zero_le _⟩
  refine use_needs 1 ⟨rs, sp, []⟩ b rfl hd2 ok0 ow fun nd d3 no hd3 => ?_
  conv => whnf
  repeat (refine ⟨trivial, ?_⟩; conv => whnf)
  have e6 : cutD ((vars rs).map D.int) none (some 6) = ((vars rs).take 6).map D.int := by rw [cutD_map]; exact congrArg (List.map D.int) (cutk _ 6)
  rw [e6]
  refine use_mixed 1 _ rfl hd3 rfl (by rw [List.length_map, List.length_take]; omega) fun l' d4 pm hd4 => ?_
  obtain ⟨ws, rfl, pw⟩ := perm_ex pm _ rfl
  have wl : ws.length ≤ 6 := by
    rw [pw.length_eq, List.length_take]
    omega
  have ok : TreeOk ⟨rs, sp, ws⟩ := ⟨rok, so, wl⟩
  have no' : NdOk ⟨rs, sp, ws⟩ nd := ⟨no.few, no.has, no.own⟩
  exact lw8 h hd4 tok ok no'
theorem lw3 {C : Cls} {A : AEnds} (h : ∀ env, A.rt (.dat (.bl true)) env) {x0 : AV} {b : Bool} {d : D} {ts : List Tab} (hd : Dr d) (tok : TabsOk ts) :
    law_0_3 C A [x0, .own d, .dat (.bl b), .dat (tabsD ts), .un, .un, .un, .un, .un, .un, .un, .un, .un, .un, .un, .un, .un, .un, .un, .un, .un, .un, .un] := by
  conv => whnf
  repeat (refine ⟨trivial, ?_⟩; conv => whnf)
  refine brI (fun c => ?_) (fun c => ?_)
  · conv => whnf
    repeat (refine ⟨trivial, ?_⟩; conv => whnf)
    refine use_asked 1 rfl hd tok (by omega) (by omega) fun rs d1 rok hd1 => ?_
    exact lw4 h hd1 tok rok
  · conv => whnf
    repeat (refine ⟨trivial, ?_⟩; conv => whnf)
    refine use_draw 1 rfl hd (by omega) (by omega) fun r d1 r0 r1 hd1 => ?_
    conv => whnf
    repeat (refine ⟨trivial, ?_⟩; conv => whnf)
    refine use_asked 1 rfl hd1 tok (by omega) (by omega) fun rs d2 rok hd2 => ?_
    exact lw4 h hd2 tok rok
theorem p_law {C : Cls} : BodyOk 1 23 B_law (a_law C) S_law := by
  rintro _ R ⟨ns, rfl, k⟩
  refine ⟨rfl, ownN (ds := [_]), ?_⟩
  have h : ∀ env : AEnv, (∀ i, RV.dat (.bl true) ≠ .at i) ∧ R (.dat (.bl true)) (outs [.dat (.scr (ns.map D.int))] env) := fun env => by
    refine ⟨nat_ _, ?_⟩
    cases env with
    | nil => exact k
    | cons a l => exact k
  conv => whnf
  repeat (refine ⟨trivial, ?_⟩; conv => whnf)
  refine call_dats (S := S_law_begin) [.scr (ns.map D.int)] ⟨ns, rfl, fun d hd => ?_⟩
  conv => whnf
  repeat (refine ⟨trivial, ?_⟩; conv => whnf)
  refine use_draw 1 rfl hd (by omega) (by omega) fun r d1 r0 r1 hd1 => ?_
  conv => whnf
  repeat (refine ⟨trivial, ?_⟩; conv => whnf)
  refine eq_int ?_
  conv => whnf
  repeat (refine ⟨trivial, ?_⟩; conv => whnf)
  refine brI (fun c => ?_) (fun c => ?_)
  · conv => whnf
    repeat (refine ⟨trivial, ?_⟩; conv => whnf)
    refine use_tables 1 rfl hd1 (by omega) (by omega) (by omega) (by omega) fun ts d2 tok hd2 => ?_
    exact lw3 (A := { nx := _, rt := _ }) h hd2 tok
  · conv => whnf
    repeat (refine ⟨trivial, ?_⟩; conv => whnf)
    refine use_draw 1 rfl hd1 (by omega) (by omega) fun r2 d2 q0 q1 hd2 => ?_
    conv => whnf
    repeat (refine ⟨trivial, ?_⟩; conv => whnf)
    refine use_tables 1 rfl hd2 (by omega) (by omega) (by omega) (by omega) fun ts d3 tok hd3 => ?_
    exact lw3 (A := { nx := _, rt := _ }) h hd3 tok
end AL
namespace AL
open PySem L2
def top (i : Nat) : Stmt := PySem.Challenge.pw_planassize_k61_frozen_values_plain_and_u.main.body.getD i (.Pass ⟨0, 0, 0, 0⟩)
abbrev st_Body_init : Stmt := (inClass (top 39) 0)
abbrev st_Body_tree : Stmt := (inClass (top 39) 1)
abbrev st_check_indexes : Stmt := (top 60)
abbrev st_check_rules : Stmt := (top 59)
abbrev st_is_lettered : Stmt := (top 26)
abbrev st_is_long_name : Stmt := (top 28)
abbrev st_is_name : Stmt := (top 27)
abbrev st_check_tables : Stmt := (top 56)
abbrev st_check_views : Stmt := (top 61)
abbrev st_House_init : Stmt := (inClass (top 54) 0)
abbrev st_law_draw : Stmt := (top 64)
abbrev st_law_pick : Stmt := (top 65)
abbrev st_law_asked : Stmt := (top 73)
abbrev st_law_begin : Stmt := (top 63)
abbrev st_law_cells : Stmt := (top 74)
abbrev st_law_is_int : Stmt := (top 66)
abbrev st_law_valued : Stmt := (top 71)
abbrev st_law_is_frozen : Stmt := (top 78)
abbrev st_law_least_values : Stmt := (top 77)
abbrev st_law_meeting : Stmt := (top 80)
abbrev st_law_mixed : Stmt := (top 67)
abbrev st_law_needs : Stmt := (top 76)
abbrev st_law_own : Stmt := (top 75)
abbrev st_law_ranks : Stmt := (top 81)
abbrev st_law_spoil : Stmt := (top 79)
abbrev st_law_names : Stmt := (top 68)
abbrev st_law_tables : Stmt := (top 72)
abbrev st_law_variables : Stmt := (top 70)
abbrev st_World_size : Stmt := (inClass (top 30) 2)
abbrev st_World_tree : Stmt := (inClass (top 30) 1)
abbrev st_law_unlike : Stmt := (top 69)
abbrev st_law_world_right : Stmt := (top 82)
abbrev st_Body_span : Stmt := (inClass (top 39) 2)
abbrev st_Body_variables : Stmt := (inClass (top 39) 4)
abbrev st_plain_from : Stmt := (top 32)
abbrev st_value_of : Stmt := (top 33)
abbrev st_put_needed : Stmt := (top 34)
abbrev st_freeze : Stmt := (top 35)
abbrev st_frozen_rows : Stmt := (top 36)
abbrev st_World_init : Stmt := (inClass (top 30) 0)
abbrev st_world_of : Stmt := (top 37)
abbrev st_law : Stmt := (top 83)
structure Adr where
  C_World : Addr
  C_Body : Addr
  C_House : Addr
  f_Body_init : Addr
  fd_Body_init : FuncData
  f_Body_tree : Addr
  fd_Body_tree : FuncData
  f_check_indexes : Addr
  fd_check_indexes : FuncData
  f_check_rules : Addr
  fd_check_rules : FuncData
  f_is_lettered : Addr
  fd_is_lettered : FuncData
  f_is_long_name : Addr
  fd_is_long_name : FuncData
  f_is_name : Addr
  fd_is_name : FuncData
  f_check_tables : Addr
  fd_check_tables : FuncData
  f_check_views : Addr
  fd_check_views : FuncData
  f_House_init : Addr
  fd_House_init : FuncData
  f_law_draw : Addr
  fd_law_draw : FuncData
  f_law_pick : Addr
  fd_law_pick : FuncData
  f_law_asked : Addr
  fd_law_asked : FuncData
  f_law_begin : Addr
  fd_law_begin : FuncData
  f_law_cells : Addr
  fd_law_cells : FuncData
  f_law_is_int : Addr
  fd_law_is_int : FuncData
  f_law_valued : Addr
  fd_law_valued : FuncData
  f_law_is_frozen : Addr
  fd_law_is_frozen : FuncData
  f_law_least_values : Addr
  fd_law_least_values : FuncData
  f_law_meeting : Addr
  fd_law_meeting : FuncData
  f_law_mixed : Addr
  fd_law_mixed : FuncData
  f_law_needs : Addr
  fd_law_needs : FuncData
  f_law_own : Addr
  fd_law_own : FuncData
  f_law_ranks : Addr
  fd_law_ranks : FuncData
  f_law_spoil : Addr
  fd_law_spoil : FuncData
  f_law_names : Addr
  fd_law_names : FuncData
  f_law_tables : Addr
  fd_law_tables : FuncData
  f_law_variables : Addr
  fd_law_variables : FuncData
  f_World_size : Addr
  fd_World_size : FuncData
  f_World_tree : Addr
  fd_World_tree : FuncData
  f_law_unlike : Addr
  fd_law_unlike : FuncData
  f_law_world_right : Addr
  fd_law_world_right : FuncData
  f_Body_span : Addr
  fd_Body_span : FuncData
  f_Body_variables : Addr
  fd_Body_variables : FuncData
  f_plain_from : Addr
  fd_plain_from : FuncData
  f_value_of : Addr
  fd_value_of : FuncData
  f_put_needed : Addr
  fd_put_needed : FuncData
  f_freeze : Addr
  fd_freeze : FuncData
  f_frozen_rows : Addr
  fd_frozen_rows : FuncData
  f_World_init : Addr
  fd_World_init : FuncData
  f_world_of : Addr
  fd_world_of : FuncData
  f_law : Addr
  fd_law : FuncData
structure Txt (K : Fg) (mg : Str → Option Value) (Z : Adr) : Prop where
  c_World : ClsAt K mg "World" "World.__init__" st_World_init ["self", "tables", "ranks"] Z.C_World Z.f_World_init Z.fd_World_init
  c_Body : ClsAt K mg "Body" "Body.__init__" st_Body_init ["self", "rows", "nots", "spans", "wide"] Z.C_Body Z.f_Body_init Z.fd_Body_init
  c_House : ClsAt K mg "House" "House.__init__" st_House_init ["self", "tables", "rules", "indexes", "views"] Z.C_House Z.f_House_init Z.fd_House_init
  Body_tree : MethAt K Z.C_Body "tree" "Body.tree" st_Body_tree ["self"] Z.f_Body_tree Z.fd_Body_tree
  check_indexes : DefAt K mg "check_indexes" st_check_indexes ["house"] Z.f_check_indexes Z.fd_check_indexes
  check_rules : DefAt K mg "check_rules" st_check_rules ["house"] Z.f_check_rules Z.fd_check_rules
  is_lettered : DefAt K mg "is_lettered" st_is_lettered ["value", "longest"] Z.f_is_lettered Z.fd_is_lettered
  is_long_name : DefAt K mg "is_long_name" st_is_long_name ["value"] Z.f_is_long_name Z.fd_is_long_name
  is_name : DefAt K mg "is_name" st_is_name ["value"] Z.f_is_name Z.fd_is_name
  check_tables : DefAt K mg "check_tables" st_check_tables ["house"] Z.f_check_tables Z.fd_check_tables
  check_views : DefAt K mg "check_views" st_check_views ["house"] Z.f_check_views Z.fd_check_views
  law_draw : DefAt K mg "_law_draw" st_law_draw ["d", "many"] Z.f_law_draw Z.fd_law_draw
  law_pick : DefAt K mg "_law_pick" st_law_pick ["d", "row"] Z.f_law_pick Z.fd_law_pick
  law_asked : DefAt K mg "_law_asked" st_law_asked ["d", "tables", "many"] Z.f_law_asked Z.fd_law_asked
  law_begin : DefAt K mg "_law_begin" st_law_begin ["script"] Z.f_law_begin Z.fd_law_begin
  law_cells : DefAt K mg "_law_cells" st_law_cells ["d", "variables"] Z.f_law_cells Z.fd_law_cells
  law_is_int : DefAt K mg "_law_is_int" st_law_is_int ["thing"] Z.f_law_is_int Z.fd_law_is_int
  law_valued : DefAt K mg "_law_valued" st_law_valued ["terms", "told"] Z.f_law_valued Z.fd_law_valued
  law_is_frozen : DefAt K mg "_law_is_frozen" st_law_is_frozen ["told", "variables", "spans", "needs"] Z.f_law_is_frozen Z.fd_law_is_frozen
  law_least_values : DefAt K mg "_law_least_values" st_law_least_values ["variables", "spans"] Z.f_law_least_values Z.fd_law_least_values
  law_meeting : DefAt K mg "_law_meeting" st_law_meeting ["d", "variables"] Z.f_law_meeting Z.fd_law_meeting
  law_mixed : DefAt K mg "_law_mixed" st_law_mixed ["d", "row"] Z.f_law_mixed Z.fd_law_mixed
  law_needs : DefAt K mg "_law_needs" st_law_needs ["d", "rows", "values"] Z.f_law_needs Z.fd_law_needs
  law_own : DefAt K mg "_law_own" st_law_own ["d", "variables", "spans"] Z.f_law_own Z.fd_law_own
  law_ranks : DefAt K mg "_law_ranks" st_law_ranks ["d"] Z.f_law_ranks Z.fd_law_ranks
  law_spoil : DefAt K mg "_law_spoil" st_law_spoil ["told", "variables"] Z.f_law_spoil Z.fd_law_spoil
  law_names : DefAt K mg "_law_names" st_law_names ["d", "many"] Z.f_law_names Z.fd_law_names
  law_tables : DefAt K mg "_law_tables" st_law_tables ["d", "many", "least"] Z.f_law_tables Z.fd_law_tables
  law_variables : DefAt K mg "_law_variables" st_law_variables ["rows"] Z.f_law_variables Z.fd_law_variables
  World_size : MethAt K Z.C_World "size" "World.size" st_World_size ["self"] Z.f_World_size Z.fd_World_size
  World_tree : MethAt K Z.C_World "tree" "World.tree" st_World_tree ["self"] Z.f_World_tree Z.fd_World_tree
  law_unlike : DefAt K mg "_law_unlike" st_law_unlike ["row"] Z.f_law_unlike Z.fd_law_unlike
  law_world_right : DefAt K mg "_law_world_right" st_law_world_right ["told", "tables", "pairs", "ranks"] Z.f_law_world_right Z.fd_law_world_right
  Body_span : MethAt K Z.C_Body "span" "Body.span" st_Body_span ["self", "term"] Z.f_Body_span Z.fd_Body_span
  Body_variables : MethAt K Z.C_Body "variables" "Body.variables" st_Body_variables ["self"] Z.f_Body_variables Z.fd_Body_variables
  plain_from : DefAt K mg "plain_from" st_plain_from ["low", "used"] Z.f_plain_from Z.fd_plain_from
  value_of : DefAt K mg "value_of" st_value_of ["values", "term"] Z.f_value_of Z.fd_value_of
  put_needed : DefAt K mg "put_needed" st_put_needed ["body", "needs", "values", "used"] Z.f_put_needed Z.fd_put_needed
  freeze : DefAt K mg "freeze" st_freeze ["body", "needs"] Z.f_freeze Z.fd_freeze
  frozen_rows : DefAt K mg "frozen_rows" st_frozen_rows ["rows", "values"] Z.f_frozen_rows Z.fd_frozen_rows
  world_of : DefAt K mg "world_of" st_world_of ["house", "pairs", "ranks"] Z.f_world_of Z.fd_world_of
  law : DefAt K mg "law" st_law ["script"] Z.f_law Z.fd_law
  n_Body_nots : NoAttr K Z.C_Body "nots"
  n_Body_rows : NoAttr K Z.C_Body "rows"
  n_Body_spans : NoAttr K Z.C_Body "spans"
  n_Body_wide : NoAttr K Z.C_Body "wide"
  n_House_indexes : NoAttr K Z.C_House "indexes"
  n_House_rules : NoAttr K Z.C_House "rules"
  n_House_tables : NoAttr K Z.C_House "tables"
  n_House_views : NoAttr K Z.C_House "views"
  n_House_widths : NoAttr K Z.C_House "widths"
  n_World_ranks : NoAttr K Z.C_World "ranks"
  n_World_tables : NoAttr K Z.C_World "tables"
  k_LETTERS : ∃ t, mg "LETTERS" = some (.str "abcdefghijklmnopqrstuvwxyz" t)
  k_LONGEST_NAME : ∃ t, mg "LONGEST_NAME" = some (.int 12 t)
  k_MOST_COLUMNS : ∃ t, mg "MOST_COLUMNS" = some (.int 4 t)
  k_MOST_INDEXES : ∃ t, mg "MOST_INDEXES" = some (.int 6 t)
  k_MOST_NAME : ∃ t, mg "MOST_NAME" = some (.int 9 t)
  k_MOST_RULES : ∃ t, mg "MOST_RULES" = some (.int 16 t)
  k_MOST_TABLES : ∃ t, mg "MOST_TABLES" = some (.int 8 t)
  k_MOST_VIEWS : ∃ t, mg "MOST_VIEWS" = some (.int 4 t)
  k_WORDS : GlobT K mg "WORDS" k_WORDS
  no_all : mg "all" = none
  no_bool : mg "bool" = none
  no_dict : mg "dict" = none
  no_int : mg "int" = none
  no_isinstance : mg "isinstance" = none
  no_len : mg "len" = none
  no_list : mg "list" = none
  no_max : mg "max" = none
  no_range : mg "range" = none
  no_set : mg "set" = none
  no_sorted : mg "sorted" = none
  no_str : mg "str" = none
  no_sum : mg "sum" = none
  no_tuple : mg "tuple" = none
section
variable {P : Program} {w : World} {K : Fg} {mg : Str → Option Value} {base : Heap} {Z : Adr}
abbrev N_Body_init : List Str := ["self", "rows", "nots", "spans", "wide"]
theorem sc_Body_init : FnScope N_Body_init ["self", "rows", "nots", "spans", "wide"] (defScope st_Body_init) := ⟨rfl, rfl, rfl, by decide +kernel, rfl, by decide +kernel, by decide +kernel⟩
theorem ok_Body_init (T : Txt K mg Z) : FnOk P w K mg base CX0 1 Z.f_Body_init Z.fd_Body_init ["self", "rows", "nots", "spans", "wide"] (toSp K (S_Body_init (⟨Z.C_Body, Z.C_House, Z.C_World⟩ : Cls))) :=
  fn_of (N := N_Body_init) (B := B_Body_init) (a := a_Body_init (⟨Z.C_Body, Z.C_House, Z.C_World⟩ : Cls)) (k := 0) T.c_Body.fn sc_Body_init (by decide) (fun cdv A outer s H E hr => have sc := sc_Body_init; by
    unfold a_Body_init Body_init_0_0 Body_init_0_1 Body_init_0_2 Body_init_0_3
    exact (ass_cons (as_fldset 0 T.c_Body.cl T.n_Body_rows (av 1))
      (ass_cons (as_fldset 0 T.c_Body.cl T.n_Body_nots (av 2))
      (ass_cons (as_fldset 0 T.c_Body.cl T.n_Body_spans (av 3))
      (ass_one (as_fldset 0 T.c_Body.cl T.n_Body_wide (av 4))))))) p_Body_init
abbrev N_Body_tree : List Str := ["self", "spans", "term"]
theorem sc_Body_tree : FnScope N_Body_tree ["self"] (defScope st_Body_tree) := ⟨rfl, rfl, rfl, by decide +kernel, rfl, by decide +kernel, by decide +kernel⟩
theorem ok_Body_tree (T : Txt K mg Z) : FnOk P w K mg base CX0 1 Z.f_Body_tree Z.fd_Body_tree ["self"] (toSp K (S_Body_tree (⟨Z.C_Body, Z.C_House, Z.C_World⟩ : Cls))) :=
  fn_of (N := N_Body_tree) (B := B_Body_tree) (a := a_Body_tree (⟨Z.C_Body, Z.C_House, Z.C_World⟩ : Cls)) (k := 0) T.Body_tree.fn sc_Body_tree (by decide) (fun cdv A outer s H E hr => have sc := sc_Body_tree; by
    unfold a_Body_tree Body_tree_0_0 Body_tree_0_1
    exact (ass_cons (as_set (i := 1) sc.nd rfl (Or.inl rfl) (ae_rdT call_tuple_of (rs_tuple _) rfl T.no_tuple (by decide +kernel) (ae_lc (own := [("term", 2)]) rfl sc.nd (ai_seq (ae_sortedDR rfl (ae_fld T.c_Body.cl T.n_Body_spans (av 0)) rfl T.no_sorted)) (blkOk_by (own := [("term", 2)]) (N := N_Body_tree) (sc := (defScope st_Body_tree)) (by first | decide +kernel | rfl)) gloc_name (fun _ _ _ _ _ => (ag_name 2 sc.nd rfl (Or.inl rfl))) (fun _ _ _ _ _ => ats_nil) (fun _ _ _ _ _ => (ae_tup (aa_consD (av 2) (aa_consD (ae_ix hr (ae_ix hr (ae_fld T.c_Body.cl T.n_Body_spans (av 0)) (av 2)) ae_int) (aa_consD (ae_ix hr (ae_ix hr (ae_fld T.c_Body.cl T.n_Body_spans (av 0)) (av 2)) ae_int) aa_nil))))))))
      (ass_one (as_ret (ae_tup (aa_consD (ae_fld T.c_Body.cl T.n_Body_rows (av 0)) (aa_consD (ae_fld T.c_Body.cl T.n_Body_nots (av 0)) (aa_consD (av 1) (aa_consD (ae_fld T.c_Body.cl T.n_Body_wide (av 0)) aa_nil))))))))) p_Body_tree
abbrev N_check_indexes : List Str := ["house", "met", "name", "table", "places", "columns"]
theorem sc_check_indexes : FnScope N_check_indexes ["house"] (defScope st_check_indexes) := ⟨rfl, rfl, rfl, by decide +kernel, rfl, by decide +kernel, by decide +kernel⟩
theorem ok_check_indexes (T : Txt K mg Z) : FnOk P w K mg base CX0 1 Z.f_check_indexes Z.fd_check_indexes ["house"] (toSp K (S_check_indexes (⟨Z.C_Body, Z.C_House, Z.C_World⟩ : Cls))) :=
  fn_of (N := N_check_indexes) (B := B_check_indexes) (a := a_check_indexes (⟨Z.C_Body, Z.C_House, Z.C_World⟩ : Cls)) (k := 0) T.check_indexes.fn sc_check_indexes (by decide) (fun cdv A outer s H E hr => have sc := sc_check_indexes; by
    unfold a_check_indexes check_indexes_0_0 check_indexes_0_1 check_indexes_0_2 check_indexes_1_0
    exact (ass_cons (as_if (AW.at' (aw_or (at_not (at_tru (ae_isi (T := "tuple") (ae_fld T.c_House.cl T.n_House_indexes (av 0)) rfl T.no_isinstance rfl T.no_tuple (by decide +kernel)))) (aw_or1 (at_gt (ae_rdB call_len (rs_len _) rfl T.no_len (by decide +kernel) (ae_fld T.c_House.cl T.n_House_indexes (av 0))) (ae_gI rfl T.k_MOST_INDEXES))))) (ass_one as_never) ass_nil)
      (ass_cons (as_setLc (i := 1) (own := [("name", 2), ("columns", 5)]) rfl sc.nd rfl rfl (sw_true rfl rfl rfl (by decide +kernel)) (ai_seq (ae_fld T.c_House.cl T.n_House_tables (av 0))) (blkOk_by (own := [("name", 2), ("columns", 5)]) (N := N_check_indexes) (sc := (defScope st_check_indexes)) (by first | decide +kernel | rfl)) (gloc_tup (gloc_cons gloc_name (gloc_cons gloc_name gloc_nil (gmono_name _) gmono_nil) (gmono_name _) (gmono_cons (gmono_name _) gmono_nil))) (fun _ _ _ _ _ => (ag_tup rfl (ags_cons (ag_name 2 sc.nd rfl (Or.inl rfl)) (ags_cons (ag_name 5 sc.nd rfl (Or.inl rfl)) ags_nil)))) (fun _ _ _ _ _ => ats_nil) (fun _ _ _ _ _ => (av 2)))
      (ass_one (as_for .never rfl (ai_seq (ae_fld T.c_House.cl T.n_House_indexes (av 0))) (ag_tup rfl (ags_cons (ag_name 2 sc.nd rfl (Or.inl rfl)) (ags_cons (ag_name 3 sc.nd rfl (Or.inl rfl)) (ags_cons (ag_name 4 sc.nd rfl (Or.inl rfl)) ags_nil)))) ass_never))))) p_check_indexes
abbrev N_check_rules : List Str := ["house", "met", "leads", "rule", "mark"]
theorem sc_check_rules : FnScope N_check_rules ["house"] (defScope st_check_rules) := ⟨rfl, rfl, rfl, by decide +kernel, rfl, by decide +kernel, by decide +kernel⟩
theorem ok_check_rules (T : Txt K mg Z) : FnOk P w K mg base CX0 1 Z.f_check_rules Z.fd_check_rules ["house"] (toSp K (S_check_rules (⟨Z.C_Body, Z.C_House, Z.C_World⟩ : Cls))) :=
  fn_of (N := N_check_rules) (B := B_check_rules) (a := a_check_rules (⟨Z.C_Body, Z.C_House, Z.C_World⟩ : Cls)) (k := 0) T.check_rules.fn sc_check_rules (by decide) (fun cdv A outer s H E hr => have sc := sc_check_rules; by
    unfold a_check_rules check_rules_0_0 check_rules_0_1 check_rules_0_2 check_rules_0_3 check_rules_1_0
    exact (ass_cons (as_if (AW.at' (aw_or (at_not (at_tru (ae_isi (T := "tuple") (ae_fld T.c_House.cl T.n_House_rules (av 0)) rfl T.no_isinstance rfl T.no_tuple (by decide +kernel)))) (aw_or1 (at_gt (ae_rdB call_len (rs_len _) rfl T.no_len (by decide +kernel) (ae_fld T.c_House.cl T.n_House_rules (av 0))) (ae_gI rfl T.k_MOST_RULES))))) (ass_one as_never) ass_nil)
      (ass_cons (as_set (i := 1) sc.nd rfl (Or.inl rfl) (ae_lst aa_nil))
      (ass_cons (as_set (i := 2) sc.nd rfl (Or.inl rfl) (ae_lst aa_nil))
      (ass_one (as_for .never rfl (ai_seq (ae_fld T.c_House.cl T.n_House_rules (av 0))) (ag_name 3 sc.nd rfl (Or.inl rfl)) ass_never)))))) p_check_rules
abbrev N_is_lettered : List Str := ["value", "longest", "sign"]
theorem sc_is_lettered : FnScope N_is_lettered ["value", "longest"] (defScope st_is_lettered) := ⟨rfl, rfl, rfl, by decide +kernel, rfl, by decide +kernel, by decide +kernel⟩
theorem ok_is_lettered (T : Txt K mg Z) : FnOk P w K mg base CX0 1 Z.f_is_lettered Z.fd_is_lettered ["value", "longest"] (toSp K S_is_lettered) :=
  fn_of (N := N_is_lettered) (B := B_is_lettered) (a := a_is_lettered) (k := 0) T.is_lettered.fn sc_is_lettered (by decide) (fun cdv A outer s H E hr => have sc := sc_is_lettered; by
    unfold a_is_lettered is_lettered_0_0 is_lettered_0_1 is_lettered_1_0
    exact (ass_cons (as_if (AW.at' (aw_or (at_not (at_tru (ae_isi (T := "str") (av 0) rfl T.no_isinstance rfl T.no_str (by decide +kernel)))) (aw_or1 (at_not (at_chain op_le os_b0 op_le os_b0 ae_int (ae_rdB call_len (rs_len _) rfl T.no_len (by decide +kernel) (av 0)) (av 1)))))) (ass_one (as_ret ae_bl)) ass_nil)
      (ass_one (as_ret (ae_and (ae_rdB (cr_all rfl) (rs_all _) rfl T.no_all (by decide +kernel) (ae_lc (own := [("sign", 2)]) rfl sc.nd (ai_seq (av 0)) (blkOk_by (own := [("sign", 2)]) (N := N_is_lettered) (sc := (defScope st_is_lettered)) (by first | decide +kernel | rfl)) gloc_name (fun _ _ _ _ _ => (ag_name 2 sc.nd rfl (Or.inl rfl))) (fun _ _ _ _ _ => ats_nil) (fun _ _ _ _ _ => (ae_in hr (av 2) (ae_gS rfl T.k_LETTERS))))) (ae_one (ae_notIn hr (av 0) (ae_gT rfl T.k_WORDS)))))))) p_is_lettered
abbrev N_is_long_name : List Str := ["value"]
theorem sc_is_long_name : FnScope N_is_long_name ["value"] (defScope st_is_long_name) := ⟨rfl, rfl, rfl, by decide +kernel, rfl, by decide +kernel, by decide +kernel⟩
theorem ok_is_long_name (T : Txt K mg Z) : FnOk P w K mg base CX0 2 Z.f_is_long_name Z.fd_is_long_name ["value"] (toSp K S_is_long_name) :=
  fn_of (N := N_is_long_name) (B := B_is_long_name) (a := a_is_long_name) (k := 1) T.is_long_name.fn sc_is_long_name (by decide) (fun cdv A outer s H E hr => have sc := sc_is_long_name; by
    unfold a_is_long_name is_long_name_0_0
    exact (ass_one (as_ret (ae_fn (ok_is_lettered T) (hr.mono (by decide)) rfl T.is_lettered.mg T.is_lettered.kp T.is_lettered.bi (aa_consD (av 0) (aa_consD (ae_gI rfl T.k_LONGEST_NAME) aa_nil)))))) p_is_long_name
abbrev N_is_name : List Str := ["value"]
theorem sc_is_name : FnScope N_is_name ["value"] (defScope st_is_name) := ⟨rfl, rfl, rfl, by decide +kernel, rfl, by decide +kernel, by decide +kernel⟩
theorem ok_is_name (T : Txt K mg Z) : FnOk P w K mg base CX0 2 Z.f_is_name Z.fd_is_name ["value"] (toSp K S_is_name) :=
  fn_of (N := N_is_name) (B := B_is_name) (a := a_is_name) (k := 1) T.is_name.fn sc_is_name (by decide) (fun cdv A outer s H E hr => have sc := sc_is_name; by
    unfold a_is_name is_name_0_0
    exact (ass_one (as_ret (ae_fn (ok_is_lettered T) (hr.mono (by decide)) rfl T.is_lettered.mg T.is_lettered.kp T.is_lettered.bi (aa_consD (av 0) (aa_consD (ae_gI rfl T.k_MOST_NAME) aa_nil)))))) p_is_name
abbrev N_check_tables : List Str := ["house", "tables", "met", "name", "columns", "column"]
theorem sc_check_tables : FnScope N_check_tables ["house"] (defScope st_check_tables) := ⟨rfl, rfl, rfl, by decide +kernel, rfl, by decide +kernel, by decide +kernel⟩
theorem ok_check_tables (T : Txt K mg Z) : FnOk P w K mg base CX0 3 Z.f_check_tables Z.fd_check_tables ["house"] (toSp K (S_check_tables (⟨Z.C_Body, Z.C_House, Z.C_World⟩ : Cls))) :=
  fn_of (N := N_check_tables) (B := B_check_tables) (a := a_check_tables (⟨Z.C_Body, Z.C_House, Z.C_World⟩ : Cls)) (k := 2) T.check_tables.fn sc_check_tables (by decide) (fun cdv A outer s H E hr => have sc := sc_check_tables; by
    unfold a_check_tables check_tables_0_0 check_tables_0_1 check_tables_0_2 check_tables_0_3 check_tables_2_0 check_tables_2_1 check_tables_2_2 check_tables_2_3 check_tables_2_4 check_tables_6_0 check_tables_5_0 check_tables_4_0 check_tables_3_0 check_tables_1_0
    exact (ass_cons (as_set (i := 1) sc.nd rfl (Or.inl rfl) (ae_fld T.c_House.cl T.n_House_tables (av 0)))
      (ass_cons (as_if (AW.at' (aw_or (at_not (at_tru (ae_isi (T := "tuple") (av 1) rfl T.no_isinstance rfl T.no_tuple (by decide +kernel)))) (aw_or1 (at_not (at_chain op_le os_b0 op_le os_b0 ae_int (ae_rdB call_len (rs_len _) rfl T.no_len (by decide +kernel) (av 1)) (ae_gI rfl T.k_MOST_TABLES)))))) (ass_one as_never) ass_nil)
      (ass_cons (as_set (i := 2) sc.nd rfl (Or.inl rfl) (ae_lst aa_nil))
      (ass_one (as_for .never rfl (ai_seq (av 1)) (ag_tup rfl (ags_cons (ag_name 3 sc.nd rfl (Or.inl rfl)) (ags_cons (ag_name 4 sc.nd rfl (Or.inl rfl)) ags_nil))) (ass_cons (as_if (at_not (at_tru (ae_fn (ok_is_long_name T) (hr.mono (by decide)) rfl T.is_long_name.mg T.is_long_name.kp T.is_long_name.bi (aa_consD (av 3) aa_nil)))) (ass_one as_never) ass_nil)
      (ass_cons (as_if (at_in hr (av 3) (av 2)) (ass_one as_never) ass_nil)
      (ass_cons (as_expr (ae_mut 2 PySem.F.slot_list_append PySem.F.type_list_append mt_append (ms_append _) (aa_consD (av 3) aa_nil)))
      (ass_cons (as_if (AW.at' (aw_or (at_not (at_tru (ae_isi (T := "tuple") (av 4) rfl T.no_isinstance rfl T.no_tuple (by decide +kernel)))) (aw_or1 (at_not (at_chain op_le os_b0 op_le os_b0 ae_int (ae_rdB call_len (rs_len _) rfl T.no_len (by decide +kernel) (av 4)) (ae_gI rfl T.k_MOST_COLUMNS)))))) (ass_one as_never) ass_nil)
      (ass_one (as_if (AW.at' (aw_or (at_not (at_tru (ae_rdB (cr_all rfl) (rs_all _) rfl T.no_all (by decide +kernel) (ae_lc (own := [("column", 5)]) rfl sc.nd (ai_seq (av 4)) (blkOk_by (own := [("column", 5)]) (N := N_check_tables) (sc := (defScope st_check_tables)) (by first | decide +kernel | rfl)) gloc_name (fun _ _ _ _ _ => (ag_name 5 sc.nd rfl (Or.inl rfl))) (fun _ _ _ _ _ => ats_nil) (fun _ _ _ _ _ => (ae_fn (ok_is_name T) (hr.mono (by decide)) rfl T.is_name.mg T.is_name.kp T.is_name.bi (aa_consD (av 5) aa_nil))))))) (aw_or1 (at_ne hr (ae_lenSetS rfl (av 4) rfl T.no_len rfl T.no_set) (ae_rdB call_len (rs_len _) rfl T.no_len (by decide +kernel) (av 4)))))) (ass_one as_never) ass_nil)))))))))))) p_check_tables
abbrev N_check_views : List Str := ["house", "met", "name", "question", "told", "columns"]
theorem sc_check_views : FnScope N_check_views ["house"] (defScope st_check_views) := ⟨rfl, rfl, rfl, by decide +kernel, rfl, by decide +kernel, by decide +kernel⟩
theorem ok_check_views (T : Txt K mg Z) : FnOk P w K mg base CX0 1 Z.f_check_views Z.fd_check_views ["house"] (toSp K (S_check_views (⟨Z.C_Body, Z.C_House, Z.C_World⟩ : Cls))) :=
  fn_of (N := N_check_views) (B := B_check_views) (a := a_check_views (⟨Z.C_Body, Z.C_House, Z.C_World⟩ : Cls)) (k := 0) T.check_views.fn sc_check_views (by decide) (fun cdv A outer s H E hr => have sc := sc_check_views; by
    unfold a_check_views check_views_0_0 check_views_0_1 check_views_0_2 check_views_1_0
    exact (ass_cons (as_if (AW.at' (aw_or (at_not (at_tru (ae_isi (T := "tuple") (ae_fld T.c_House.cl T.n_House_views (av 0)) rfl T.no_isinstance rfl T.no_tuple (by decide +kernel)))) (aw_or1 (at_gt (ae_rdB call_len (rs_len _) rfl T.no_len (by decide +kernel) (ae_fld T.c_House.cl T.n_House_views (av 0))) (ae_gI rfl T.k_MOST_VIEWS))))) (ass_one as_never) ass_nil)
      (ass_cons (as_set (i := 1) sc.nd rfl (Or.inl rfl) (ae_add (ae_lc (own := [("name", 2), ("columns", 5)]) rfl sc.nd (ai_seq (ae_fld T.c_House.cl T.n_House_tables (av 0))) (blkOk_by (own := [("name", 2), ("columns", 5)]) (N := N_check_views) (sc := (defScope st_check_views)) (by first | decide +kernel | rfl)) (gloc_tup (gloc_cons gloc_name (gloc_cons gloc_name gloc_nil (gmono_name _) gmono_nil) (gmono_name _) (gmono_cons (gmono_name _) gmono_nil))) (fun _ _ _ _ _ => (ag_tup rfl (ags_cons (ag_name 2 sc.nd rfl (Or.inl rfl)) (ags_cons (ag_name 5 sc.nd rfl (Or.inl rfl)) ags_nil)))) (fun _ _ _ _ _ => ats_nil) (fun _ _ _ _ _ => (av 2))) (ae_lc (own := [("told", 4)]) rfl sc.nd (ai_seq (ae_fld T.c_House.cl T.n_House_indexes (av 0))) (blkOk_by (own := [("told", 4)]) (N := N_check_views) (sc := (defScope st_check_views)) (by first | decide +kernel | rfl)) gloc_name (fun _ _ _ _ _ => (ag_name 4 sc.nd rfl (Or.inl rfl))) (fun _ _ _ _ _ => ats_nil) (fun _ _ _ _ _ => (ae_ix hr (av 4) ae_int)))))
      (ass_one (as_for .never rfl (ai_seq (ae_fld T.c_House.cl T.n_House_views (av 0))) (ag_tup rfl (ags_cons (ag_name 2 sc.nd rfl (Or.inl rfl)) (ags_cons (ag_name 3 sc.nd rfl (Or.inl rfl)) ags_nil))) ass_never))))) p_check_views
abbrev N_House_init : List Str := ["self", "tables", "rules", "indexes", "views", "name", "columns"]
theorem sc_House_init : FnScope N_House_init ["self", "tables", "rules", "indexes", "views"] (defScope st_House_init) := ⟨rfl, rfl, rfl, by decide +kernel, rfl, by decide +kernel, by decide +kernel⟩
theorem ok_House_init (T : Txt K mg Z) : FnOk P w K mg base CX0 4 Z.f_House_init Z.fd_House_init ["self", "tables", "rules", "indexes", "views"] (toSp K (S_House_init (⟨Z.C_Body, Z.C_House, Z.C_World⟩ : Cls))) :=
  fn_of (N := N_House_init) (B := B_House_init) (a := a_House_init (⟨Z.C_Body, Z.C_House, Z.C_World⟩ : Cls)) (k := 3) T.c_House.fn sc_House_init (by decide) (fun cdv A outer s H E hr => have sc := sc_House_init; by
    unfold a_House_init House_init_0_0 House_init_0_1 House_init_0_2 House_init_0_3 House_init_0_4 House_init_0_5 House_init_0_6 House_init_0_7 House_init_0_8 House_init_0_9 House_init_1_0
    exact (ass_cons (as_fldset 0 T.c_House.cl T.n_House_tables (av 1))
      (ass_cons (as_fldset 0 T.c_House.cl T.n_House_rules (av 2))
      (ass_cons (as_fldset 0 T.c_House.cl T.n_House_indexes (av 3))
      (ass_cons (as_fldset 0 T.c_House.cl T.n_House_views (av 4))
      (ass_cons (as_fldown 0 T.c_House.cl T.n_House_widths ae_newK)
      (ass_cons (as_expr (ae_fn (ok_check_tables T) (hr.mono (by decide)) rfl T.check_tables.mg T.check_tables.kp T.check_tables.bi (aa_cons (av 0) aa_nil)))
      (ass_cons (as_for .never rfl (ai_seq (av 1)) (ag_tup rfl (ags_cons (ag_name 5 sc.nd rfl (Or.inl rfl)) (ags_cons (ag_name 6 sc.nd rfl (Or.inl rfl)) ags_nil))) (ass_one (as_asg (ae_rdB call_len (rs_len _) rfl T.no_len (by decide +kernel) (av 6)) (ag_ptr 0 hr (ae_fld T.c_House.cl T.n_House_widths (av 0)) (av 5)))))
      (ass_cons (as_expr (ae_fn (ok_check_rules T) (hr.mono (by decide)) rfl T.check_rules.mg T.check_rules.kp T.check_rules.bi (aa_cons (av 0) aa_nil)))
      (ass_cons (as_expr (ae_fn (ok_check_indexes T) (hr.mono (by decide)) rfl T.check_indexes.mg T.check_indexes.kp T.check_indexes.bi (aa_cons (av 0) aa_nil)))
      (ass_one (as_expr (ae_fn (ok_check_views T) (hr.mono (by decide)) rfl T.check_views.mg T.check_views.kp T.check_views.bi (aa_cons (av 0) aa_nil)))))))))))))) p_House_init
abbrev N_law_draw : List Str := ["d", "many", "told", "cell"]
theorem sc_law_draw : FnScope N_law_draw ["d", "many"] (defScope st_law_draw) := ⟨rfl, rfl, rfl, by decide +kernel, rfl, by decide +kernel, by decide +kernel⟩
theorem ok_law_draw (T : Txt K mg Z) : FnOk P w K mg base CX0 1 Z.f_law_draw Z.fd_law_draw ["d", "many"] (toSp K S_law_draw) :=
  fn_of (N := N_law_draw) (B := B_law_draw) (a := a_law_draw) (k := 0) T.law_draw.fn sc_law_draw (by decide) (fun cdv A outer s H E hr => have sc := sc_law_draw; by
    unfold a_law_draw law_draw_0_0 law_draw_0_1 law_draw_0_2 law_draw_0_3 law_draw_0_4 law_draw_0_5 law_draw_2_0 law_draw_2_1 law_draw_2_2 law_draw_2_3 law_draw_3_0 law_draw_3_1 law_draw_1_0 law_draw_1_1 law_draw_1_2
    exact (ass_cons (as_asg (ae_add (ae_ix hr (av 0) ae_str) ae_int) (ag_sub hr (av 0) ae_str))
      (ass_cons (as_if (at_gt (ae_ix hr (av 0) ae_str) ae_int) (ass_cons (as_set (i := 2) sc.nd rfl (Or.inl rfl) (ae_mod (ae_rdT call_int1 (rs_int _) rfl T.no_int (by decide +kernel) (ae_ix hr (av 0) ae_str)) (av 1)))
      (ass_cons (as_asg (ae_div (ae_ix hr (av 0) ae_str) (av 1)) (ag_sub hr (av 0) ae_str))
      (ass_one (as_ret (av 2))))) ass_nil)
      (ass_cons (as_if (at_lt (ae_ix hr (av 0) ae_str) (ae_rdB call_len (rs_len _) rfl T.no_len (by decide +kernel) (ae_ix hr (av 0) ae_str))) (ass_cons (as_set (i := 3) sc.nd rfl (Or.inl rfl) (ae_ix hr (ae_ix hr (av 0) ae_str) (ae_ix hr (av 0) ae_str)))
      (ass_cons (as_asg (ae_add (ae_ix hr (av 0) ae_str) ae_int) (ag_sub hr (av 0) ae_str))
      (ass_cons (as_if (at_ge (av 3) (ae_pow ae_int ae_int)) (ass_cons (as_asg (ae_div (ae_div (av 3) ae_int) (av 1)) (ag_sub hr (av 0) ae_str))
      (ass_one (as_ret (ae_mod (ae_rdT call_int1 (rs_int _) rfl T.no_int (by decide +kernel) (ae_div (av 3) ae_int)) (av 1))))) ass_nil)
      (ass_one (as_asg (ae_mod (ae_rdT call_int1 (rs_int _) rfl T.no_int (by decide +kernel) (ae_add (ae_add (ae_mul (ae_ix hr (av 0) ae_str) ae_int) (av 3)) ae_int)) ae_int) (ag_sub hr (av 0) ae_str)))))) ass_nil)
      (ass_cons (as_set (i := 2) sc.nd rfl (Or.inl rfl) (ae_mod (ae_rdT call_int1 (rs_int _) rfl T.no_int (by decide +kernel) (ae_add (ae_mul (ae_add (ae_ix hr (av 0) ae_str) (ae_mul (ae_ix hr (av 0) ae_str) ae_int)) ae_int) ae_int)) ae_int))
      (ass_cons (as_set (i := 2) sc.nd rfl (Or.inl rfl) (ae_mod (ae_rdT call_int1 (rs_int _) rfl T.no_int (by decide +kernel) (ae_add (ae_div (av 2) ae_int) (ae_mul (av 2) ae_int))) ae_int))
      (ass_one (as_ret (ae_mod (av 2) (av 1)))))))))) p_law_draw
abbrev N_law_pick : List Str := ["d", "row"]
theorem sc_law_pick : FnScope N_law_pick ["d", "row"] (defScope st_law_pick) := ⟨rfl, rfl, rfl, by decide +kernel, rfl, by decide +kernel, by decide +kernel⟩
theorem ok_law_pick (T : Txt K mg Z) : FnOk P w K mg base CX0 2 Z.f_law_pick Z.fd_law_pick ["d", "row"] (toSp K S_law_pick) :=
  fn_of (N := N_law_pick) (B := B_law_pick) (a := a_law_pick) (k := 1) T.law_pick.fn sc_law_pick (by decide) (fun cdv A outer s H E hr => have sc := sc_law_pick; by
    unfold a_law_pick law_pick_0_0
    exact (ass_one (as_ret (ae_ix hr (av 1) (ae_fn (ok_law_draw T) (hr.mono (by decide)) rfl T.law_draw.mg T.law_draw.kp T.law_draw.bi (aa_cons (av 0) (aa_consD (ae_rdB call_len (rs_len _) rfl T.no_len (by decide +kernel) (av 1)) aa_nil))))))) p_law_pick
abbrev N_law_asked : List Str := ["d", "tables", "many", "rows", "met", "turn", "step", "ahead", "terms", "column", "name", "columns", "way"]
theorem sc_law_asked : FnScope N_law_asked ["d", "tables", "many"] (defScope st_law_asked) := ⟨rfl, rfl, rfl, by decide +kernel, rfl, by decide +kernel, by decide +kernel⟩
theorem ok_law_asked (T : Txt K mg Z) : FnOk P w K mg base CX0 3 Z.f_law_asked Z.fd_law_asked ["d", "tables", "many"] (toSp K S_law_asked) :=
  fn_of (N := N_law_asked) (B := B_law_asked) (a := a_law_asked) (k := 2) T.law_asked.fn sc_law_asked (by decide) (fun cdv A outer s H E hr => have sc := sc_law_asked; by
    unfold a_law_asked law_asked_0_0 law_asked_0_1 law_asked_0_2 law_asked_0_3 law_asked_0_4 law_asked_1_0 law_asked_1_1 law_asked_1_2 law_asked_1_3 law_asked_7_0 law_asked_2_0 law_asked_2_1 law_asked_4_0 law_asked_6_0 law_asked_6_1 law_asked_5_0 law_asked_3_0
    exact (ass_cons (as_par (i := 6) (j := 7) rfl sc.nd rfl rfl rfl rfl (an_cons (ae_add ae_int (ae_fn (ok_law_draw T) (hr.mono (by decide)) rfl T.law_draw.mg T.law_draw.kp T.law_draw.bi (aa_cons (av 0) (aa_consD ae_int aa_nil)))) (an_cons (ae_fn (ok_law_draw T) (hr.mono (by decide)) rfl T.law_draw.mg T.law_draw.kp T.law_draw.bi (aa_cons (av 0) (aa_consD ae_int aa_nil))) an_nil)))
      (ass_cons (as_set (i := 3) sc.nd rfl (Or.inl rfl) (ae_lst aa_nil))
      (ass_cons (as_set (i := 4) sc.nd rfl (Or.inl rfl) (ae_lst aa_nil))
      (ass_cons (as_for .never rfl (ai_range1 rfl T.no_range (aa_consD (av 2) aa_nil)) (ag_name 5 sc.nd rfl (Or.inl rfl)) (ass_cons (as_asg (ae_fn (ok_law_pick T) (hr.mono (by decide)) rfl T.law_pick.mg T.law_pick.kp T.law_pick.bi (aa_cons (av 0) (aa_cons (av 1) aa_nil))) (ag_tup rfl (ags_cons (ag_name 10 sc.nd rfl (Or.inl rfl)) (ags_cons (ag_name 11 sc.nd rfl (Or.inl rfl)) ags_nil))))
      (ass_cons (as_set (i := 8) sc.nd rfl (Or.inl rfl) (ae_lst aa_nil))
      (ass_cons (as_for .never rfl (ai_seq (av 11)) (ag_name 9 sc.nd rfl (Or.inl rfl)) (ass_cons (as_set (i := 12) sc.nd rfl (Or.inl rfl) (ae_fn (ok_law_draw T) (hr.mono (by decide)) rfl T.law_draw.mg T.law_draw.kp T.law_draw.bi (aa_cons (av 0) (aa_consD ae_int aa_nil))))
      (ass_one (as_if (at_eq hr (av 12) ae_int) (ass_one (as_expr (ae_mut 8 PySem.F.slot_list_append PySem.F.type_list_append mt_append (ms_append _) (aa_consD (ae_add (ae_add ae_int (ae_mul ae_int (ae_fn (ok_law_draw T) (hr.mono (by decide)) rfl T.law_draw.mg T.law_draw.kp T.law_draw.bi (aa_cons (av 0) (aa_consD ae_int aa_nil))))) (ae_mul ae_int (ae_fn (ok_law_draw T) (hr.mono (by decide)) rfl T.law_draw.mg T.law_draw.kp T.law_draw.bi (aa_cons (av 0) (aa_consD ae_int aa_nil))))) aa_nil)))) (ass_one (as_if (AW.at' (aw_and (at_lt (av 12) ae_int) (aw_and1 (at_tru (av 4))))) (ass_one (as_expr (ae_mut 8 PySem.F.slot_list_append PySem.F.type_list_append mt_append (ms_append _) (aa_consD (ae_fn (ok_law_pick T) (hr.mono (by decide)) rfl T.law_pick.mg T.law_pick.kp T.law_pick.bi (aa_cons (av 0) (aa_cons (av 4) aa_nil))) aa_nil)))) (ass_cons (as_expr (ae_mut 4 PySem.F.slot_list_append PySem.F.type_list_append mt_append (ms_append _) (aa_consD (ae_sub (ae_neg ae_int) (ae_mod (ae_rdT call_int1 (rs_int _) rfl T.no_int (by decide +kernel) (ae_add (ae_mul (ae_rdB call_len (rs_len _) rfl T.no_len (by decide +kernel) (av 4)) (av 6)) (av 7))) ae_int)) aa_nil)))
      (ass_one (as_expr (ae_mut 8 PySem.F.slot_list_append PySem.F.type_list_append mt_append (ms_append _) (aa_consD (ae_ix hr (av 4) (ae_neg ae_int)) aa_nil)))))))))))
      (ass_one (as_if (at_notIn hr (ae_tup (aa_consD (av 10) (aa_consD (ae_rdT call_tuple_of (rs_tuple _) rfl T.no_tuple (by decide +kernel) (av 8)) aa_nil))) (av 3)) (ass_one (as_expr (ae_mut 3 PySem.F.slot_list_append PySem.F.type_list_append mt_append (ms_append _) (aa_consD (ae_tup (aa_consD (av 10) (aa_consD (ae_rdT call_tuple_of (rs_tuple _) rfl T.no_tuple (by decide +kernel) (av 8)) aa_nil))) aa_nil)))) ass_nil))))))
      (ass_one (as_ret (ae_rdT call_tuple_of (rs_tuple _) rfl T.no_tuple (by decide +kernel) (av 3))))))))) p_law_asked
abbrev N_law_begin : List Str := ["script", "cells", "cell"]
theorem sc_law_begin : FnScope N_law_begin ["script"] (defScope st_law_begin) := ⟨rfl, rfl, rfl, by decide +kernel, rfl, by decide +kernel, by decide +kernel⟩
theorem ok_law_begin (T : Txt K mg Z) : FnOk P w K mg base CX0 1 Z.f_law_begin Z.fd_law_begin ["script"] (toSp K S_law_begin) :=
  fn_of (N := N_law_begin) (B := B_law_begin) (a := a_law_begin) (k := 0) T.law_begin.fn sc_law_begin (by decide) (fun cdv A outer s H E hr => have sc := sc_law_begin; by
    unfold a_law_begin law_begin_0_0 law_begin_0_1 law_begin_0_2 law_begin_1_0
    exact (ass_cons (as_set (i := 1) sc.nd rfl (Or.inl rfl) (ae_lst aa_nil))
      (ass_cons (as_for .never rfl (ai_seq (ae_sl (av 0) ao_none (ao_some ae_int))) (ag_name 2 sc.nd rfl (Or.inl rfl)) (ass_one (as_expr (ae_mut 1 PySem.F.slot_list_append PySem.F.type_list_append mt_append (ms_append _) (aa_consD (ae_if (at_ge (av 2) ae_int) (ae_mul ae_int (av 2)) (ae_add (ae_mul (ae_neg ae_int) (av 2)) ae_int)) aa_nil)))))
      (ass_one (as_ret (ae_disp (aps_cons ae_str (av 1) (aps_cons ae_str ae_int (aps_cons ae_str ae_int (aps_cons ae_str ae_int (aps_cons ae_str ae_int aps_nil))))))))))) p_law_begin
abbrev N_law_cells : List Str := ["d", "variables", "way", "low", "told", "term", "at", "span"]
theorem sc_law_cells : FnScope N_law_cells ["d", "variables"] (defScope st_law_cells) := ⟨rfl, rfl, rfl, by decide +kernel, rfl, by decide +kernel, by decide +kernel⟩
theorem ok_law_cells (T : Txt K mg Z) : FnOk P w K mg base CX0 2 Z.f_law_cells Z.fd_law_cells ["d", "variables"] (toSp K S_law_cells) :=
  fn_of (N := N_law_cells) (B := B_law_cells) (a := a_law_cells) (k := 1) T.law_cells.fn sc_law_cells (by decide) (fun cdv A outer s H E hr => have sc := sc_law_cells; by
    unfold a_law_cells law_cells_0_0 law_cells_0_1 law_cells_0_2 law_cells_0_3 law_cells_0_4 law_cells_1_0 law_cells_3_0 law_cells_4_0 law_cells_4_1 law_cells_4_2 law_cells_5_0 law_cells_2_0
    exact (ass_cons (as_set (i := 2) sc.nd rfl (Or.inl rfl) (ae_fn (ok_law_draw T) (hr.mono (by decide)) rfl T.law_draw.mg T.law_draw.kp T.law_draw.bi (aa_cons (av 0) (aa_consD ae_int aa_nil))))
      (ass_cons (as_set (i := 3) sc.nd rfl (Or.inl rfl) (ae_mul ae_int (ae_fn (ok_law_draw T) (hr.mono (by decide)) rfl T.law_draw.mg T.law_draw.kp T.law_draw.bi (aa_cons (av 0) (aa_consD ae_int aa_nil)))))
      (ass_cons (as_set (i := 4) sc.nd rfl (Or.inl rfl) ae_newK)
      (ass_cons (as_for .never rfl (ai_seq (av 1)) (ag_name 5 sc.nd rfl (Or.inl rfl)) (ass_one (as_if (at_eq hr (av 2) ae_int) (ass_one (as_asg (ae_tup (aa_consD (av 3) (aa_consD (ae_add (av 3) ae_int) aa_nil))) (ag_sub hr (av 4) (av 5)))) (ass_one (as_if (AW.at' (aw_and (at_eq hr (av 2) ae_int) (aw_and1 (at_gt (ae_fn (ok_law_draw T) (hr.mono (by decide)) rfl T.law_draw.mg T.law_draw.kp T.law_draw.bi (aa_cons (av 0) (aa_consD ae_int aa_nil))) ae_int)))) (ass_cons (as_set (i := 6) sc.nd rfl (Or.inl rfl) (ae_fn (ok_law_draw T) (hr.mono (by decide)) rfl T.law_draw.mg T.law_draw.kp T.law_draw.bi (aa_cons (av 0) (aa_consD ae_int aa_nil))))
      (ass_cons (as_set (i := 7) sc.nd rfl (Or.inl rfl) (ae_tup (aa_consD (ae_mul ae_int (av 6)) (aa_consD (ae_mul ae_int (ae_add (ae_add (av 6) ae_int) (ae_fn (ok_law_draw T) (hr.mono (by decide)) rfl T.law_draw.mg T.law_draw.kp T.law_draw.bi (aa_cons (av 0) (aa_consD (ae_sub ae_int (av 6)) aa_nil))))) aa_nil))))
      (ass_one (as_if (at_ne hr (av 7) (ae_tup (aa_consD ae_int (aa_consD ae_int aa_nil)))) (ass_one (as_asg (av 7) (ag_sub hr (av 4) (av 5)))) ass_nil)))) ass_nil)))))
      (ass_one (as_ret (av 4)))))))) p_law_cells
abbrev N_law_is_int : List Str := ["thing"]
theorem sc_law_is_int : FnScope N_law_is_int ["thing"] (defScope st_law_is_int) := ⟨rfl, rfl, rfl, by decide +kernel, rfl, by decide +kernel, by decide +kernel⟩
theorem ok_law_is_int (T : Txt K mg Z) : FnOk P w K mg base CX0 1 Z.f_law_is_int Z.fd_law_is_int ["thing"] (toSp K S_law_is_int) :=
  fn_of (N := N_law_is_int) (B := B_law_is_int) (a := a_law_is_int) (k := 0) T.law_is_int.fn sc_law_is_int (by decide) (fun cdv A outer s H E hr => have sc := sc_law_is_int; by
    unfold a_law_is_int law_is_int_0_0
    exact (ass_one (as_ret (ae_and (ae_isi (T := "int") (av 0) rfl T.no_isinstance rfl T.no_int (by decide +kernel)) (ae_one (ae_notB (ae_isi (T := "bool") (av 0) rfl T.no_isinstance rfl T.no_bool (by decide +kernel)))))))) p_law_is_int
abbrev N_law_valued : List Str := ["terms", "told", "term"]
theorem sc_law_valued : FnScope N_law_valued ["terms", "told"] (defScope st_law_valued) := ⟨rfl, rfl, rfl, by decide +kernel, rfl, by decide +kernel, by decide +kernel⟩
theorem ok_law_valued (T : Txt K mg Z) : FnOk P w K mg base CX0 1 Z.f_law_valued Z.fd_law_valued ["terms", "told"] (toSp K S_law_valued) :=
  fn_of (N := N_law_valued) (B := B_law_valued) (a := a_law_valued) (k := 0) T.law_valued.fn sc_law_valued (by decide) (fun cdv A outer s H E hr => have sc := sc_law_valued; by
    unfold a_law_valued law_valued_0_0
    exact (ass_one (as_ret (ae_rdT call_tuple_of (rs_tuple _) rfl T.no_tuple (by decide +kernel) (ae_lc (own := [("term", 2)]) rfl sc.nd (ai_seq (av 0)) (blkOk_by (own := [("term", 2)]) (N := N_law_valued) (sc := (defScope st_law_valued)) (by first | decide +kernel | rfl)) gloc_name (fun _ _ _ _ _ => (ag_name 2 sc.nd rfl (Or.inl rfl))) (fun _ _ _ _ _ => ats_nil) (fun _ _ _ _ _ => (ae_if (at_ge (av 2) ae_int) (av 2) (ae_ix hr (av 1) (av 2))))))))) p_law_valued
abbrev N_law_is_frozen : List Str := ["told", "variables", "spans", "needs", "used", "term", "pair", "value", "low", "high", "one", "other"]
theorem sc_law_is_frozen : FnScope N_law_is_frozen ["told", "variables", "spans", "needs"] (defScope st_law_is_frozen) := ⟨rfl, rfl, rfl, by decide +kernel, rfl, by decide +kernel, by decide +kernel⟩
theorem ok_law_is_frozen (T : Txt K mg Z) : FnOk P w K mg base CX0 2 Z.f_law_is_frozen Z.fd_law_is_frozen ["told", "variables", "spans", "needs"] (toSp K S_law_is_frozen) :=
  fn_of (N := N_law_is_frozen) (B := B_law_is_frozen) (a := a_law_is_frozen) (k := 1) T.law_is_frozen.fn sc_law_is_frozen (by decide) (fun cdv A outer s H E hr => have sc := sc_law_is_frozen; by
    unfold a_law_is_frozen law_is_frozen_0_0 law_is_frozen_0_1 law_is_frozen_0_2 law_is_frozen_0_3 law_is_frozen_0_4 law_is_frozen_4_0 law_is_frozen_4_1 law_is_frozen_5_0 law_is_frozen_2_0 law_is_frozen_2_1 law_is_frozen_2_2 law_is_frozen_2_3 law_is_frozen_3_0 law_is_frozen_1_0
    exact (ass_cons (as_if (AW.at' (aw_or (at_not (at_tru (ae_isi (T := "dict") (av 0) rfl T.no_isinstance rfl T.no_dict (by decide +kernel)))) (aw_or1 (at_ne hr (ae_rdB (cr_sortKR rfl hr) (rs_sortK _) rfl T.no_sorted (by decide +kernel) (av 0)) (ae_rdB (cr_sortR hr) (rs_sortD _) rfl T.no_sorted (by decide +kernel) (av 1)))))) (ass_one (as_ret ae_bl)) ass_nil)
      (ass_cons (as_set (i := 4) sc.nd rfl (Or.inl rfl) (ae_lst aa_nil))
      (ass_cons (as_for .never rfl (ai_seq (av 1)) (ag_name 5 sc.nd rfl (Or.inl rfl)) (ass_cons (as_asg (ae_get hr (av 2) (av 5) (ae_tup (aa_consD ae_int (aa_consD ae_int aa_nil)))) (ag_tup rfl (ags_cons (ag_name 8 sc.nd rfl (Or.inl rfl)) (ags_cons (ag_name 9 sc.nd rfl (Or.inl rfl)) ags_nil))))
      (ass_cons (as_set (i := 7) sc.nd rfl (Or.inl rfl) (ae_ix hr (av 0) (av 5)))
      (ass_cons (as_if (AW.at' (aw_or (at_not (at_tru (ae_fn (ok_law_is_int T) (hr.mono (by decide)) rfl T.law_is_int.mg T.law_is_int.kp T.law_is_int.bi (aa_consD (av 7) aa_nil)))) (aw_or (at_not (at_chain op_le os_b0 op_lt os_b0 (av 8) (av 7) (av 9))) (aw_or (at_eq hr (ae_mod (ae_rdT call_int1 (rs_int _) rfl T.no_int (by decide +kernel) (av 7)) ae_int) ae_int) (aw_or1 (at_in hr (av 7) (av 4))))))) (ass_one (as_ret ae_bl)) ass_nil)
      (ass_one (as_expr (ae_mut 4 PySem.F.slot_list_append PySem.F.type_list_append mt_append (ms_append _) (aa_consD (av 7) aa_nil))))))))
      (ass_cons (as_for .never rfl (ai_seq (av 3)) (ag_name 6 sc.nd rfl (Or.inl rfl)) (ass_cons (as_asg (ae_fn (ok_law_valued T) (hr.mono (by decide)) rfl T.law_valued.mg T.law_valued.kp T.law_valued.bi (aa_consD (av 6) (aa_cons (av 0) aa_nil))) (ag_tup rfl (ags_cons (ag_name 10 sc.nd rfl (Or.inl rfl)) (ags_cons (ag_name 11 sc.nd rfl (Or.inl rfl)) ags_nil))))
      (ass_one (as_if (at_ge (av 10) (av 11)) (ass_one (as_ret ae_bl)) ass_nil))))
      (ass_one (as_ret ae_bl))))))) p_law_is_frozen
abbrev N_law_least_values : List Str := ["variables", "spans", "told", "used", "term", "value", "step"]
theorem sc_law_least_values : FnScope N_law_least_values ["variables", "spans"] (defScope st_law_least_values) := ⟨rfl, rfl, rfl, by decide +kernel, rfl, by decide +kernel, by decide +kernel⟩
theorem ok_law_least_values (T : Txt K mg Z) : FnOk P w K mg base CX0 1 Z.f_law_least_values Z.fd_law_least_values ["variables", "spans"] (toSp K S_law_least_values) :=
  fn_of (N := N_law_least_values) (B := B_law_least_values) (a := a_law_least_values) (k := 0) T.law_least_values.fn sc_law_least_values (by decide) (fun cdv A outer s H E hr => have sc := sc_law_least_values; by
    unfold a_law_least_values law_least_values_0_0 law_least_values_0_1 law_least_values_0_2 law_least_values_0_3 law_least_values_1_0 law_least_values_1_1 law_least_values_1_2 law_least_values_1_3 law_least_values_2_0 law_least_values_2_1 law_least_values_3_0
    exact (ass_cons (as_set (i := 2) sc.nd rfl (Or.inl rfl) ae_newK)
      (ass_cons (as_set (i := 3) sc.nd rfl (Or.inl rfl) (ae_lst aa_nil))
      (ass_cons (as_for .never rfl (ai_seq (av 0)) (ag_name 4 sc.nd rfl (Or.inl rfl)) (ass_cons (as_set (i := 5) sc.nd rfl (Or.inl rfl) (ae_ix hr (ae_get hr (av 1) (av 4) (ae_tup (aa_consD ae_int (aa_consD ae_int aa_nil)))) ae_int))
      (ass_cons (as_for .never rfl (ai_range1 rfl T.no_range (aa_consD ae_int aa_nil)) (ag_name 6 sc.nd rfl (Or.inl rfl)) (ass_cons (as_if (AW.at' (aw_and (at_gt (ae_mod (ae_rdT call_int1 (rs_int _) rfl T.no_int (by decide +kernel) (av 5)) ae_int) ae_int) (aw_and1 (at_notIn hr (av 5) (av 3))))) (ass_one as_break) ass_nil)
      (ass_one (as_set (i := 5) sc.nd rfl (Or.inl rfl) (ae_add (av 5) ae_int)))))
      (ass_cons (as_asg (av 5) (ag_sub hr (av 2) (av 4)))
      (ass_one (as_expr (ae_mut 3 PySem.F.slot_list_append PySem.F.type_list_append mt_append (ms_append _) (aa_consD (av 5) aa_nil))))))))
      (ass_one (as_ret (av 2))))))) p_law_least_values
abbrev N_law_meeting : List Str := ["d", "variables", "told", "term"]
theorem sc_law_meeting : FnScope N_law_meeting ["d", "variables"] (defScope st_law_meeting) := ⟨rfl, rfl, rfl, by decide +kernel, rfl, by decide +kernel, by decide +kernel⟩
theorem ok_law_meeting (T : Txt K mg Z) : FnOk P w K mg base CX0 3 Z.f_law_meeting Z.fd_law_meeting ["d", "variables"] (toSp K S_law_meeting) :=
  fn_of (N := N_law_meeting) (B := B_law_meeting) (a := a_law_meeting) (k := 2) T.law_meeting.fn sc_law_meeting (by decide) (fun cdv A outer s H E hr => have sc := sc_law_meeting; by
    unfold a_law_meeting law_meeting_0_0 law_meeting_0_1 law_meeting_0_2 law_meeting_1_0
    exact (ass_cons (as_set (i := 2) sc.nd rfl (Or.inl rfl) ae_newK)
      (ass_cons (as_for .never rfl (ai_seq (av 1)) (ag_name 3 sc.nd rfl (Or.inl rfl)) (ass_one (as_asg (ae_fn (ok_law_pick T) (hr.mono (by decide)) rfl T.law_pick.mg T.law_pick.kp T.law_pick.bi (aa_cons (av 0) (aa_consD (ae_lst (aa_consD ae_int (aa_consD ae_int (aa_consD ae_int (aa_consD ae_int (aa_consD ae_int aa_nil)))))) aa_nil))) (ag_sub hr (av 2) (av 3)))))
      (ass_one (as_ret (av 2)))))) p_law_meeting
abbrev N_law_mixed : List Str := ["d", "row", "left", "told", "turn"]
theorem sc_law_mixed : FnScope N_law_mixed ["d", "row"] (defScope st_law_mixed) := ⟨rfl, rfl, rfl, by decide +kernel, rfl, by decide +kernel, by decide +kernel⟩
theorem ok_law_mixed (T : Txt K mg Z) : FnOk P w K mg base CX0 2 Z.f_law_mixed Z.fd_law_mixed ["d", "row"] (toSp K S_law_mixed) :=
  fn_of (N := N_law_mixed) (B := B_law_mixed) (a := a_law_mixed) (k := 1) T.law_mixed.fn sc_law_mixed (by decide) (fun cdv A outer s H E hr => have sc := sc_law_mixed; by
    unfold a_law_mixed law_mixed_0_0 law_mixed_0_1 law_mixed_0_2 law_mixed_0_3 law_mixed_1_0
    exact (ass_cons (as_set (i := 2) sc.nd rfl (Or.inl rfl) (ae_rdT call_list_of (rs_list _) rfl T.no_list (by decide +kernel) (av 1)))
      (ass_cons (as_set (i := 3) sc.nd rfl (Or.inl rfl) (ae_lst aa_nil))
      (ass_cons (as_for .never rfl (ai_range1 rfl T.no_range (aa_consD (ae_rdB call_len (rs_len _) rfl T.no_len (by decide +kernel) (av 1)) aa_nil)) (ag_name 4 sc.nd rfl (Or.inl rfl)) (ass_one (as_expr (ae_mut 3 PySem.F.slot_list_append PySem.F.type_list_append mt_append (ms_append _) (aa_consD (ae_mut 2 PySem.F.slot_list_pop PySem.F.type_list_pop mt_popAt (ms_popAt _) (aa_consD (ae_fn (ok_law_draw T) (hr.mono (by decide)) rfl T.law_draw.mg T.law_draw.kp T.law_draw.bi (aa_cons (av 0) (aa_consD (ae_rdB call_len (rs_len _) rfl T.no_len (by decide +kernel) (av 2)) aa_nil))) aa_nil)) aa_nil)))))
      (ass_one (as_ret (av 3))))))) p_law_mixed
abbrev N_law_needs : List Str := ["d", "rows", "values", "terms", "row", "told", "turn", "term", "pair", "one", "other"]
theorem sc_law_needs : FnScope N_law_needs ["d", "rows", "values"] (defScope st_law_needs) := ⟨rfl, rfl, rfl, by decide +kernel, rfl, by decide +kernel, by decide +kernel⟩
theorem ok_law_needs (T : Txt K mg Z) : FnOk P w K mg base CX0 3 Z.f_law_needs Z.fd_law_needs ["d", "rows", "values"] (toSp K S_law_needs) :=
  fn_of (N := N_law_needs) (B := B_law_needs) (a := a_law_needs) (k := 2) T.law_needs.fn sc_law_needs (by decide) (fun cdv A outer s H E hr => have sc := sc_law_needs; by
    unfold a_law_needs law_needs_0_0 law_needs_0_1 law_needs_0_2 law_needs_0_3 law_needs_0_4 law_needs_4_0 law_needs_5_0 law_needs_5_1 law_needs_5_2 law_needs_7_0 law_needs_8_0 law_needs_6_0 law_needs_1_0 law_needs_2_0 law_needs_3_0
    exact (ass_cons (as_set (i := 3) sc.nd rfl (Or.inl rfl) (ae_lst aa_nil))
      (ass_cons (as_for .never rfl (ai_seq (av 1)) (ag_name 4 sc.nd rfl (Or.inl rfl)) (ass_one (as_for .never rfl (ai_seq (ae_ix hr (av 4) ae_int)) (ag_name 7 sc.nd rfl (Or.inl rfl)) (ass_one (as_if (at_notIn hr (av 7) (av 3)) (ass_one (as_expr (ae_mut 3 PySem.F.slot_list_append PySem.F.type_list_append mt_append (ms_append _) (aa_consD (av 7) aa_nil)))) ass_nil)))))
      (ass_cons (as_set (i := 5) sc.nd rfl (Or.inl rfl) (ae_lst aa_nil))
      (ass_cons (as_for .never rfl (ai_range1 rfl T.no_range (aa_consD (ae_fn (ok_law_draw T) (hr.mono (by decide)) rfl T.law_draw.mg T.law_draw.kp T.law_draw.bi (aa_cons (av 0) (aa_consD ae_int aa_nil))) aa_nil)) (ag_name 6 sc.nd rfl (Or.inl rfl)) (ass_one (as_if (at_gt (ae_rdB call_len (rs_len _) rfl T.no_len (by decide +kernel) (av 3)) ae_int) (ass_cons (as_set (i := 8) sc.nd rfl (Or.inl rfl) (ae_fn (ok_law_mixed T) (hr.mono (by decide)) rfl T.law_mixed.mg T.law_mixed.kp T.law_mixed.bi (aa_cons (av 0) (aa_consD (ae_lst (aa_consD (ae_fn (ok_law_pick T) (hr.mono (by decide)) rfl T.law_pick.mg T.law_pick.kp T.law_pick.bi (aa_cons (av 0) (aa_cons (av 3) aa_nil))) (aa_consD (ae_fn (ok_law_pick T) (hr.mono (by decide)) rfl T.law_pick.mg T.law_pick.kp T.law_pick.bi (aa_cons (av 0) (aa_cons (av 3) aa_nil))) aa_nil))) aa_nil))))
      (ass_cons (as_asg (ae_fn (ok_law_valued T) (hr.mono (by decide)) rfl T.law_valued.mg T.law_valued.kp T.law_valued.bi (aa_consD (ae_rdT call_tuple_of (rs_tuple _) rfl T.no_tuple (by decide +kernel) (av 8)) (aa_cons (av 2) aa_nil))) (ag_tup rfl (ags_cons (ag_name 9 sc.nd rfl (Or.inl rfl)) (ags_cons (ag_name 10 sc.nd rfl (Or.inl rfl)) ags_nil))))
      (ass_one (as_if (at_lt (av 9) (av 10)) (ass_one (as_expr (ae_mut 5 PySem.F.slot_list_append PySem.F.type_list_append mt_append (ms_append _) (aa_consD (ae_tup (aa_consD (ae_ix hr (av 8) ae_int) (aa_consD (ae_ix hr (av 8) ae_int) aa_nil))) aa_nil)))) (ass_one (as_if (at_lt (av 10) (av 9)) (ass_one (as_expr (ae_mut 5 PySem.F.slot_list_append PySem.F.type_list_append mt_append (ms_append _) (aa_consD (ae_tup (aa_consD (ae_ix hr (av 8) ae_int) (aa_consD (ae_ix hr (av 8) ae_int) aa_nil))) aa_nil)))) ass_nil)))))) ass_nil)))
      (ass_one (as_ret (av 5)))))))) p_law_needs
abbrev N_law_own : List Str := ["d", "variables", "spans", "told", "used", "term", "value", "step", "low", "high"]
theorem sc_law_own : FnScope N_law_own ["d", "variables", "spans"] (defScope st_law_own) := ⟨rfl, rfl, rfl, by decide +kernel, rfl, by decide +kernel, by decide +kernel⟩
theorem ok_law_own (T : Txt K mg Z) : FnOk P w K mg base CX0 2 Z.f_law_own Z.fd_law_own ["d", "variables", "spans"] (toSp K S_law_own) :=
  fn_of (N := N_law_own) (B := B_law_own) (a := a_law_own) (k := 1) T.law_own.fn sc_law_own (by decide) (fun cdv A outer s H E hr => have sc := sc_law_own; by
    unfold a_law_own law_own_0_0 law_own_0_1 law_own_0_2 law_own_0_3 law_own_1_0 law_own_1_1 law_own_1_2 law_own_1_3 law_own_1_4 law_own_2_0 law_own_2_1 law_own_3_0
    exact (ass_cons (as_set (i := 3) sc.nd rfl (Or.inl rfl) ae_newK)
      (ass_cons (as_set (i := 4) sc.nd rfl (Or.inl rfl) (ae_lst aa_nil))
      (ass_cons (as_for .never rfl (ai_seq (av 1)) (ag_name 5 sc.nd rfl (Or.inl rfl)) (ass_cons (as_asg (ae_get hr (av 2) (av 5) (ae_tup (aa_consD ae_int (aa_consD ae_int aa_nil)))) (ag_tup rfl (ags_cons (ag_name 8 sc.nd rfl (Or.inl rfl)) (ags_cons (ag_name 9 sc.nd rfl (Or.inl rfl)) ags_nil))))
      (ass_cons (as_set (i := 6) sc.nd rfl (Or.inl rfl) (ae_add (av 8) (ae_fn (ok_law_draw T) (hr.mono (by decide)) rfl T.law_draw.mg T.law_draw.kp T.law_draw.bi (aa_cons (av 0) (aa_consD (ae_sub (av 9) (av 8)) aa_nil)))))
      (ass_cons (as_for .never rfl (ai_range1 rfl T.no_range (aa_consD ae_int aa_nil)) (ag_name 7 sc.nd rfl (Or.inl rfl)) (ass_cons (as_if (AW.at' (aw_and (at_gt (ae_mod (ae_rdT call_int1 (rs_int _) rfl T.no_int (by decide +kernel) (av 6)) ae_int) ae_int) (aw_and1 (at_notIn hr (av 6) (av 4))))) (ass_one as_break) ass_nil)
      (ass_one (as_set (i := 6) sc.nd rfl (Or.inl rfl) (ae_if (at_lt (ae_add (av 6) ae_int) (av 9)) (ae_add (av 6) ae_int) (av 8))))))
      (ass_cons (as_asg (av 6) (ag_sub hr (av 3) (av 5)))
      (ass_one (as_expr (ae_mut 4 PySem.F.slot_list_append PySem.F.type_list_append mt_append (ms_append _) (aa_consD (av 6) aa_nil)))))))))
      (ass_one (as_ret (av 3))))))) p_law_own
abbrev N_law_ranks : List Str := ["d", "told", "turn", "rank", "at"]
theorem sc_law_ranks : FnScope N_law_ranks ["d"] (defScope st_law_ranks) := ⟨rfl, rfl, rfl, by decide +kernel, rfl, by decide +kernel, by decide +kernel⟩
theorem ok_law_ranks (T : Txt K mg Z) : FnOk P w K mg base CX0 2 Z.f_law_ranks Z.fd_law_ranks ["d"] (toSp K S_law_ranks) :=
  fn_of (N := N_law_ranks) (B := B_law_ranks) (a := a_law_ranks) (k := 1) T.law_ranks.fn sc_law_ranks (by decide) (fun cdv A outer s H E hr => have sc := sc_law_ranks; by
    unfold a_law_ranks law_ranks_0_0 law_ranks_0_1 law_ranks_0_2 law_ranks_1_0 law_ranks_1_1 law_ranks_2_0
    exact (ass_cons (as_set (i := 1) sc.nd rfl (Or.inl rfl) (ae_lst aa_nil))
      (ass_cons (as_for .never rfl (ai_range1 rfl T.no_range (aa_consD (ae_fn (ok_law_draw T) (hr.mono (by decide)) rfl T.law_draw.mg T.law_draw.kp T.law_draw.bi (aa_cons (av 0) (aa_consD ae_int aa_nil))) aa_nil)) (ag_name 2 sc.nd rfl (Or.inl rfl)) (ass_cons (as_set (i := 3) sc.nd rfl (Or.inl rfl) (ae_rdT call_tuple_of (rs_tuple _) rfl T.no_tuple (by decide +kernel) (ae_lc (own := [("at", 4)]) rfl sc.nd (ai_range1 rfl T.no_range (aa_consD (ae_fn (ok_law_draw T) (hr.mono (by decide)) rfl T.law_draw.mg T.law_draw.kp T.law_draw.bi (aa_cons (av 0) (aa_consD ae_int aa_nil))) aa_nil)) (blkOk_by (own := [("at", 4)]) (N := N_law_ranks) (sc := (defScope st_law_ranks)) (by first | decide +kernel | rfl)) gloc_name (fun _ _ _ _ _ => (ag_name 4 sc.nd rfl (Or.inl rfl))) (fun _ _ _ _ _ => ats_nil) (fun _ _ _ _ _ => (ae_fn (ok_law_draw T) (hr.mono (by decide)) rfl T.law_draw.mg T.law_draw.kp T.law_draw.bi (aa_cons (av 0) (aa_consD ae_int aa_nil)))))))
      (ass_one (as_if (at_notIn hr (av 3) (av 1)) (ass_one (as_expr (ae_mut 1 PySem.F.slot_list_append PySem.F.type_list_append mt_append (ms_append _) (aa_consD (av 3) aa_nil)))) ass_nil))))
      (ass_one (as_ret (ae_rdT call_tuple_of (rs_tuple _) rfl T.no_tuple (by decide +kernel) (av 1))))))) p_law_ranks
abbrev N_law_spoil : List Str := ["told", "variables", "term"]
theorem sc_law_spoil : FnScope N_law_spoil ["told", "variables"] (defScope st_law_spoil) := ⟨rfl, rfl, rfl, by decide +kernel, rfl, by decide +kernel, by decide +kernel⟩
theorem ok_law_spoil (T : Txt K mg Z) : FnOk P w K mg base CX0 1 Z.f_law_spoil Z.fd_law_spoil ["told", "variables"] (toSp K S_law_spoil) :=
  fn_of (N := N_law_spoil) (B := B_law_spoil) (a := a_law_spoil) (k := 0) T.law_spoil.fn sc_law_spoil (by decide) (fun cdv A outer s H E hr => have sc := sc_law_spoil; by
    unfold a_law_spoil law_spoil_0_0 law_spoil_0_1 law_spoil_1_0
    exact (ass_cons (as_for .never rfl (ai_seq (av 1)) (ag_name 2 sc.nd rfl (Or.inl rfl)) (ass_one (as_asg ae_int (ag_sub hr (av 0) (av 2)))))
      (ass_one (as_asg ae_int (ag_sub hr (av 0) (ae_neg ae_int)))))) p_law_spoil
abbrev N_law_names : List Str := ["d", "many", "letters", "told", "place", "name", "turn"]
theorem sc_law_names : FnScope N_law_names ["d", "many"] (defScope st_law_names) := ⟨rfl, rfl, rfl, by decide +kernel, rfl, by decide +kernel, by decide +kernel⟩
theorem ok_law_names (T : Txt K mg Z) : FnOk P w K mg base CX0 3 Z.f_law_names Z.fd_law_names ["d", "many"] (toSp K S_law_names) :=
  fn_of (N := N_law_names) (B := B_law_names) (a := a_law_names) (k := 2) T.law_names.fn sc_law_names (by decide) (fun cdv A outer s H E hr => have sc := sc_law_names; by
    unfold a_law_names law_names_0_0 law_names_0_1 law_names_0_2 law_names_0_3 law_names_1_0 law_names_1_1
    exact (ass_cons (as_set (i := 2) sc.nd rfl (Or.inr rfl) ae_str)
      (ass_cons (as_set (i := 3) sc.nd rfl (Or.inl rfl) (ae_lst aa_nil))
      (ass_cons (as_for .never rfl (ai_range1 rfl T.no_range (aa_consD (av 1) aa_nil)) (ag_name 4 sc.nd rfl (Or.inl rfl)) (ass_cons (as_set (i := 5) sc.nd rfl (Or.inl rfl) (ae_join (ae_lc (own := [("turn", 6)]) rfl sc.nd (ai_range1 rfl T.no_range (aa_consD (ae_fn (ok_law_draw T) (hr.mono (by decide)) rfl T.law_draw.mg T.law_draw.kp T.law_draw.bi (aa_cons (av 0) (aa_consD ae_int aa_nil))) aa_nil)) (blkOk_by (own := [("turn", 6)]) (N := N_law_names) (sc := (defScope st_law_names)) (by first | decide +kernel | rfl)) gloc_name (fun _ _ _ _ _ => (ag_name 6 sc.nd rfl (Or.inl rfl))) (fun _ _ _ _ _ => ats_nil) (fun _ _ _ _ _ => (ae_fn (ok_law_pick T) (hr.mono (by decide)) rfl T.law_pick.mg T.law_pick.kp T.law_pick.bi (aa_cons (av 0) (aa_cons (av 2) aa_nil)))))))
      (ass_one (as_expr (ae_mut 3 PySem.F.slot_list_append PySem.F.type_list_append mt_append (ms_append _) (aa_consD (ae_add (ae_add (av 5) ae_str) (ae_ix hr (av 2) (ae_mod (av 4) ae_int))) aa_nil))))))
      (ass_one (as_ret (av 3))))))) p_law_names
abbrev N_law_tables : List Str := ["d", "many", "least", "told", "name"]
theorem sc_law_tables : FnScope N_law_tables ["d", "many", "least"] (defScope st_law_tables) := ⟨rfl, rfl, rfl, by decide +kernel, rfl, by decide +kernel, by decide +kernel⟩
theorem ok_law_tables (T : Txt K mg Z) : FnOk P w K mg base CX0 4 Z.f_law_tables Z.fd_law_tables ["d", "many", "least"] (toSp K S_law_tables) :=
  fn_of (N := N_law_tables) (B := B_law_tables) (a := a_law_tables) (k := 3) T.law_tables.fn sc_law_tables (by decide) (fun cdv A outer s H E hr => have sc := sc_law_tables; by
    unfold a_law_tables law_tables_0_0 law_tables_0_1 law_tables_0_2 law_tables_1_0
    exact (ass_cons (as_set (i := 3) sc.nd rfl (Or.inl rfl) (ae_lst aa_nil))
      (ass_cons (as_for .never rfl (ai_seq (ae_fn (ok_law_names T) (hr.mono (by decide)) rfl T.law_names.mg T.law_names.kp T.law_names.bi (aa_cons (av 0) (aa_consD (av 1) aa_nil)))) (ag_name 4 sc.nd rfl (Or.inl rfl)) (ass_one (as_expr (ae_mut 3 PySem.F.slot_list_append PySem.F.type_list_append mt_append (ms_append _) (aa_consD (ae_tup (aa_consD (av 4) (aa_consD (ae_rdT call_tuple_of (rs_tuple _) rfl T.no_tuple (by decide +kernel) (ae_fn (ok_law_names T) (hr.mono (by decide)) rfl T.law_names.mg T.law_names.kp T.law_names.bi (aa_cons (av 0) (aa_consD (ae_add (av 2) (ae_fn (ok_law_draw T) (hr.mono (by decide)) rfl T.law_draw.mg T.law_draw.kp T.law_draw.bi (aa_cons (av 0) (aa_consD (ae_sub ae_int (av 2)) aa_nil)))) aa_nil)))) aa_nil))) aa_nil)))))
      (ass_one (as_ret (ae_rdT call_tuple_of (rs_tuple _) rfl T.no_tuple (by decide +kernel) (av 3))))))) p_law_tables
abbrev N_law_variables : List Str := ["rows", "told", "row", "term"]
theorem sc_law_variables : FnScope N_law_variables ["rows"] (defScope st_law_variables) := ⟨rfl, rfl, rfl, by decide +kernel, rfl, by decide +kernel, by decide +kernel⟩
theorem ok_law_variables (T : Txt K mg Z) : FnOk P w K mg base CX0 1 Z.f_law_variables Z.fd_law_variables ["rows"] (toSp K S_law_variables) :=
  fn_of (N := N_law_variables) (B := B_law_variables) (a := a_law_variables) (k := 0) T.law_variables.fn sc_law_variables (by decide) (fun cdv A outer s H E hr => have sc := sc_law_variables; by
    unfold a_law_variables law_variables_0_0 law_variables_0_1 law_variables_0_2 law_variables_1_0 law_variables_2_0 law_variables_3_0
    exact (ass_cons (as_set (i := 1) sc.nd rfl (Or.inl rfl) (ae_lst aa_nil))
      (ass_cons (as_for .never rfl (ai_seq (av 0)) (ag_name 2 sc.nd rfl (Or.inl rfl)) (ass_one (as_for .never rfl (ai_seq (ae_ix hr (av 2) ae_int)) (ag_name 3 sc.nd rfl (Or.inl rfl)) (ass_one (as_if (AW.at' (aw_and (at_lt (av 3) ae_int) (aw_and1 (at_notIn hr (av 3) (av 1))))) (ass_one (as_expr (ae_mut 1 PySem.F.slot_list_append PySem.F.type_list_append mt_append (ms_append _) (aa_consD (av 3) aa_nil)))) ass_nil)))))
      (ass_one (as_ret (av 1)))))) p_law_variables
abbrev N_World_size : List Str := ["self", "rows"]
theorem sc_World_size : FnScope N_World_size ["self"] (defScope st_World_size) := ⟨rfl, rfl, rfl, by decide +kernel, rfl, by decide +kernel, by decide +kernel⟩
theorem ok_World_size (T : Txt K mg Z) : FnOk P w K mg base CX0 1 Z.f_World_size Z.fd_World_size ["self"] (toSp K (S_World_size (⟨Z.C_Body, Z.C_House, Z.C_World⟩ : Cls))) :=
  fn_of (N := N_World_size) (B := B_World_size) (a := a_World_size (⟨Z.C_Body, Z.C_House, Z.C_World⟩ : Cls)) (k := 0) T.World_size.fn sc_World_size (by decide) (fun cdv A outer s H E hr => have sc := sc_World_size; by
    unfold a_World_size World_size_0_0
    exact (ass_one (as_ret (ae_rdB (cr_sum rfl) (rs_sum _) rfl T.no_sum (by decide +kernel) (ae_lc (own := [("rows", 1)]) rfl sc.nd (ai_vals (ae_fld T.c_World.cl T.n_World_tables (av 0))) (blkOk_by (own := [("rows", 1)]) (N := N_World_size) (sc := (defScope st_World_size)) (by first | decide +kernel | rfl)) gloc_name (fun _ _ _ _ _ => (ag_name 1 sc.nd rfl (Or.inl rfl))) (fun _ _ _ _ _ => ats_nil) (fun _ _ _ _ _ => (ae_rdB call_len (rs_len _) rfl T.no_len (by decide +kernel) (av 1)))))))) p_World_size
abbrev N_World_tree : List Str := ["self", "name"]
theorem sc_World_tree : FnScope N_World_tree ["self"] (defScope st_World_tree) := ⟨rfl, rfl, rfl, by decide +kernel, rfl, by decide +kernel, by decide +kernel⟩
theorem ok_World_tree (T : Txt K mg Z) : FnOk P w K mg base CX0 1 Z.f_World_tree Z.fd_World_tree ["self"] (toSp K (S_World_tree (⟨Z.C_Body, Z.C_House, Z.C_World⟩ : Cls))) :=
  fn_of (N := N_World_tree) (B := B_World_tree) (a := a_World_tree (⟨Z.C_Body, Z.C_House, Z.C_World⟩ : Cls)) (k := 0) T.World_tree.fn sc_World_tree (by decide) (fun cdv A outer s H E hr => have sc := sc_World_tree; by
    unfold a_World_tree World_tree_0_0
    exact (ass_one (as_ret (ae_tup (aa_consD (ae_rdT call_tuple_of (rs_tuple _) rfl T.no_tuple (by decide +kernel) (ae_lc (own := [("name", 1)]) rfl sc.nd (ai_seq (ae_rdB (cr_sortKR rfl hr) (rs_sortK _) rfl T.no_sorted (by decide +kernel) (ae_fld T.c_World.cl T.n_World_tables (av 0)))) (blkOk_by (own := [("name", 1)]) (N := N_World_tree) (sc := (defScope st_World_tree)) (by first | decide +kernel | rfl)) gloc_name (fun _ _ _ _ _ => (ag_name 1 sc.nd rfl (Or.inl rfl))) (fun _ _ _ _ _ => ats_nil) (fun _ _ _ _ _ => (ae_tup (aa_consD (av 1) (aa_consD (ae_ix hr (ae_fld T.c_World.cl T.n_World_tables (av 0)) (av 1)) aa_nil)))))) (aa_consD (ae_fld T.c_World.cl T.n_World_ranks (av 0)) aa_nil)))))) p_World_tree
abbrev N_law_unlike : List Str := ["row", "told", "thing"]
theorem sc_law_unlike : FnScope N_law_unlike ["row"] (defScope st_law_unlike) := ⟨rfl, rfl, rfl, by decide +kernel, rfl, by decide +kernel, by decide +kernel⟩
theorem ok_law_unlike (T : Txt K mg Z) : FnOk P w K mg base CX0 1 Z.f_law_unlike Z.fd_law_unlike ["row"] (toSp K S_law_unlike) :=
  fn_of (N := N_law_unlike) (B := B_law_unlike) (a := a_law_unlike) (k := 0) T.law_unlike.fn sc_law_unlike (by decide) (fun cdv A outer s H E hr => have sc := sc_law_unlike; by
    unfold a_law_unlike law_unlike_0_0 law_unlike_0_1 law_unlike_0_2 law_unlike_1_0 law_unlike_2_0
    exact (ass_cons (as_set (i := 1) sc.nd rfl (Or.inl rfl) (ae_lst aa_nil))
      (ass_cons (as_for .never rfl (ai_seq (av 0)) (ag_name 2 sc.nd rfl (Or.inl rfl)) (ass_one (as_if (at_notIn hr (av 2) (av 1)) (ass_one (as_expr (ae_mut 1 PySem.F.slot_list_append PySem.F.type_list_append mt_append (ms_append _) (aa_consD (av 2) aa_nil)))) ass_nil)))
      (ass_one (as_ret (av 1)))))) p_law_unlike
abbrev N_law_world_right : List Str := ["told", "tables", "pairs", "ranks", "due", "table", "part", "pair"]
theorem sc_law_world_right : FnScope N_law_world_right ["told", "tables", "pairs", "ranks"] (defScope st_law_world_right) := ⟨rfl, rfl, rfl, by decide +kernel, rfl, by decide +kernel, by decide +kernel⟩
theorem ok_law_world_right (T : Txt K mg Z) : FnOk P w K mg base CX0 2 Z.f_law_world_right Z.fd_law_world_right ["told", "tables", "pairs", "ranks"] (toSp K (S_law_world_right (⟨Z.C_Body, Z.C_House, Z.C_World⟩ : Cls))) :=
  fn_of (N := N_law_world_right) (B := B_law_world_right) (a := a_law_world_right (⟨Z.C_Body, Z.C_House, Z.C_World⟩ : Cls)) (k := 1) T.law_world_right.fn sc_law_world_right (by decide) (fun cdv A outer s H E hr => have sc := sc_law_world_right; by
    unfold a_law_world_right law_world_right_0_0 law_world_right_0_1 law_world_right_0_2 law_world_right_0_3 law_world_right_2_0 law_world_right_1_0
    exact (ass_cons (as_set (i := 4) sc.nd rfl (Or.inl rfl) (ae_lst aa_nil))
      (ass_cons (as_for .never rfl (ai_seq (av 1)) (ag_name 5 sc.nd rfl (Or.inr rfl)) (ass_one (as_expr (ae_mut 4 PySem.F.slot_list_append PySem.F.type_list_append mt_append (ms_append _) (aa_consD (ae_tup (aa_consD (ae_ix hr (av 5) ae_int) (aa_consD (ae_rdT call_tuple_of (rs_tuple _) rfl T.no_tuple (by decide +kernel) (ae_fn (ok_law_unlike T) (hr.mono (by decide)) rfl T.law_unlike.mg T.law_unlike.kp T.law_unlike.bi (aa_consD (ae_lc (own := [("pair", 7)]) rfl sc.nd (ai_seq (av 2)) (blkOk_by (own := [("pair", 7)]) (N := N_law_world_right) (sc := (defScope st_law_world_right)) (by first | decide +kernel | rfl)) gloc_name (fun _ _ _ _ _ => (ag_name 7 sc.nd rfl (Or.inl rfl))) (fun _ _ _ _ _ => (ats_one (at_eq hr (ae_ix hr (av 7) ae_int) (ae_ix hr (av 5) ae_int)))) (fun _ _ _ _ _ => (ae_ix hr (av 7) ae_int))) aa_nil))) aa_nil))) aa_nil)))))
      (ass_cons (as_if (AW.at' (aw_or (at_ne hr (ae_meth0 T.c_World.cl T.World_tree.me (ok_World_tree T) (hr.mono (by decide)) T.World_tree.bi (AE.frz (av 0))) (ae_tup (aa_consD (ae_rdT call_tuple_of (rs_tuple _) rfl T.no_tuple (by decide +kernel) (ae_rdB (cr_sortR hr) (rs_sortD _) rfl T.no_sorted (by decide +kernel) (av 4))) (aa_consD (av 3) aa_nil)))) (aw_or1 (at_ne hr (ae_meth0 T.c_World.cl T.World_size.me (ok_World_size T) (hr.mono (by decide)) T.World_size.bi (AE.frz (av 0))) (ae_rdB (cr_sum rfl) (rs_sum _) rfl T.no_sum (by decide +kernel) (ae_lc (own := [("part", 6)]) rfl sc.nd (ai_seq (av 4)) (blkOk_by (own := [("part", 6)]) (N := N_law_world_right) (sc := (defScope st_law_world_right)) (by first | decide +kernel | rfl)) gloc_name (fun _ _ _ _ _ => (ag_name 6 sc.nd rfl (Or.inl rfl))) (fun _ _ _ _ _ => ats_nil) (fun _ _ _ _ _ => (ae_rdB call_len (rs_len _) rfl T.no_len (by decide +kernel) (ae_ix hr (av 6) ae_int))))))))) (ass_one (as_ret ae_bl)) ass_nil)
      (ass_one (as_ret (ae_eq hr (ae_rdB (cr_sortKR rfl hr) (rs_sortK _) rfl T.no_sorted (by decide +kernel) (ae_fld T.c_World.cl T.n_World_tables (av 0))) (ae_rdB (cr_sortR hr) (rs_sortD _) rfl T.no_sorted (by decide +kernel) (ae_lc (own := [("table", 5)]) rfl sc.nd (ai_seq (av 1)) (blkOk_by (own := [("table", 5)]) (N := N_law_world_right) (sc := (defScope st_law_world_right)) (by first | decide +kernel | rfl)) gloc_name (fun _ _ _ _ _ => (ag_name 5 sc.nd rfl (Or.inl rfl))) (fun _ _ _ _ _ => ats_nil) (fun _ _ _ _ _ => (ae_ix hr (av 5) ae_int))))))))))) p_law_world_right
abbrev N_Body_span : List Str := ["self", "term"]
theorem sc_Body_span : FnScope N_Body_span ["self", "term"] (defScope st_Body_span) := ⟨rfl, rfl, rfl, by decide +kernel, rfl, by decide +kernel, by decide +kernel⟩
theorem ok_Body_span (T : Txt K mg Z) : FnOk P w K mg base CX0 1 Z.f_Body_span Z.fd_Body_span ["self", "term"] (toSp K (S_Body_span (⟨Z.C_Body, Z.C_House, Z.C_World⟩ : Cls))) :=
  fn_of (N := N_Body_span) (B := B_Body_span) (a := a_Body_span (⟨Z.C_Body, Z.C_House, Z.C_World⟩ : Cls)) (k := 0) T.Body_span.fn sc_Body_span (by decide) (fun cdv A outer s H E hr => have sc := sc_Body_span; by
    unfold a_Body_span Body_span_0_0 Body_span_0_1 Body_span_1_0
    exact (ass_cons (as_if (at_ge (av 1) ae_int) (ass_one (as_ret (ae_tup (aa_consD (av 1) (aa_consD (ae_add (av 1) ae_int) aa_nil))))) ass_nil)
      (ass_one (as_ret (ae_get hr (ae_fld T.c_Body.cl T.n_Body_spans (av 0)) (av 1) (ae_tup (aa_consD ae_int (aa_consD ae_int aa_nil)))))))) p_Body_span
abbrev N_Body_variables : List Str := ["self", "told", "row", "term"]
theorem sc_Body_variables : FnScope N_Body_variables ["self"] (defScope st_Body_variables) := ⟨rfl, rfl, rfl, by decide +kernel, rfl, by decide +kernel, by decide +kernel⟩
theorem ok_Body_variables (T : Txt K mg Z) : FnOk P w K mg base CX0 1 Z.f_Body_variables Z.fd_Body_variables ["self"] (toSp K (S_Body_variables (⟨Z.C_Body, Z.C_House, Z.C_World⟩ : Cls))) :=
  fn_of (N := N_Body_variables) (B := B_Body_variables) (a := a_Body_variables (⟨Z.C_Body, Z.C_House, Z.C_World⟩ : Cls)) (k := 0) T.Body_variables.fn sc_Body_variables (by decide) (fun cdv A outer s H E hr => have sc := sc_Body_variables; by
    unfold a_Body_variables Body_variables_0_0 Body_variables_0_1 Body_variables_0_2 Body_variables_1_0 Body_variables_2_0 Body_variables_3_0
    exact (ass_cons (as_set (i := 1) sc.nd rfl (Or.inl rfl) (ae_lst aa_nil))
      (ass_cons (as_for .never rfl (ai_seq (ae_fld T.c_Body.cl T.n_Body_rows (av 0))) (ag_name 2 sc.nd rfl (Or.inl rfl)) (ass_one (as_for .never rfl (ai_seq (ae_ix hr (av 2) ae_int)) (ag_name 3 sc.nd rfl (Or.inl rfl)) (ass_one (as_if (AW.at' (aw_and (at_lt (av 3) ae_int) (aw_and1 (at_notIn hr (av 3) (av 1))))) (ass_one (as_expr (ae_mut 1 PySem.F.slot_list_append PySem.F.type_list_append mt_append (ms_append _) (aa_consD (av 3) aa_nil)))) ass_nil)))))
      (ass_one (as_ret (av 1)))))) p_Body_variables
abbrev N_plain_from : List Str := ["low", "used", "told"]
theorem sc_plain_from : FnScope N_plain_from ["low", "used"] (defScope st_plain_from) := ⟨rfl, rfl, rfl, by decide +kernel, rfl, by decide +kernel, by decide +kernel⟩
theorem ok_plain_from (T : Txt K mg Z) : FnOk P w K mg base CX0 1 Z.f_plain_from Z.fd_plain_from ["low", "used"] (toSp K S_plain_from) :=
  fn_of (N := N_plain_from) (B := B_plain_from) (a := a_plain_from) (k := 0) T.plain_from.fn sc_plain_from (by decide) (fun cdv A outer s H E hr => have sc := sc_plain_from; by
    unfold a_plain_from plain_from_0_0 plain_from_0_1 plain_from_0_2 plain_from_1_0
    exact (ass_cons (as_set (i := 2) sc.nd rfl (Or.inl rfl) (av 0))
      (ass_cons (as_while .never (AW.at' (aw_or (at_eq hr (ae_mod (av 2) ae_int) ae_int) (aw_or1 (at_in hr (av 2) (av 1))))) (ass_one (as_set (i := 2) sc.nd rfl (Or.inl rfl) (ae_add (av 2) ae_int))))
      (ass_one (as_ret (av 2)))))) p_plain_from
abbrev N_value_of : List Str := ["values", "term"]
theorem sc_value_of : FnScope N_value_of ["values", "term"] (defScope st_value_of) := ⟨rfl, rfl, rfl, by decide +kernel, rfl, by decide +kernel, by decide +kernel⟩
theorem ok_value_of (T : Txt K mg Z) : FnOk P w K mg base CX0 1 Z.f_value_of Z.fd_value_of ["values", "term"] (toSp K S_value_of) :=
  fn_of (N := N_value_of) (B := B_value_of) (a := a_value_of) (k := 0) T.value_of.fn sc_value_of (by decide) (fun cdv A outer s H E hr => have sc := sc_value_of; by
    unfold a_value_of value_of_0_0
    exact (ass_one (as_ret (ae_if (at_ge (av 1) ae_int) (av 1) (ae_ix hr (av 0) (av 1)))))) p_value_of
abbrev N_put_needed : List Str := ["body", "needs", "values", "used", "pair", "turn", "term", "less", "greater", "low"]
theorem sc_put_needed : FnScope N_put_needed ["body", "needs", "values", "used"] (defScope st_put_needed) := ⟨rfl, rfl, rfl, by decide +kernel, rfl, by decide +kernel, by decide +kernel⟩
theorem ok_put_needed (T : Txt K mg Z) : FnOk P w K mg base CX0 2 Z.f_put_needed Z.fd_put_needed ["body", "needs", "values", "used"] (toSp K (S_put_needed (⟨Z.C_Body, Z.C_House, Z.C_World⟩ : Cls))) :=
  fn_of (N := N_put_needed) (B := B_put_needed) (a := a_put_needed (⟨Z.C_Body, Z.C_House, Z.C_World⟩ : Cls)) (k := 1) T.put_needed.fn sc_put_needed (by decide) (fun cdv A outer s H E hr => have sc := sc_put_needed; by
    unfold a_put_needed put_needed_0_0 put_needed_0_1 put_needed_4_0 put_needed_5_0 put_needed_6_0 put_needed_6_1 put_needed_6_2 put_needed_6_3 put_needed_1_0 put_needed_2_0 put_needed_3_0 put_needed_3_1
    exact (ass_cons (as_for .never rfl (ai_seq (av 1)) (ag_name 4 sc.nd rfl (Or.inl rfl)) (ass_one (as_for .never rfl (ai_seq (av 4)) (ag_name 6 sc.nd rfl (Or.inl rfl)) (ass_one (as_if (AW.at' (aw_and (at_lt (av 6) ae_int) (aw_and1 (at_notIn hr (av 6) (av 2))))) (ass_cons (as_asg (ae_fn (ok_plain_from T) (hr.mono (by decide)) rfl T.plain_from.mg T.plain_from.kp T.plain_from.bi (aa_consD (ae_ix hr (ae_meth T.c_Body.cl T.Body_span.me (ok_Body_span T) (hr.mono (by decide)) T.Body_span.bi (AE.frz (av 0)) (aa_consD (av 6) aa_nil)) ae_int) (aa_cons (av 3) aa_nil))) (ag_sub hr (av 2) (av 6)))
      (ass_one (as_asg ae_bl (ag_sub hr (av 3) (ae_ix hr (av 2) (av 6)))))) ass_nil)))))
      (ass_one (as_for .never rfl (ai_range1 rfl T.no_range (aa_consD ae_int aa_nil)) (ag_name 5 sc.nd rfl (Or.inl rfl)) (ass_one (as_for .never rfl (ai_seq (av 1)) (ag_tup rfl (ags_cons (ag_name 7 sc.nd rfl (Or.inl rfl)) (ags_cons (ag_name 8 sc.nd rfl (Or.inl rfl)) ags_nil))) (ass_one (as_if (AW.at' (aw_and (at_ge (ae_fn (ok_value_of T) (hr.mono (by decide)) rfl T.value_of.mg T.value_of.kp T.value_of.bi (aa_cons (av 2) (aa_consD (av 7) aa_nil))) (ae_fn (ok_value_of T) (hr.mono (by decide)) rfl T.value_of.mg T.value_of.kp T.value_of.bi (aa_cons (av 2) (aa_consD (av 8) aa_nil)))) (aw_and1 (at_lt (av 8) ae_int)))) (ass_cons (as_set (i := 9) sc.nd rfl (Or.inl rfl) (ae_callB (call_max2 rfl) (cs_max2 _) rfl T.no_max (by decide +kernel) (aa_consD (ae_ix hr (ae_meth T.c_Body.cl T.Body_span.me (ok_Body_span T) (hr.mono (by decide)) T.Body_span.bi (AE.frz (av 0)) (aa_consD (av 8) aa_nil)) ae_int) (aa_consD (ae_add (ae_fn (ok_value_of T) (hr.mono (by decide)) rfl T.value_of.mg T.value_of.kp T.value_of.bi (aa_cons (av 2) (aa_consD (av 7) aa_nil))) ae_int) aa_nil))))
      (ass_cons (as_expr (ae_pop2 3 (ae_ix hr (av 2) (av 8)) ae_non))
      (ass_cons (as_asg (ae_fn (ok_plain_from T) (hr.mono (by decide)) rfl T.plain_from.mg T.plain_from.kp T.plain_from.bi (aa_consD (av 9) (aa_cons (av 3) aa_nil))) (ag_sub hr (av 2) (av 8)))
      (ass_one (as_asg ae_bl (ag_sub hr (av 3) (ae_ix hr (av 2) (av 8)))))))) ass_nil)))))))) p_put_needed
abbrev N_freeze : List Str := ["body", "needs", "values", "used", "term"]
theorem sc_freeze : FnScope N_freeze ["body", "needs"] (defScope st_freeze) := ⟨rfl, rfl, rfl, by decide +kernel, rfl, by decide +kernel, by decide +kernel⟩
theorem ok_freeze (T : Txt K mg Z) : FnOk P w K mg base CX0 3 Z.f_freeze Z.fd_freeze ["body", "needs"] (toSp K (S_freeze (⟨Z.C_Body, Z.C_House, Z.C_World⟩ : Cls))) :=
  fn_of (N := N_freeze) (B := B_freeze) (a := a_freeze (⟨Z.C_Body, Z.C_House, Z.C_World⟩ : Cls)) (k := 2) T.freeze.fn sc_freeze (by decide) (fun cdv A outer s H E hr => have sc := sc_freeze; by
    unfold a_freeze freeze_0_0 freeze_0_1 freeze_0_2 freeze_0_3 freeze_0_4 freeze_1_0 freeze_2_0 freeze_2_1
    exact (ass_cons (as_set (i := 2) sc.nd rfl (Or.inl rfl) ae_newK)
      (ass_cons (as_set (i := 3) sc.nd rfl (Or.inl rfl) ae_newK)
      (ass_cons (as_expr (ae_fn (ok_put_needed T) (hr.mono (by decide)) rfl T.put_needed.mg T.put_needed.kp T.put_needed.bi (aa_consD (av 0) (aa_consD (av 1) (aa_cons (av 2) (aa_cons (av 3) aa_nil))))))
      (ass_cons (as_for .never rfl (ai_seq (ae_meth0 T.c_Body.cl T.Body_variables.me (ok_Body_variables T) (hr.mono (by decide)) T.Body_variables.bi (AE.frz (av 0)))) (ag_name 4 sc.nd rfl (Or.inl rfl)) (ass_one (as_if (at_notIn hr (av 4) (av 2)) (ass_cons (as_asg (ae_fn (ok_plain_from T) (hr.mono (by decide)) rfl T.plain_from.mg T.plain_from.kp T.plain_from.bi (aa_consD (ae_ix hr (ae_meth T.c_Body.cl T.Body_span.me (ok_Body_span T) (hr.mono (by decide)) T.Body_span.bi (AE.frz (av 0)) (aa_consD (av 4) aa_nil)) ae_int) (aa_cons (av 3) aa_nil))) (ag_sub hr (av 2) (av 4)))
      (ass_one (as_asg ae_bl (ag_sub hr (av 3) (ae_ix hr (av 2) (av 4)))))) ass_nil)))
      (ass_one (as_ret (av 2)))))))) p_freeze
abbrev N_frozen_rows : List Str := ["rows", "values", "table", "terms", "term"]
theorem sc_frozen_rows : FnScope N_frozen_rows ["rows", "values"] (defScope st_frozen_rows) := ⟨rfl, rfl, rfl, by decide +kernel, rfl, by decide +kernel, by decide +kernel⟩
theorem ok_frozen_rows (T : Txt K mg Z) : FnOk P w K mg base CX0 2 Z.f_frozen_rows Z.fd_frozen_rows ["rows", "values"] (toSp K S_frozen_rows) :=
  fn_of (N := N_frozen_rows) (B := B_frozen_rows) (a := a_frozen_rows) (k := 1) T.frozen_rows.fn sc_frozen_rows (by decide) (fun cdv A outer s H E hr => have sc := sc_frozen_rows; by
    unfold a_frozen_rows frozen_rows_0_0
    exact (ass_one (as_ret (ae_lc (own := [("table", 2), ("terms", 3)]) rfl sc.nd (ai_seq (av 0)) (blkOk_by (own := [("table", 2), ("terms", 3)]) (N := N_frozen_rows) (sc := (defScope st_frozen_rows)) (by first | decide +kernel | rfl)) (gloc_tup (gloc_cons gloc_name (gloc_cons gloc_name gloc_nil (gmono_name _) gmono_nil) (gmono_name _) (gmono_cons (gmono_name _) gmono_nil))) (fun _ _ _ _ _ => (ag_tup rfl (ags_cons (ag_name 2 sc.nd rfl (Or.inl rfl)) (ags_cons (ag_name 3 sc.nd rfl (Or.inl rfl)) ags_nil)))) (fun _ _ _ _ _ => ats_nil) (fun _ _ _ _ _ => (ae_tup (aa_consD (av 2) (aa_consD (ae_rdT call_tuple_of (rs_tuple _) rfl T.no_tuple (by decide +kernel) (ae_lc (own := [("term", 4)]) rfl sc.nd (ai_seq (av 3)) (blkOk_by (own := [("term", 4)]) (N := N_frozen_rows) (sc := _) (by first | decide +kernel | rfl)) gloc_name (fun _ _ _ _ _ => (ag_name 4 sc.nd rfl (Or.inl rfl))) (fun _ _ _ _ _ => ats_nil) (fun _ _ _ _ _ => (ae_fn (ok_value_of T) (hr.mono (by decide)) rfl T.value_of.mg T.value_of.kp T.value_of.bi (aa_cons (av 1) (aa_consD (av 4) aa_nil)))))) aa_nil)))))))) p_frozen_rows
abbrev N_World_init : List Str := ["self", "tables", "ranks"]
theorem sc_World_init : FnScope N_World_init ["self", "tables", "ranks"] (defScope st_World_init) := ⟨rfl, rfl, rfl, by decide +kernel, rfl, by decide +kernel, by decide +kernel⟩
theorem ok_World_init (T : Txt K mg Z) : FnOk P w K mg base CX0 1 Z.f_World_init Z.fd_World_init ["self", "tables", "ranks"] (toSp K (S_World_init (⟨Z.C_Body, Z.C_House, Z.C_World⟩ : Cls))) :=
  fn_of (N := N_World_init) (B := B_World_init) (a := a_World_init (⟨Z.C_Body, Z.C_House, Z.C_World⟩ : Cls)) (k := 0) T.c_World.fn sc_World_init (by decide) (fun cdv A outer s H E hr => have sc := sc_World_init; by
    unfold a_World_init World_init_0_0 World_init_0_1
    exact (ass_cons (as_fldset 0 T.c_World.cl T.n_World_tables (av 1))
      (ass_one (as_fldset 0 T.c_World.cl T.n_World_ranks (av 2))))) p_World_init
abbrev N_world_of : List Str := ["house", "pairs", "ranks", "tables", "name", "columns", "found", "table", "row"]
theorem sc_world_of : FnScope N_world_of ["house", "pairs", "ranks"] (defScope st_world_of) := ⟨rfl, rfl, rfl, by decide +kernel, rfl, by decide +kernel, by decide +kernel⟩
theorem ok_world_of (T : Txt K mg Z) : FnOk P w K mg base CX0 3 Z.f_world_of Z.fd_world_of ["house", "pairs", "ranks"] (toSp K (S_world_of (⟨Z.C_Body, Z.C_House, Z.C_World⟩ : Cls))) :=
  fn_of (N := N_world_of) (B := B_world_of) (a := a_world_of (⟨Z.C_Body, Z.C_House, Z.C_World⟩ : Cls)) (k := 2) T.world_of.fn sc_world_of (by decide) (fun cdv A outer s H E hr => have sc := sc_world_of; by
    unfold a_world_of world_of_0_0 world_of_0_1 world_of_0_2 world_of_1_0 world_of_1_1 world_of_1_2 world_of_2_0 world_of_3_0
    exact (ass_cons (as_set (i := 3) sc.nd rfl (Or.inl rfl) ae_newK)
      (ass_cons (as_for .never rfl (ai_seq (ae_fld T.c_House.cl T.n_House_tables (av 0))) (ag_tup rfl (ags_cons (ag_name 4 sc.nd rfl (Or.inl rfl)) (ags_cons (ag_name 5 sc.nd rfl (Or.inl rfl)) ags_nil))) (ass_cons (as_set (i := 6) sc.nd rfl (Or.inl rfl) (ae_lst aa_nil))
      (ass_cons (as_for .never rfl (ai_seq (av 1)) (ag_tup rfl (ags_cons (ag_name 7 sc.nd rfl (Or.inl rfl)) (ags_cons (ag_name 8 sc.nd rfl (Or.inl rfl)) ags_nil))) (ass_one (as_if (AW.at' (aw_and (at_eq hr (av 7) (av 4)) (aw_and1 (at_notIn hr (av 8) (av 6))))) (ass_one (as_expr (ae_mut 6 PySem.F.slot_list_append PySem.F.type_list_append mt_append (ms_append _) (aa_consD (av 8) aa_nil)))) ass_nil)))
      (ass_one (as_asg (ae_rdT call_tuple_of (rs_tuple _) rfl T.no_tuple (by decide +kernel) (av 6)) (ag_sub hr (av 3) (av 4)))))))
      (ass_one (as_ret (ae_make T.c_World.ma (ok_World_init T) (hr.mono (by decide)) rfl T.c_World.mg T.c_World.bi (aa_consD (av 3) (aa_consD (av 2) aa_nil)))))))) p_world_of
abbrev N_law : List Str := ["script", "d", "is_large", "tables", "rows", "variables", "spans", "needs", "wide", "body", "due", "free", "handed", "held", "first", "again", "ends", "loose", "asked", "pairs", "ranks", "term", "row"]
theorem sc_law : FnScope N_law ["script"] (defScope st_law) := ⟨rfl, rfl, rfl, by decide +kernel, rfl, by decide +kernel, by decide +kernel⟩
theorem ok_law (T : Txt K mg Z) : FnOk P w K mg base CX0 6 Z.f_law Z.fd_law ["script"] (toSp K S_law) :=
  fn_of (N := N_law) (B := B_law) (a := a_law (⟨Z.C_Body, Z.C_House, Z.C_World⟩ : Cls)) (k := 5) T.law.fn sc_law (by decide) (fun cdv A outer s H E hr => have sc := sc_law; by
    unfold a_law law_0_0 law_0_1 law_0_2 law_0_3 law_0_4 law_0_5 law_0_6 law_0_7 law_0_8 law_0_9 law_0_10 law_0_11 law_0_12 law_0_13 law_0_14 law_0_15 law_0_16 law_0_17 law_0_18 law_0_19 law_0_20 law_0_21 law_0_22 law_0_23 law_0_24 law_0_25 law_0_26 law_0_27 law_0_28 law_5_0 law_4_0 law_3_0 law_2_0 law_1_0
    exact (ass_cons (as_set (i := 1) sc.nd rfl (Or.inl rfl) (ae_fn (ok_law_begin T) (hr.mono (by decide)) rfl T.law_begin.mg T.law_begin.kp T.law_begin.bi (aa_consD (av 0) aa_nil)))
      (ass_cons (as_set (i := 2) sc.nd rfl (Or.inl rfl) (ae_eq hr (ae_fn (ok_law_draw T) (hr.mono (by decide)) rfl T.law_draw.mg T.law_draw.kp T.law_draw.bi (aa_cons (av 1) (aa_consD ae_int aa_nil))) ae_int))
      (ass_cons (as_set (i := 3) sc.nd rfl (Or.inl rfl) (ae_if (at_tru (av 2)) (ae_fn (ok_law_tables T) (hr.mono (by decide)) rfl T.law_tables.mg T.law_tables.kp T.law_tables.bi (aa_cons (av 1) (aa_consD ae_int (aa_consD ae_int aa_nil)))) (ae_fn (ok_law_tables T) (hr.mono (by decide)) rfl T.law_tables.mg T.law_tables.kp T.law_tables.bi (aa_cons (av 1) (aa_consD (ae_add ae_int (ae_fn (ok_law_draw T) (hr.mono (by decide)) rfl T.law_draw.mg T.law_draw.kp T.law_draw.bi (aa_cons (av 1) (aa_consD ae_int aa_nil)))) (aa_consD ae_int aa_nil))))))
      (ass_cons (as_set (i := 4) sc.nd rfl (Or.inl rfl) (ae_fn (ok_law_asked T) (hr.mono (by decide)) rfl T.law_asked.mg T.law_asked.kp T.law_asked.bi (aa_cons (av 1) (aa_consD (av 3) (aa_consD (ae_if (at_tru (av 2)) ae_int (ae_fn (ok_law_draw T) (hr.mono (by decide)) rfl T.law_draw.mg T.law_draw.kp T.law_draw.bi (aa_cons (av 1) (aa_consD ae_int aa_nil)))) aa_nil)))))
      (ass_cons (as_set (i := 5) sc.nd rfl (Or.inl rfl) (ae_fn (ok_law_variables T) (hr.mono (by decide)) rfl T.law_variables.mg T.law_variables.kp T.law_variables.bi (aa_consD (av 4) aa_nil)))
      (ass_cons (as_set (i := 6) sc.nd rfl (Or.inr rfl) (ae_fn (ok_law_cells T) (hr.mono (by decide)) rfl T.law_cells.mg T.law_cells.kp T.law_cells.bi (aa_cons (av 1) (aa_consD (av 5) aa_nil))))
      (ass_cons (as_set (i := 7) sc.nd rfl (Or.inl rfl) (ae_fn (ok_law_needs T) (hr.mono (by decide)) rfl T.law_needs.mg T.law_needs.kp T.law_needs.bi (aa_cons (av 1) (aa_consD (av 4) (aa_consD (ae_fn (ok_law_own T) (hr.mono (by decide)) rfl T.law_own.mg T.law_own.kp T.law_own.bi (aa_cons (av 1) (aa_consD (av 5) (aa_consD (av 6) aa_nil)))) aa_nil)))))
      (ass_cons (as_set (i := 8) sc.nd rfl (Or.inl rfl) (ae_rdT call_tuple_of (rs_tuple _) rfl T.no_tuple (by decide +kernel) (ae_fn (ok_law_mixed T) (hr.mono (by decide)) rfl T.law_mixed.mg T.law_mixed.kp T.law_mixed.bi (aa_cons (av 1) (aa_consD (ae_sl (av 5) ao_none (ao_some ae_int)) aa_nil)))))
      (ass_cons (as_set (i := 9) sc.nd rfl (Or.inl rfl) (ae_make T.c_Body.ma (ok_Body_init T) (hr.mono (by decide)) rfl T.c_Body.mg T.c_Body.bi (aa_consD (av 4) (aa_consD (ae_tup aa_nil) (aa_consD (ae_rdT call_dictD (rs_dict _) rfl T.no_dict (by decide +kernel) (av 6)) (aa_consD (av 8) aa_nil))))))
      (ass_cons (as_set (i := 10) sc.nd rfl (Or.inl rfl) (ae_fn (ok_law_least_values T) (hr.mono (by decide)) rfl T.law_least_values.mg T.law_least_values.kp T.law_least_values.bi (aa_consD (av 5) (aa_consD (av 6) aa_nil))))
      (ass_cons (as_set (i := 11) sc.nd rfl (Or.inl rfl) (ae_fn (ok_freeze T) (hr.mono (by decide)) rfl T.freeze.mg T.freeze.kp T.freeze.bi (aa_consD (av 9) (aa_consD (ae_lst aa_nil) aa_nil))))
      (ass_cons (as_if (AW.at' (aw_or (at_not (at_tru (ae_fn (ok_law_is_frozen T) (hr.mono (by decide)) rfl T.law_is_frozen.mg T.law_is_frozen.kp T.law_is_frozen.bi (aa_cons (av 11) (aa_consD (av 5) (aa_consD (av 6) (aa_consD (ae_lst aa_nil) aa_nil))))))) (aw_or1 (at_dicNe hr (av 11) (av 10))))) (ass_one (as_ret ae_bl)) ass_nil)
      (ass_cons (as_set (i := 12) sc.nd rfl (Or.inl rfl) (ae_rdT call_list_of (rs_list _) rfl T.no_list (by decide +kernel) (av 7)))
      (ass_cons (as_set (i := 13) sc.nd rfl (Or.inr rfl) (ae_fn (ok_freeze T) (hr.mono (by decide)) rfl T.freeze.mg T.freeze.kp T.freeze.bi (aa_consD (av 9) (aa_consD (av 12) aa_nil))))
      (ass_cons (as_if (AW.at' (aw_or (at_not (at_tru (ae_fn (ok_law_is_frozen T) (hr.mono (by decide)) rfl T.law_is_frozen.mg T.law_is_frozen.kp T.law_is_frozen.bi (aa_cons (av 13) (aa_consD (av 5) (aa_consD (av 6) (aa_consD (av 7) aa_nil))))))) (aw_or1 (at_ne hr (av 12) (av 7))))) (ass_one (as_ret ae_bl)) ass_nil)
      (ass_cons (as_setLc (i := 14) (own := [("term", 21)]) rfl sc.nd rfl rfl (sw_true rfl rfl rfl (by decide +kernel)) (ai_seq (av 5)) (blkOk_by (own := [("term", 21)]) (N := N_law) (sc := (defScope st_law)) (by first | decide +kernel | rfl)) gloc_name (fun _ _ _ _ _ => (ag_name 21 sc.nd rfl (Or.inl rfl))) (fun _ _ _ _ _ => ats_nil) (fun _ _ _ _ _ => (ae_ix hr (av 13) (av 21))))
      (ass_cons (as_expr (ae_fn (ok_law_spoil T) (hr.mono (by decide)) rfl T.law_spoil.mg T.law_spoil.kp T.law_spoil.bi (aa_cons (av 13) (aa_consD (av 5) aa_nil))))
      (ass_cons (as_expr (ae_fn (ok_law_spoil T) (hr.mono (by decide)) rfl T.law_spoil.mg T.law_spoil.kp T.law_spoil.bi (aa_cons (av 11) (aa_consD (av 5) aa_nil))))
      (ass_cons (as_set (i := 15) sc.nd rfl (Or.inr rfl) (ae_fn (ok_freeze T) (hr.mono (by decide)) rfl T.freeze.mg T.freeze.kp T.freeze.bi (aa_consD (av 9) (aa_consD (ae_rdT call_list_of (rs_list _) rfl T.no_list (by decide +kernel) (av 7)) aa_nil))))
      (ass_cons (as_if (AW.at' (aw_or (at_ne hr (ae_lc (own := [("term", 21)]) rfl sc.nd (ai_seq (av 5)) (blkOk_by (own := [("term", 21)]) (N := N_law) (sc := (defScope st_law)) (by first | decide +kernel | rfl)) gloc_name (fun _ _ _ _ _ => (ag_name 21 sc.nd rfl (Or.inl rfl))) (fun _ _ _ _ _ => ats_nil) (fun _ _ _ _ _ => (ae_ix hr (av 15) (av 21)))) (av 14)) (aw_or1 (at_dicNe hr (ae_fn (ok_freeze T) (hr.mono (by decide)) rfl T.freeze.mg T.freeze.kp T.freeze.bi (aa_consD (av 9) (aa_consD (ae_lst aa_nil) aa_nil))) (av 10))))) (ass_one (as_ret ae_bl)) ass_nil)
      (ass_cons (as_set (i := 16) sc.nd rfl (Or.inl rfl) (ae_rdT call_tuple_of (rs_tuple _) rfl T.no_tuple (by decide +kernel) (ae_lc (own := [("term", 21)]) rfl sc.nd (ai_seq (ae_sortedR (ae_rdT (cr_listK rfl) (rs_listK _) rfl T.no_list (by decide +kernel) (av 6)) rfl T.no_sorted)) (blkOk_by (own := [("term", 21)]) (N := N_law) (sc := (defScope st_law)) (by first | decide +kernel | rfl)) gloc_name (fun _ _ _ _ _ => (ag_name 21 sc.nd rfl (Or.inl rfl))) (fun _ _ _ _ _ => ats_nil) (fun _ _ _ _ _ => (ae_tup (aa_consD (av 21) (aa_consD (ae_ix hr (ae_ix hr (av 6) (av 21)) ae_int) (aa_consD (ae_ix hr (ae_ix hr (av 6) (av 21)) ae_int) aa_nil))))))))
      (ass_cons (as_if (at_ne hr (ae_meth0 T.c_Body.cl T.Body_tree.me (ok_Body_tree T) (hr.mono (by decide)) T.Body_tree.bi (AE.frz (av 9))) (ae_tup (aa_consD (av 4) (aa_consD (ae_tup aa_nil) (aa_consD (av 16) (aa_consD (av 8) aa_nil)))))) (ass_one (as_ret ae_bl)) ass_nil)
      (ass_cons (as_set (i := 17) sc.nd rfl (Or.inr rfl) (ae_fn (ok_law_meeting T) (hr.mono (by decide)) rfl T.law_meeting.mg T.law_meeting.kp T.law_meeting.bi (aa_cons (av 1) (aa_consD (av 5) aa_nil))))
      (ass_cons (as_set (i := 18) sc.nd rfl (Or.inl rfl) (ae_add (av 4) (ae_sl (av 4) ao_none (ao_some ae_int))))
      (ass_cons (as_setLc (i := 19) (own := [("row", 22)]) rfl sc.nd rfl rfl (sw_true rfl rfl rfl (by decide +kernel)) (ai_seq (av 18)) (blkOk_by (own := [("row", 22)]) (N := N_law) (sc := (defScope st_law)) (by first | decide +kernel | rfl)) gloc_name (fun _ _ _ _ _ => (ag_name 22 sc.nd rfl (Or.inl rfl))) (fun _ _ _ _ _ => ats_nil) (fun _ _ _ _ _ => (ae_tup (aa_consD (ae_ix hr (av 22) ae_int) (aa_consD (ae_fn (ok_law_valued T) (hr.mono (by decide)) rfl T.law_valued.mg T.law_valued.kp T.law_valued.bi (aa_consD (ae_ix hr (av 22) ae_int) (aa_cons (av 17) aa_nil))) aa_nil)))))
      (ass_cons (as_if (at_ne hr (ae_fn (ok_frozen_rows T) (hr.mono (by decide)) rfl T.frozen_rows.mg T.frozen_rows.kp T.frozen_rows.bi (aa_consD (av 18) (aa_consD (ae_rdT call_dictD (rs_dict _) rfl T.no_dict (by decide +kernel) (av 17)) aa_nil))) (av 19)) (ass_one (as_ret ae_bl)) ass_nil)
      (ass_cons (as_set (i := 19) sc.nd rfl (Or.inl rfl) (ae_fn (ok_law_mixed T) (hr.mono (by decide)) rfl T.law_mixed.mg T.law_mixed.kp T.law_mixed.bi (aa_cons (av 1) (aa_consD (av 19) aa_nil))))
      (ass_cons (as_set (i := 20) sc.nd rfl (Or.inl rfl) (ae_fn (ok_law_ranks T) (hr.mono (by decide)) rfl T.law_ranks.mg T.law_ranks.kp T.law_ranks.bi (aa_cons (av 1) aa_nil)))
      (ass_one (as_ret (ae_fn (ok_law_world_right T) (hr.mono (by decide)) rfl T.law_world_right.mg T.law_world_right.kp T.law_world_right.bi (aa_consD (ae_fn (ok_world_of T) (hr.mono (by decide)) rfl T.world_of.mg T.world_of.kp T.world_of.bi (aa_consD (ae_make T.c_House.ma (ok_House_init T) (hr.mono (by decide)) rfl T.c_House.mg T.c_House.bi (aa_consD (av 3) (aa_consD (ae_tup aa_nil) (aa_consD (ae_tup aa_nil) (aa_consD (ae_tup aa_nil) aa_nil))))) (aa_consD (ae_rdT call_list_of (rs_list _) rfl T.no_list (by decide +kernel) (av 19)) (aa_consD (av 20) aa_nil)))) (aa_consD (av 3) (aa_consD (av 19) (aa_consD (av 20) aa_nil)))))))))))))))))))))))))))))))))))) p_law
end
/- order: Body.__init__:1 Body.tree:1 check_indexes:1 check_rules:1 is_lettered:1 is_long_name:2 is_name:2 check_tables:3 check_views:1 House.__init__:4 _law_draw:1 _law_pick:2 _law_asked:3 _law_begin:1 _law_cells:2 _law_is_int:1 _law_valued:1 _law_is_frozen:2 _law_least_values:1 _law_meeting:3 _law_mixed:2 _law_needs:3 _law_own:2 _law_ranks:2 _law_spoil:1 _law_names:3 _law_tables:4 _law_variables:1 World.size:1 World.tree:1 _law_unlike:1 _law_world_right:2 Body.span:1 Body.variables:1 plain_from:1 value_of:1 put_needed:2 freeze:3 frozen_rows:2 World.__init__:1 world_of:3 law:6 -/
end AL
namespace AL
open PySem L2
set_option maxHeartbeats 0 in
theorem all_mk {l : PySem.W.OpenLaw} {w : World} {K : PySem.W.Frag} {h : Heap} {mg : Str → Option Value} {fa C_World C_Body C_House f_Body_init f_Body_tree f_check_indexes f_check_rules f_is_lettered f_is_long_name f_is_name f_check_tables f_check_views f_House_init f_law_draw f_law_pick f_law_asked f_law_begin f_law_cells f_law_is_int f_law_valued f_law_is_frozen f_law_least_values f_law_meeting f_law_mixed f_law_needs f_law_own f_law_ranks f_law_spoil f_law_names f_law_tables f_law_variables f_World_size f_World_tree f_law_unlike f_law_world_right f_Body_span f_Body_variables f_plain_from f_value_of f_put_needed f_freeze f_frozen_rows f_World_init f_world_of f_law : Addr} (X : K.In h) (G : h.Ns mainGlobals mg) (hfa : mg "law" = some (.ref fa))
    {od_Body_init an_Body_init : Option Addr} {sl_Body_init : Array (Option Value)} {oc_Body_init kV_Body_init dc_Body_init pm_Body_init cd_Body_init ct_Body_init : Value}
    {od_Body_tree an_Body_tree : Option Addr} {sl_Body_tree : Array (Option Value)} {oc_Body_tree kV_Body_tree dc_Body_tree pm_Body_tree cd_Body_tree ct_Body_tree : Value}
    {od_check_indexes an_check_indexes : Option Addr} {sl_check_indexes : Array (Option Value)} {oc_check_indexes kV_check_indexes dc_check_indexes pm_check_indexes cd_check_indexes ct_check_indexes : Value}
    {od_check_rules an_check_rules : Option Addr} {sl_check_rules : Array (Option Value)} {oc_check_rules kV_check_rules dc_check_rules pm_check_rules cd_check_rules ct_check_rules : Value}
    {od_is_lettered an_is_lettered : Option Addr} {sl_is_lettered : Array (Option Value)} {oc_is_lettered kV_is_lettered dc_is_lettered pm_is_lettered cd_is_lettered ct_is_lettered : Value}
    {od_is_long_name an_is_long_name : Option Addr} {sl_is_long_name : Array (Option Value)} {oc_is_long_name kV_is_long_name dc_is_long_name pm_is_long_name cd_is_long_name ct_is_long_name : Value}
    {od_is_name an_is_name : Option Addr} {sl_is_name : Array (Option Value)} {oc_is_name kV_is_name dc_is_name pm_is_name cd_is_name ct_is_name : Value}
    {od_check_tables an_check_tables : Option Addr} {sl_check_tables : Array (Option Value)} {oc_check_tables kV_check_tables dc_check_tables pm_check_tables cd_check_tables ct_check_tables : Value}
    {od_check_views an_check_views : Option Addr} {sl_check_views : Array (Option Value)} {oc_check_views kV_check_views dc_check_views pm_check_views cd_check_views ct_check_views : Value}
    {od_House_init an_House_init : Option Addr} {sl_House_init : Array (Option Value)} {oc_House_init kV_House_init dc_House_init pm_House_init cd_House_init ct_House_init : Value}
    {od_law_draw an_law_draw : Option Addr} {sl_law_draw : Array (Option Value)} {oc_law_draw kV_law_draw dc_law_draw pm_law_draw cd_law_draw ct_law_draw : Value}
    {od_law_pick an_law_pick : Option Addr} {sl_law_pick : Array (Option Value)} {oc_law_pick kV_law_pick dc_law_pick pm_law_pick cd_law_pick ct_law_pick : Value}
    {od_law_asked an_law_asked : Option Addr} {sl_law_asked : Array (Option Value)} {oc_law_asked kV_law_asked dc_law_asked pm_law_asked cd_law_asked ct_law_asked : Value}
    {od_law_begin an_law_begin : Option Addr} {sl_law_begin : Array (Option Value)} {oc_law_begin kV_law_begin dc_law_begin pm_law_begin cd_law_begin ct_law_begin : Value}
    {od_law_cells an_law_cells : Option Addr} {sl_law_cells : Array (Option Value)} {oc_law_cells kV_law_cells dc_law_cells pm_law_cells cd_law_cells ct_law_cells : Value}
    {od_law_is_int an_law_is_int : Option Addr} {sl_law_is_int : Array (Option Value)} {oc_law_is_int kV_law_is_int dc_law_is_int pm_law_is_int cd_law_is_int ct_law_is_int : Value}
    {od_law_valued an_law_valued : Option Addr} {sl_law_valued : Array (Option Value)} {oc_law_valued kV_law_valued dc_law_valued pm_law_valued cd_law_valued ct_law_valued : Value}
    {od_law_is_frozen an_law_is_frozen : Option Addr} {sl_law_is_frozen : Array (Option Value)} {oc_law_is_frozen kV_law_is_frozen dc_law_is_frozen pm_law_is_frozen cd_law_is_frozen ct_law_is_frozen : Value}
    {od_law_least_values an_law_least_values : Option Addr} {sl_law_least_values : Array (Option Value)} {oc_law_least_values kV_law_least_values dc_law_least_values pm_law_least_values cd_law_least_values ct_law_least_values : Value}
    {od_law_meeting an_law_meeting : Option Addr} {sl_law_meeting : Array (Option Value)} {oc_law_meeting kV_law_meeting dc_law_meeting pm_law_meeting cd_law_meeting ct_law_meeting : Value}
    {od_law_mixed an_law_mixed : Option Addr} {sl_law_mixed : Array (Option Value)} {oc_law_mixed kV_law_mixed dc_law_mixed pm_law_mixed cd_law_mixed ct_law_mixed : Value}
    {od_law_needs an_law_needs : Option Addr} {sl_law_needs : Array (Option Value)} {oc_law_needs kV_law_needs dc_law_needs pm_law_needs cd_law_needs ct_law_needs : Value}
    {od_law_own an_law_own : Option Addr} {sl_law_own : Array (Option Value)} {oc_law_own kV_law_own dc_law_own pm_law_own cd_law_own ct_law_own : Value}
    {od_law_ranks an_law_ranks : Option Addr} {sl_law_ranks : Array (Option Value)} {oc_law_ranks kV_law_ranks dc_law_ranks pm_law_ranks cd_law_ranks ct_law_ranks : Value}
    {od_law_spoil an_law_spoil : Option Addr} {sl_law_spoil : Array (Option Value)} {oc_law_spoil kV_law_spoil dc_law_spoil pm_law_spoil cd_law_spoil ct_law_spoil : Value}
    {od_law_names an_law_names : Option Addr} {sl_law_names : Array (Option Value)} {oc_law_names kV_law_names dc_law_names pm_law_names cd_law_names ct_law_names : Value}
    {od_law_tables an_law_tables : Option Addr} {sl_law_tables : Array (Option Value)} {oc_law_tables kV_law_tables dc_law_tables pm_law_tables cd_law_tables ct_law_tables : Value}
    {od_law_variables an_law_variables : Option Addr} {sl_law_variables : Array (Option Value)} {oc_law_variables kV_law_variables dc_law_variables pm_law_variables cd_law_variables ct_law_variables : Value}
    {od_World_size an_World_size : Option Addr} {sl_World_size : Array (Option Value)} {oc_World_size kV_World_size dc_World_size pm_World_size cd_World_size ct_World_size : Value}
    {od_World_tree an_World_tree : Option Addr} {sl_World_tree : Array (Option Value)} {oc_World_tree kV_World_tree dc_World_tree pm_World_tree cd_World_tree ct_World_tree : Value}
    {od_law_unlike an_law_unlike : Option Addr} {sl_law_unlike : Array (Option Value)} {oc_law_unlike kV_law_unlike dc_law_unlike pm_law_unlike cd_law_unlike ct_law_unlike : Value}
    {od_law_world_right an_law_world_right : Option Addr} {sl_law_world_right : Array (Option Value)} {oc_law_world_right kV_law_world_right dc_law_world_right pm_law_world_right cd_law_world_right ct_law_world_right : Value}
    {od_Body_span an_Body_span : Option Addr} {sl_Body_span : Array (Option Value)} {oc_Body_span kV_Body_span dc_Body_span pm_Body_span cd_Body_span ct_Body_span : Value}
    {od_Body_variables an_Body_variables : Option Addr} {sl_Body_variables : Array (Option Value)} {oc_Body_variables kV_Body_variables dc_Body_variables pm_Body_variables cd_Body_variables ct_Body_variables : Value}
    {od_plain_from an_plain_from : Option Addr} {sl_plain_from : Array (Option Value)} {oc_plain_from kV_plain_from dc_plain_from pm_plain_from cd_plain_from ct_plain_from : Value}
    {od_value_of an_value_of : Option Addr} {sl_value_of : Array (Option Value)} {oc_value_of kV_value_of dc_value_of pm_value_of cd_value_of ct_value_of : Value}
    {od_put_needed an_put_needed : Option Addr} {sl_put_needed : Array (Option Value)} {oc_put_needed kV_put_needed dc_put_needed pm_put_needed cd_put_needed ct_put_needed : Value}
    {od_freeze an_freeze : Option Addr} {sl_freeze : Array (Option Value)} {oc_freeze kV_freeze dc_freeze pm_freeze cd_freeze ct_freeze : Value}
    {od_frozen_rows an_frozen_rows : Option Addr} {sl_frozen_rows : Array (Option Value)} {oc_frozen_rows kV_frozen_rows dc_frozen_rows pm_frozen_rows cd_frozen_rows ct_frozen_rows : Value}
    {od_World_init an_World_init : Option Addr} {sl_World_init : Array (Option Value)} {oc_World_init kV_World_init dc_World_init pm_World_init cd_World_init ct_World_init : Value}
    {od_world_of an_world_of : Option Addr} {sl_world_of : Array (Option Value)} {oc_world_of kV_world_of dc_world_of pm_world_of cd_world_of ct_world_of : Value}
    {od_law an_law : Option Addr} {sl_law : Array (Option Value)} {oc_law kV_law dc_law pm_law cd_law ct_law : Value}
    {tkLETTERS : Tok}
    {tkLONGEST_NAME : Tok}
    {tkMOST_COLUMNS : Tok}
    {tkMOST_INDEXES : Tok}
    {tkMOST_NAME : Tok}
    {tkMOST_RULES : Tok}
    {tkMOST_TABLES : Tok}
    {tkMOST_VIEWS : Tok}
    {akWORDS : Addr} {okWORDS : Option Addr} {ikWORDS : Array Value} {nkWORDS : Nat} {skWORDS : Array (Option Value)}
    (aCWorld : PySem.W.nsIn K mainGlobals "World" = some (some (.ref C_World)))
    (pgWorld : PySem.W.plainGet K C_World Str.empty = true)
    (hdWorld : PySem.W.hasDictIn K C_World = true)
    (poWorld : PySem.W.plainOver K C_World = true)
    (saWorld : PySem.W.findIn K (.ref C_World) "__setattr__" = some (some (.builtin "object.__setattr__")))
    (mkWorld : PySem.W.makesIn K C_World = true)
    (kcWorld : PySem.W.keepIn K (.ref C_World) = true)
    (aCBody : PySem.W.nsIn K mainGlobals "Body" = some (some (.ref C_Body)))
    (pgBody : PySem.W.plainGet K C_Body Str.empty = true)
    (hdBody : PySem.W.hasDictIn K C_Body = true)
    (poBody : PySem.W.plainOver K C_Body = true)
    (saBody : PySem.W.findIn K (.ref C_Body) "__setattr__" = some (some (.builtin "object.__setattr__")))
    (mkBody : PySem.W.makesIn K C_Body = true)
    (kcBody : PySem.W.keepIn K (.ref C_Body) = true)
    (aCHouse : PySem.W.nsIn K mainGlobals "House" = some (some (.ref C_House)))
    (pgHouse : PySem.W.plainGet K C_House Str.empty = true)
    (hdHouse : PySem.W.hasDictIn K C_House = true)
    (poHouse : PySem.W.plainOver K C_House = true)
    (saHouse : PySem.W.findIn K (.ref C_House) "__setattr__" = some (some (.builtin "object.__setattr__")))
    (mkHouse : PySem.W.makesIn K C_House = true)
    (kcHouse : PySem.W.keepIn K (.ref C_House) = true)
    (a_Body_init : PySem.W.findIn K (.ref C_Body) "__init__" = some (some (.ref f_Body_init)))
    (i_Body_init : PySem.W.isFn K (.ref f_Body_init) = true)
    (l_Body_init : K.lookup f_Body_init = some ⟨oc_Body_init, od_Body_init, .func (PySem.W.fnOf "__init__" "Body.__init__" (defArgs st_Body_init) (defBody st_Body_init) (defScope st_Body_init) .none kV_Body_init dc_Body_init pm_Body_init an_Body_init cd_Body_init ct_Body_init), sl_Body_init⟩)
    (c_Body_init : PySem.W.codeIn K cd_Body_init "Body.__init__" = true)
    (k_Body_init : PySem.W.keepIn K (.ref f_Body_init) = true)
    (a_Body_tree : PySem.W.findIn K (.ref C_Body) "tree" = some (some (.ref f_Body_tree)))
    (i_Body_tree : PySem.W.isFn K (.ref f_Body_tree) = true)
    (l_Body_tree : K.lookup f_Body_tree = some ⟨oc_Body_tree, od_Body_tree, .func (PySem.W.fnOf "tree" "Body.tree" (defArgs st_Body_tree) (defBody st_Body_tree) (defScope st_Body_tree) .none kV_Body_tree dc_Body_tree pm_Body_tree an_Body_tree cd_Body_tree ct_Body_tree), sl_Body_tree⟩)
    (c_Body_tree : PySem.W.codeIn K cd_Body_tree "Body.tree" = true)
    (k_Body_tree : PySem.W.keepIn K (.ref f_Body_tree) = true)
    (a_check_indexes : PySem.W.nsIn K mainGlobals "check_indexes" = some (some (.ref f_check_indexes)))
    (l_check_indexes : K.lookup f_check_indexes = some ⟨oc_check_indexes, od_check_indexes, .func (PySem.W.fnOf "check_indexes" "check_indexes" (defArgs st_check_indexes) (defBody st_check_indexes) (defScope st_check_indexes) .none kV_check_indexes dc_check_indexes pm_check_indexes an_check_indexes cd_check_indexes ct_check_indexes), sl_check_indexes⟩)
    (c_check_indexes : PySem.W.codeIn K cd_check_indexes "check_indexes" = true)
    (k_check_indexes : PySem.W.keepIn K (.ref f_check_indexes) = true)
    (a_check_rules : PySem.W.nsIn K mainGlobals "check_rules" = some (some (.ref f_check_rules)))
    (l_check_rules : K.lookup f_check_rules = some ⟨oc_check_rules, od_check_rules, .func (PySem.W.fnOf "check_rules" "check_rules" (defArgs st_check_rules) (defBody st_check_rules) (defScope st_check_rules) .none kV_check_rules dc_check_rules pm_check_rules an_check_rules cd_check_rules ct_check_rules), sl_check_rules⟩)
    (c_check_rules : PySem.W.codeIn K cd_check_rules "check_rules" = true)
    (k_check_rules : PySem.W.keepIn K (.ref f_check_rules) = true)
    (a_is_lettered : PySem.W.nsIn K mainGlobals "is_lettered" = some (some (.ref f_is_lettered)))
    (l_is_lettered : K.lookup f_is_lettered = some ⟨oc_is_lettered, od_is_lettered, .func (PySem.W.fnOf "is_lettered" "is_lettered" (defArgs st_is_lettered) (defBody st_is_lettered) (defScope st_is_lettered) .none kV_is_lettered dc_is_lettered pm_is_lettered an_is_lettered cd_is_lettered ct_is_lettered), sl_is_lettered⟩)
    (c_is_lettered : PySem.W.codeIn K cd_is_lettered "is_lettered" = true)
    (k_is_lettered : PySem.W.keepIn K (.ref f_is_lettered) = true)
    (a_is_long_name : PySem.W.nsIn K mainGlobals "is_long_name" = some (some (.ref f_is_long_name)))
    (l_is_long_name : K.lookup f_is_long_name = some ⟨oc_is_long_name, od_is_long_name, .func (PySem.W.fnOf "is_long_name" "is_long_name" (defArgs st_is_long_name) (defBody st_is_long_name) (defScope st_is_long_name) .none kV_is_long_name dc_is_long_name pm_is_long_name an_is_long_name cd_is_long_name ct_is_long_name), sl_is_long_name⟩)
    (c_is_long_name : PySem.W.codeIn K cd_is_long_name "is_long_name" = true)
    (k_is_long_name : PySem.W.keepIn K (.ref f_is_long_name) = true)
    (a_is_name : PySem.W.nsIn K mainGlobals "is_name" = some (some (.ref f_is_name)))
    (l_is_name : K.lookup f_is_name = some ⟨oc_is_name, od_is_name, .func (PySem.W.fnOf "is_name" "is_name" (defArgs st_is_name) (defBody st_is_name) (defScope st_is_name) .none kV_is_name dc_is_name pm_is_name an_is_name cd_is_name ct_is_name), sl_is_name⟩)
    (c_is_name : PySem.W.codeIn K cd_is_name "is_name" = true)
    (k_is_name : PySem.W.keepIn K (.ref f_is_name) = true)
    (a_check_tables : PySem.W.nsIn K mainGlobals "check_tables" = some (some (.ref f_check_tables)))
    (l_check_tables : K.lookup f_check_tables = some ⟨oc_check_tables, od_check_tables, .func (PySem.W.fnOf "check_tables" "check_tables" (defArgs st_check_tables) (defBody st_check_tables) (defScope st_check_tables) .none kV_check_tables dc_check_tables pm_check_tables an_check_tables cd_check_tables ct_check_tables), sl_check_tables⟩)
    (c_check_tables : PySem.W.codeIn K cd_check_tables "check_tables" = true)
    (k_check_tables : PySem.W.keepIn K (.ref f_check_tables) = true)
    (a_check_views : PySem.W.nsIn K mainGlobals "check_views" = some (some (.ref f_check_views)))
    (l_check_views : K.lookup f_check_views = some ⟨oc_check_views, od_check_views, .func (PySem.W.fnOf "check_views" "check_views" (defArgs st_check_views) (defBody st_check_views) (defScope st_check_views) .none kV_check_views dc_check_views pm_check_views an_check_views cd_check_views ct_check_views), sl_check_views⟩)
    (c_check_views : PySem.W.codeIn K cd_check_views "check_views" = true)
    (k_check_views : PySem.W.keepIn K (.ref f_check_views) = true)
    (a_House_init : PySem.W.findIn K (.ref C_House) "__init__" = some (some (.ref f_House_init)))
    (i_House_init : PySem.W.isFn K (.ref f_House_init) = true)
    (l_House_init : K.lookup f_House_init = some ⟨oc_House_init, od_House_init, .func (PySem.W.fnOf "__init__" "House.__init__" (defArgs st_House_init) (defBody st_House_init) (defScope st_House_init) .none kV_House_init dc_House_init pm_House_init an_House_init cd_House_init ct_House_init), sl_House_init⟩)
    (c_House_init : PySem.W.codeIn K cd_House_init "House.__init__" = true)
    (k_House_init : PySem.W.keepIn K (.ref f_House_init) = true)
    (a_law_draw : PySem.W.nsIn K mainGlobals "_law_draw" = some (some (.ref f_law_draw)))
    (l_law_draw : K.lookup f_law_draw = some ⟨oc_law_draw, od_law_draw, .func (PySem.W.fnOf "_law_draw" "_law_draw" (defArgs st_law_draw) (defBody st_law_draw) (defScope st_law_draw) .none kV_law_draw dc_law_draw pm_law_draw an_law_draw cd_law_draw ct_law_draw), sl_law_draw⟩)
    (c_law_draw : PySem.W.codeIn K cd_law_draw "_law_draw" = true)
    (k_law_draw : PySem.W.keepIn K (.ref f_law_draw) = true)
    (a_law_pick : PySem.W.nsIn K mainGlobals "_law_pick" = some (some (.ref f_law_pick)))
    (l_law_pick : K.lookup f_law_pick = some ⟨oc_law_pick, od_law_pick, .func (PySem.W.fnOf "_law_pick" "_law_pick" (defArgs st_law_pick) (defBody st_law_pick) (defScope st_law_pick) .none kV_law_pick dc_law_pick pm_law_pick an_law_pick cd_law_pick ct_law_pick), sl_law_pick⟩)
    (c_law_pick : PySem.W.codeIn K cd_law_pick "_law_pick" = true)
    (k_law_pick : PySem.W.keepIn K (.ref f_law_pick) = true)
    (a_law_asked : PySem.W.nsIn K mainGlobals "_law_asked" = some (some (.ref f_law_asked)))
    (l_law_asked : K.lookup f_law_asked = some ⟨oc_law_asked, od_law_asked, .func (PySem.W.fnOf "_law_asked" "_law_asked" (defArgs st_law_asked) (defBody st_law_asked) (defScope st_law_asked) .none kV_law_asked dc_law_asked pm_law_asked an_law_asked cd_law_asked ct_law_asked), sl_law_asked⟩)
    (c_law_asked : PySem.W.codeIn K cd_law_asked "_law_asked" = true)
    (k_law_asked : PySem.W.keepIn K (.ref f_law_asked) = true)
    (a_law_begin : PySem.W.nsIn K mainGlobals "_law_begin" = some (some (.ref f_law_begin)))
    (l_law_begin : K.lookup f_law_begin = some ⟨oc_law_begin, od_law_begin, .func (PySem.W.fnOf "_law_begin" "_law_begin" (defArgs st_law_begin) (defBody st_law_begin) (defScope st_law_begin) .none kV_law_begin dc_law_begin pm_law_begin an_law_begin cd_law_begin ct_law_begin), sl_law_begin⟩)
    (c_law_begin : PySem.W.codeIn K cd_law_begin "_law_begin" = true)
    (k_law_begin : PySem.W.keepIn K (.ref f_law_begin) = true)
    (a_law_cells : PySem.W.nsIn K mainGlobals "_law_cells" = some (some (.ref f_law_cells)))
    (l_law_cells : K.lookup f_law_cells = some ⟨oc_law_cells, od_law_cells, .func (PySem.W.fnOf "_law_cells" "_law_cells" (defArgs st_law_cells) (defBody st_law_cells) (defScope st_law_cells) .none kV_law_cells dc_law_cells pm_law_cells an_law_cells cd_law_cells ct_law_cells), sl_law_cells⟩)
    (c_law_cells : PySem.W.codeIn K cd_law_cells "_law_cells" = true)
    (k_law_cells : PySem.W.keepIn K (.ref f_law_cells) = true)
    (a_law_is_int : PySem.W.nsIn K mainGlobals "_law_is_int" = some (some (.ref f_law_is_int)))
    (l_law_is_int : K.lookup f_law_is_int = some ⟨oc_law_is_int, od_law_is_int, .func (PySem.W.fnOf "_law_is_int" "_law_is_int" (defArgs st_law_is_int) (defBody st_law_is_int) (defScope st_law_is_int) .none kV_law_is_int dc_law_is_int pm_law_is_int an_law_is_int cd_law_is_int ct_law_is_int), sl_law_is_int⟩)
    (c_law_is_int : PySem.W.codeIn K cd_law_is_int "_law_is_int" = true)
    (k_law_is_int : PySem.W.keepIn K (.ref f_law_is_int) = true)
    (a_law_valued : PySem.W.nsIn K mainGlobals "_law_valued" = some (some (.ref f_law_valued)))
    (l_law_valued : K.lookup f_law_valued = some ⟨oc_law_valued, od_law_valued, .func (PySem.W.fnOf "_law_valued" "_law_valued" (defArgs st_law_valued) (defBody st_law_valued) (defScope st_law_valued) .none kV_law_valued dc_law_valued pm_law_valued an_law_valued cd_law_valued ct_law_valued), sl_law_valued⟩)
    (c_law_valued : PySem.W.codeIn K cd_law_valued "_law_valued" = true)
    (k_law_valued : PySem.W.keepIn K (.ref f_law_valued) = true)
    (a_law_is_frozen : PySem.W.nsIn K mainGlobals "_law_is_frozen" = some (some (.ref f_law_is_frozen)))
    (l_law_is_frozen : K.lookup f_law_is_frozen = some ⟨oc_law_is_frozen, od_law_is_frozen, .func (PySem.W.fnOf "_law_is_frozen" "_law_is_frozen" (defArgs st_law_is_frozen) (defBody st_law_is_frozen) (defScope st_law_is_frozen) .none kV_law_is_frozen dc_law_is_frozen pm_law_is_frozen an_law_is_frozen cd_law_is_frozen ct_law_is_frozen), sl_law_is_frozen⟩)
    (c_law_is_frozen : PySem.W.codeIn K cd_law_is_frozen "_law_is_frozen" = true)
    (k_law_is_frozen : PySem.W.keepIn K (.ref f_law_is_frozen) = true)
    (a_law_least_values : PySem.W.nsIn K mainGlobals "_law_least_values" = some (some (.ref f_law_least_values)))
    (l_law_least_values : K.lookup f_law_least_values = some ⟨oc_law_least_values, od_law_least_values, .func (PySem.W.fnOf "_law_least_values" "_law_least_values" (defArgs st_law_least_values) (defBody st_law_least_values) (defScope st_law_least_values) .none kV_law_least_values dc_law_least_values pm_law_least_values an_law_least_values cd_law_least_values ct_law_least_values), sl_law_least_values⟩)
    (c_law_least_values : PySem.W.codeIn K cd_law_least_values "_law_least_values" = true)
    (k_law_least_values : PySem.W.keepIn K (.ref f_law_least_values) = true)
    (a_law_meeting : PySem.W.nsIn K mainGlobals "_law_meeting" = some (some (.ref f_law_meeting)))
    (l_law_meeting : K.lookup f_law_meeting = some ⟨oc_law_meeting, od_law_meeting, .func (PySem.W.fnOf "_law_meeting" "_law_meeting" (defArgs st_law_meeting) (defBody st_law_meeting) (defScope st_law_meeting) .none kV_law_meeting dc_law_meeting pm_law_meeting an_law_meeting cd_law_meeting ct_law_meeting), sl_law_meeting⟩)
    (c_law_meeting : PySem.W.codeIn K cd_law_meeting "_law_meeting" = true)
    (k_law_meeting : PySem.W.keepIn K (.ref f_law_meeting) = true)
    (a_law_mixed : PySem.W.nsIn K mainGlobals "_law_mixed" = some (some (.ref f_law_mixed)))
    (l_law_mixed : K.lookup f_law_mixed = some ⟨oc_law_mixed, od_law_mixed, .func (PySem.W.fnOf "_law_mixed" "_law_mixed" (defArgs st_law_mixed) (defBody st_law_mixed) (defScope st_law_mixed) .none kV_law_mixed dc_law_mixed pm_law_mixed an_law_mixed cd_law_mixed ct_law_mixed), sl_law_mixed⟩)
    (c_law_mixed : PySem.W.codeIn K cd_law_mixed "_law_mixed" = true)
    (k_law_mixed : PySem.W.keepIn K (.ref f_law_mixed) = true)
    (a_law_needs : PySem.W.nsIn K mainGlobals "_law_needs" = some (some (.ref f_law_needs)))
    (l_law_needs : K.lookup f_law_needs = some ⟨oc_law_needs, od_law_needs, .func (PySem.W.fnOf "_law_needs" "_law_needs" (defArgs st_law_needs) (defBody st_law_needs) (defScope st_law_needs) .none kV_law_needs dc_law_needs pm_law_needs an_law_needs cd_law_needs ct_law_needs), sl_law_needs⟩)
    (c_law_needs : PySem.W.codeIn K cd_law_needs "_law_needs" = true)
    (k_law_needs : PySem.W.keepIn K (.ref f_law_needs) = true)
    (a_law_own : PySem.W.nsIn K mainGlobals "_law_own" = some (some (.ref f_law_own)))
    (l_law_own : K.lookup f_law_own = some ⟨oc_law_own, od_law_own, .func (PySem.W.fnOf "_law_own" "_law_own" (defArgs st_law_own) (defBody st_law_own) (defScope st_law_own) .none kV_law_own dc_law_own pm_law_own an_law_own cd_law_own ct_law_own), sl_law_own⟩)
    (c_law_own : PySem.W.codeIn K cd_law_own "_law_own" = true)
    (k_law_own : PySem.W.keepIn K (.ref f_law_own) = true)
    (a_law_ranks : PySem.W.nsIn K mainGlobals "_law_ranks" = some (some (.ref f_law_ranks)))
    (l_law_ranks : K.lookup f_law_ranks = some ⟨oc_law_ranks, od_law_ranks, .func (PySem.W.fnOf "_law_ranks" "_law_ranks" (defArgs st_law_ranks) (defBody st_law_ranks) (defScope st_law_ranks) .none kV_law_ranks dc_law_ranks pm_law_ranks an_law_ranks cd_law_ranks ct_law_ranks), sl_law_ranks⟩)
    (c_law_ranks : PySem.W.codeIn K cd_law_ranks "_law_ranks" = true)
    (k_law_ranks : PySem.W.keepIn K (.ref f_law_ranks) = true)
    (a_law_spoil : PySem.W.nsIn K mainGlobals "_law_spoil" = some (some (.ref f_law_spoil)))
    (l_law_spoil : K.lookup f_law_spoil = some ⟨oc_law_spoil, od_law_spoil, .func (PySem.W.fnOf "_law_spoil" "_law_spoil" (defArgs st_law_spoil) (defBody st_law_spoil) (defScope st_law_spoil) .none kV_law_spoil dc_law_spoil pm_law_spoil an_law_spoil cd_law_spoil ct_law_spoil), sl_law_spoil⟩)
    (c_law_spoil : PySem.W.codeIn K cd_law_spoil "_law_spoil" = true)
    (k_law_spoil : PySem.W.keepIn K (.ref f_law_spoil) = true)
    (a_law_names : PySem.W.nsIn K mainGlobals "_law_names" = some (some (.ref f_law_names)))
    (l_law_names : K.lookup f_law_names = some ⟨oc_law_names, od_law_names, .func (PySem.W.fnOf "_law_names" "_law_names" (defArgs st_law_names) (defBody st_law_names) (defScope st_law_names) .none kV_law_names dc_law_names pm_law_names an_law_names cd_law_names ct_law_names), sl_law_names⟩)
    (c_law_names : PySem.W.codeIn K cd_law_names "_law_names" = true)
    (k_law_names : PySem.W.keepIn K (.ref f_law_names) = true)
    (a_law_tables : PySem.W.nsIn K mainGlobals "_law_tables" = some (some (.ref f_law_tables)))
    (l_law_tables : K.lookup f_law_tables = some ⟨oc_law_tables, od_law_tables, .func (PySem.W.fnOf "_law_tables" "_law_tables" (defArgs st_law_tables) (defBody st_law_tables) (defScope st_law_tables) .none kV_law_tables dc_law_tables pm_law_tables an_law_tables cd_law_tables ct_law_tables), sl_law_tables⟩)
    (c_law_tables : PySem.W.codeIn K cd_law_tables "_law_tables" = true)
    (k_law_tables : PySem.W.keepIn K (.ref f_law_tables) = true)
    (a_law_variables : PySem.W.nsIn K mainGlobals "_law_variables" = some (some (.ref f_law_variables)))
    (l_law_variables : K.lookup f_law_variables = some ⟨oc_law_variables, od_law_variables, .func (PySem.W.fnOf "_law_variables" "_law_variables" (defArgs st_law_variables) (defBody st_law_variables) (defScope st_law_variables) .none kV_law_variables dc_law_variables pm_law_variables an_law_variables cd_law_variables ct_law_variables), sl_law_variables⟩)
    (c_law_variables : PySem.W.codeIn K cd_law_variables "_law_variables" = true)
    (k_law_variables : PySem.W.keepIn K (.ref f_law_variables) = true)
    (a_World_size : PySem.W.findIn K (.ref C_World) "size" = some (some (.ref f_World_size)))
    (i_World_size : PySem.W.isFn K (.ref f_World_size) = true)
    (l_World_size : K.lookup f_World_size = some ⟨oc_World_size, od_World_size, .func (PySem.W.fnOf "size" "World.size" (defArgs st_World_size) (defBody st_World_size) (defScope st_World_size) .none kV_World_size dc_World_size pm_World_size an_World_size cd_World_size ct_World_size), sl_World_size⟩)
    (c_World_size : PySem.W.codeIn K cd_World_size "World.size" = true)
    (k_World_size : PySem.W.keepIn K (.ref f_World_size) = true)
    (a_World_tree : PySem.W.findIn K (.ref C_World) "tree" = some (some (.ref f_World_tree)))
    (i_World_tree : PySem.W.isFn K (.ref f_World_tree) = true)
    (l_World_tree : K.lookup f_World_tree = some ⟨oc_World_tree, od_World_tree, .func (PySem.W.fnOf "tree" "World.tree" (defArgs st_World_tree) (defBody st_World_tree) (defScope st_World_tree) .none kV_World_tree dc_World_tree pm_World_tree an_World_tree cd_World_tree ct_World_tree), sl_World_tree⟩)
    (c_World_tree : PySem.W.codeIn K cd_World_tree "World.tree" = true)
    (k_World_tree : PySem.W.keepIn K (.ref f_World_tree) = true)
    (a_law_unlike : PySem.W.nsIn K mainGlobals "_law_unlike" = some (some (.ref f_law_unlike)))
    (l_law_unlike : K.lookup f_law_unlike = some ⟨oc_law_unlike, od_law_unlike, .func (PySem.W.fnOf "_law_unlike" "_law_unlike" (defArgs st_law_unlike) (defBody st_law_unlike) (defScope st_law_unlike) .none kV_law_unlike dc_law_unlike pm_law_unlike an_law_unlike cd_law_unlike ct_law_unlike), sl_law_unlike⟩)
    (c_law_unlike : PySem.W.codeIn K cd_law_unlike "_law_unlike" = true)
    (k_law_unlike : PySem.W.keepIn K (.ref f_law_unlike) = true)
    (a_law_world_right : PySem.W.nsIn K mainGlobals "_law_world_right" = some (some (.ref f_law_world_right)))
    (l_law_world_right : K.lookup f_law_world_right = some ⟨oc_law_world_right, od_law_world_right, .func (PySem.W.fnOf "_law_world_right" "_law_world_right" (defArgs st_law_world_right) (defBody st_law_world_right) (defScope st_law_world_right) .none kV_law_world_right dc_law_world_right pm_law_world_right an_law_world_right cd_law_world_right ct_law_world_right), sl_law_world_right⟩)
    (c_law_world_right : PySem.W.codeIn K cd_law_world_right "_law_world_right" = true)
    (k_law_world_right : PySem.W.keepIn K (.ref f_law_world_right) = true)
    (a_Body_span : PySem.W.findIn K (.ref C_Body) "span" = some (some (.ref f_Body_span)))
    (i_Body_span : PySem.W.isFn K (.ref f_Body_span) = true)
    (l_Body_span : K.lookup f_Body_span = some ⟨oc_Body_span, od_Body_span, .func (PySem.W.fnOf "span" "Body.span" (defArgs st_Body_span) (defBody st_Body_span) (defScope st_Body_span) .none kV_Body_span dc_Body_span pm_Body_span an_Body_span cd_Body_span ct_Body_span), sl_Body_span⟩)
    (c_Body_span : PySem.W.codeIn K cd_Body_span "Body.span" = true)
    (k_Body_span : PySem.W.keepIn K (.ref f_Body_span) = true)
    (a_Body_variables : PySem.W.findIn K (.ref C_Body) "variables" = some (some (.ref f_Body_variables)))
    (i_Body_variables : PySem.W.isFn K (.ref f_Body_variables) = true)
    (l_Body_variables : K.lookup f_Body_variables = some ⟨oc_Body_variables, od_Body_variables, .func (PySem.W.fnOf "variables" "Body.variables" (defArgs st_Body_variables) (defBody st_Body_variables) (defScope st_Body_variables) .none kV_Body_variables dc_Body_variables pm_Body_variables an_Body_variables cd_Body_variables ct_Body_variables), sl_Body_variables⟩)
    (c_Body_variables : PySem.W.codeIn K cd_Body_variables "Body.variables" = true)
    (k_Body_variables : PySem.W.keepIn K (.ref f_Body_variables) = true)
    (a_plain_from : PySem.W.nsIn K mainGlobals "plain_from" = some (some (.ref f_plain_from)))
    (l_plain_from : K.lookup f_plain_from = some ⟨oc_plain_from, od_plain_from, .func (PySem.W.fnOf "plain_from" "plain_from" (defArgs st_plain_from) (defBody st_plain_from) (defScope st_plain_from) .none kV_plain_from dc_plain_from pm_plain_from an_plain_from cd_plain_from ct_plain_from), sl_plain_from⟩)
    (c_plain_from : PySem.W.codeIn K cd_plain_from "plain_from" = true)
    (k_plain_from : PySem.W.keepIn K (.ref f_plain_from) = true)
    (a_value_of : PySem.W.nsIn K mainGlobals "value_of" = some (some (.ref f_value_of)))
    (l_value_of : K.lookup f_value_of = some ⟨oc_value_of, od_value_of, .func (PySem.W.fnOf "value_of" "value_of" (defArgs st_value_of) (defBody st_value_of) (defScope st_value_of) .none kV_value_of dc_value_of pm_value_of an_value_of cd_value_of ct_value_of), sl_value_of⟩)
    (c_value_of : PySem.W.codeIn K cd_value_of "value_of" = true)
    (k_value_of : PySem.W.keepIn K (.ref f_value_of) = true)
    (a_put_needed : PySem.W.nsIn K mainGlobals "put_needed" = some (some (.ref f_put_needed)))
    (l_put_needed : K.lookup f_put_needed = some ⟨oc_put_needed, od_put_needed, .func (PySem.W.fnOf "put_needed" "put_needed" (defArgs st_put_needed) (defBody st_put_needed) (defScope st_put_needed) .none kV_put_needed dc_put_needed pm_put_needed an_put_needed cd_put_needed ct_put_needed), sl_put_needed⟩)
    (c_put_needed : PySem.W.codeIn K cd_put_needed "put_needed" = true)
    (k_put_needed : PySem.W.keepIn K (.ref f_put_needed) = true)
    (a_freeze : PySem.W.nsIn K mainGlobals "freeze" = some (some (.ref f_freeze)))
    (l_freeze : K.lookup f_freeze = some ⟨oc_freeze, od_freeze, .func (PySem.W.fnOf "freeze" "freeze" (defArgs st_freeze) (defBody st_freeze) (defScope st_freeze) .none kV_freeze dc_freeze pm_freeze an_freeze cd_freeze ct_freeze), sl_freeze⟩)
    (c_freeze : PySem.W.codeIn K cd_freeze "freeze" = true)
    (k_freeze : PySem.W.keepIn K (.ref f_freeze) = true)
    (a_frozen_rows : PySem.W.nsIn K mainGlobals "frozen_rows" = some (some (.ref f_frozen_rows)))
    (l_frozen_rows : K.lookup f_frozen_rows = some ⟨oc_frozen_rows, od_frozen_rows, .func (PySem.W.fnOf "frozen_rows" "frozen_rows" (defArgs st_frozen_rows) (defBody st_frozen_rows) (defScope st_frozen_rows) .none kV_frozen_rows dc_frozen_rows pm_frozen_rows an_frozen_rows cd_frozen_rows ct_frozen_rows), sl_frozen_rows⟩)
    (c_frozen_rows : PySem.W.codeIn K cd_frozen_rows "frozen_rows" = true)
    (k_frozen_rows : PySem.W.keepIn K (.ref f_frozen_rows) = true)
    (a_World_init : PySem.W.findIn K (.ref C_World) "__init__" = some (some (.ref f_World_init)))
    (i_World_init : PySem.W.isFn K (.ref f_World_init) = true)
    (l_World_init : K.lookup f_World_init = some ⟨oc_World_init, od_World_init, .func (PySem.W.fnOf "__init__" "World.__init__" (defArgs st_World_init) (defBody st_World_init) (defScope st_World_init) .none kV_World_init dc_World_init pm_World_init an_World_init cd_World_init ct_World_init), sl_World_init⟩)
    (c_World_init : PySem.W.codeIn K cd_World_init "World.__init__" = true)
    (k_World_init : PySem.W.keepIn K (.ref f_World_init) = true)
    (a_world_of : PySem.W.nsIn K mainGlobals "world_of" = some (some (.ref f_world_of)))
    (l_world_of : K.lookup f_world_of = some ⟨oc_world_of, od_world_of, .func (PySem.W.fnOf "world_of" "world_of" (defArgs st_world_of) (defBody st_world_of) (defScope st_world_of) .none kV_world_of dc_world_of pm_world_of an_world_of cd_world_of ct_world_of), sl_world_of⟩)
    (c_world_of : PySem.W.codeIn K cd_world_of "world_of" = true)
    (k_world_of : PySem.W.keepIn K (.ref f_world_of) = true)
    (a_law : PySem.W.nsIn K mainGlobals "law" = some (some (.ref f_law)))
    (l_law : K.lookup f_law = some ⟨oc_law, od_law, .func (PySem.W.fnOf "law" "law" (defArgs st_law) (defBody st_law) (defScope st_law) .none kV_law dc_law pm_law an_law cd_law ct_law), sl_law⟩)
    (c_law : PySem.W.codeIn K cd_law "law" = true)
    (k_law : PySem.W.keepIn K (.ref f_law) = true)
    (n_Body_nots : PySem.W.findIn K (.ref C_Body) "nots" = some none)
    (n_Body_rows : PySem.W.findIn K (.ref C_Body) "rows" = some none)
    (n_Body_spans : PySem.W.findIn K (.ref C_Body) "spans" = some none)
    (n_Body_wide : PySem.W.findIn K (.ref C_Body) "wide" = some none)
    (n_House_indexes : PySem.W.findIn K (.ref C_House) "indexes" = some none)
    (n_House_rules : PySem.W.findIn K (.ref C_House) "rules" = some none)
    (n_House_tables : PySem.W.findIn K (.ref C_House) "tables" = some none)
    (n_House_views : PySem.W.findIn K (.ref C_House) "views" = some none)
    (n_House_widths : PySem.W.findIn K (.ref C_House) "widths" = some none)
    (n_World_ranks : PySem.W.findIn K (.ref C_World) "ranks" = some none)
    (n_World_tables : PySem.W.findIn K (.ref C_World) "tables" = some none)
    (no_all : PySem.W.nsIn K mainGlobals "all" = some none)
    (no_bool : PySem.W.nsIn K mainGlobals "bool" = some none)
    (no_dict : PySem.W.nsIn K mainGlobals "dict" = some none)
    (no_int : PySem.W.nsIn K mainGlobals "int" = some none)
    (no_isinstance : PySem.W.nsIn K mainGlobals "isinstance" = some none)
    (no_len : PySem.W.nsIn K mainGlobals "len" = some none)
    (no_list : PySem.W.nsIn K mainGlobals "list" = some none)
    (no_max : PySem.W.nsIn K mainGlobals "max" = some none)
    (no_range : PySem.W.nsIn K mainGlobals "range" = some none)
    (no_set : PySem.W.nsIn K mainGlobals "set" = some none)
    (no_sorted : PySem.W.nsIn K mainGlobals "sorted" = some none)
    (no_str : PySem.W.nsIn K mainGlobals "str" = some none)
    (no_sum : PySem.W.nsIn K mainGlobals "sum" = some none)
    (no_tuple : PySem.W.nsIn K mainGlobals "tuple" = some none)
    (kg_LETTERS : PySem.W.nsIn K mainGlobals "LETTERS" = some (some (.str "abcdefghijklmnopqrstuvwxyz" tkLETTERS)))
    (kg_LONGEST_NAME : PySem.W.nsIn K mainGlobals "LONGEST_NAME" = some (some (.int 12 tkLONGEST_NAME)))
    (kg_MOST_COLUMNS : PySem.W.nsIn K mainGlobals "MOST_COLUMNS" = some (some (.int 4 tkMOST_COLUMNS)))
    (kg_MOST_INDEXES : PySem.W.nsIn K mainGlobals "MOST_INDEXES" = some (some (.int 6 tkMOST_INDEXES)))
    (kg_MOST_NAME : PySem.W.nsIn K mainGlobals "MOST_NAME" = some (some (.int 9 tkMOST_NAME)))
    (kg_MOST_RULES : PySem.W.nsIn K mainGlobals "MOST_RULES" = some (some (.int 16 tkMOST_RULES)))
    (kg_MOST_TABLES : PySem.W.nsIn K mainGlobals "MOST_TABLES" = some (some (.int 8 tkMOST_TABLES)))
    (kg_MOST_VIEWS : PySem.W.nsIn K mainGlobals "MOST_VIEWS" = some (some (.int 4 tkMOST_VIEWS)))
    (kg_WORDS : PySem.W.nsIn K mainGlobals "WORDS" = some (some (.ref akWORDS)))
    (kl_WORDS : K.lookup akWORDS = some ⟨.type "tuple", okWORDS, .seq ikWORDS nkWORDS, skWORDS⟩)
    (kz_WORDS : decide (ikWORDS.size ≤ 4096) = true)
    (ks_WORDS : strsB ikWORDS.toList k_WORDS = true)
    : ∃ fd : FuncData, (∀ (s : Shared) (v : Value), BindsTo s fd ⟨[v], []⟩ [("script", v)]) ∧ ∀ base : Heap, K.In base → base.Ns mainGlobals mg → FnOk l.prog w K mg base CX0 6 fa fd ["script"] (toSp K S_law) := by
  have e := hfa.symm.trans (PySem.W.mg_of X G a_law)
  cases e
  have F_Body_init := fun_mk (x := "__init__") (qual := "Body.__init__") (st := st_Body_init) l_Body_init c_Body_init k_Body_init
  have b_Body_init := F_Body_init.binds (ps := ["self", "rows", "nots", "spans", "wide"]) fun _ _ _ _ _ _ us hl => match us, hl with | [_, _, _, _, _], _ => rfl
  have F_Body_tree := fun_mk (x := "tree") (qual := "Body.tree") (st := st_Body_tree) l_Body_tree c_Body_tree k_Body_tree
  have b_Body_tree := F_Body_tree.binds (ps := ["self"]) fun _ _ _ _ _ _ us hl => match us, hl with | [_], _ => rfl
  have F_check_indexes := fun_mk (x := "check_indexes") (qual := "check_indexes") (st := st_check_indexes) l_check_indexes c_check_indexes k_check_indexes
  have b_check_indexes := F_check_indexes.binds (ps := ["house"]) fun _ _ _ _ _ _ us hl => match us, hl with | [_], _ => rfl
  have F_check_rules := fun_mk (x := "check_rules") (qual := "check_rules") (st := st_check_rules) l_check_rules c_check_rules k_check_rules
  have b_check_rules := F_check_rules.binds (ps := ["house"]) fun _ _ _ _ _ _ us hl => match us, hl with | [_], _ => rfl
  have F_is_lettered := fun_mk (x := "is_lettered") (qual := "is_lettered") (st := st_is_lettered) l_is_lettered c_is_lettered k_is_lettered
  have b_is_lettered := F_is_lettered.binds (ps := ["value", "longest"]) fun _ _ _ _ _ _ us hl => match us, hl with | [_, _], _ => rfl
  have F_is_long_name := fun_mk (x := "is_long_name") (qual := "is_long_name") (st := st_is_long_name) l_is_long_name c_is_long_name k_is_long_name
  have b_is_long_name := F_is_long_name.binds (ps := ["value"]) fun _ _ _ _ _ _ us hl => match us, hl with | [_], _ => rfl
  have F_is_name := fun_mk (x := "is_name") (qual := "is_name") (st := st_is_name) l_is_name c_is_name k_is_name
  have b_is_name := F_is_name.binds (ps := ["value"]) fun _ _ _ _ _ _ us hl => match us, hl with | [_], _ => rfl
  have F_check_tables := fun_mk (x := "check_tables") (qual := "check_tables") (st := st_check_tables) l_check_tables c_check_tables k_check_tables
  have b_check_tables := F_check_tables.binds (ps := ["house"]) fun _ _ _ _ _ _ us hl => match us, hl with | [_], _ => rfl
  have F_check_views := fun_mk (x := "check_views") (qual := "check_views") (st := st_check_views) l_check_views c_check_views k_check_views
  have b_check_views := F_check_views.binds (ps := ["house"]) fun _ _ _ _ _ _ us hl => match us, hl with | [_], _ => rfl
  have F_House_init := fun_mk (x := "__init__") (qual := "House.__init__") (st := st_House_init) l_House_init c_House_init k_House_init
  have b_House_init := F_House_init.binds (ps := ["self", "tables", "rules", "indexes", "views"]) fun _ _ _ _ _ _ us hl => match us, hl with | [_, _, _, _, _], _ => rfl
  have F_law_draw := fun_mk (x := "_law_draw") (qual := "_law_draw") (st := st_law_draw) l_law_draw c_law_draw k_law_draw
  have b_law_draw := F_law_draw.binds (ps := ["d", "many"]) fun _ _ _ _ _ _ us hl => match us, hl with | [_, _], _ => rfl
  have F_law_pick := fun_mk (x := "_law_pick") (qual := "_law_pick") (st := st_law_pick) l_law_pick c_law_pick k_law_pick
  have b_law_pick := F_law_pick.binds (ps := ["d", "row"]) fun _ _ _ _ _ _ us hl => match us, hl with | [_, _], _ => rfl
  have F_law_asked := fun_mk (x := "_law_asked") (qual := "_law_asked") (st := st_law_asked) l_law_asked c_law_asked k_law_asked
  have b_law_asked := F_law_asked.binds (ps := ["d", "tables", "many"]) fun _ _ _ _ _ _ us hl => match us, hl with | [_, _, _], _ => rfl
  have F_law_begin := fun_mk (x := "_law_begin") (qual := "_law_begin") (st := st_law_begin) l_law_begin c_law_begin k_law_begin
  have b_law_begin := F_law_begin.binds (ps := ["script"]) fun _ _ _ _ _ _ us hl => match us, hl with | [_], _ => rfl
  have F_law_cells := fun_mk (x := "_law_cells") (qual := "_law_cells") (st := st_law_cells) l_law_cells c_law_cells k_law_cells
  have b_law_cells := F_law_cells.binds (ps := ["d", "variables"]) fun _ _ _ _ _ _ us hl => match us, hl with | [_, _], _ => rfl
  have F_law_is_int := fun_mk (x := "_law_is_int") (qual := "_law_is_int") (st := st_law_is_int) l_law_is_int c_law_is_int k_law_is_int
  have b_law_is_int := F_law_is_int.binds (ps := ["thing"]) fun _ _ _ _ _ _ us hl => match us, hl with | [_], _ => rfl
  have F_law_valued := fun_mk (x := "_law_valued") (qual := "_law_valued") (st := st_law_valued) l_law_valued c_law_valued k_law_valued
  have b_law_valued := F_law_valued.binds (ps := ["terms", "told"]) fun _ _ _ _ _ _ us hl => match us, hl with | [_, _], _ => rfl
  have F_law_is_frozen := fun_mk (x := "_law_is_frozen") (qual := "_law_is_frozen") (st := st_law_is_frozen) l_law_is_frozen c_law_is_frozen k_law_is_frozen
  have b_law_is_frozen := F_law_is_frozen.binds (ps := ["told", "variables", "spans", "needs"]) fun _ _ _ _ _ _ us hl => match us, hl with | [_, _, _, _], _ => rfl
  have F_law_least_values := fun_mk (x := "_law_least_values") (qual := "_law_least_values") (st := st_law_least_values) l_law_least_values c_law_least_values k_law_least_values
  have b_law_least_values := F_law_least_values.binds (ps := ["variables", "spans"]) fun _ _ _ _ _ _ us hl => match us, hl with | [_, _], _ => rfl
  have F_law_meeting := fun_mk (x := "_law_meeting") (qual := "_law_meeting") (st := st_law_meeting) l_law_meeting c_law_meeting k_law_meeting
  have b_law_meeting := F_law_meeting.binds (ps := ["d", "variables"]) fun _ _ _ _ _ _ us hl => match us, hl with | [_, _], _ => rfl
  have F_law_mixed := fun_mk (x := "_law_mixed") (qual := "_law_mixed") (st := st_law_mixed) l_law_mixed c_law_mixed k_law_mixed
  have b_law_mixed := F_law_mixed.binds (ps := ["d", "row"]) fun _ _ _ _ _ _ us hl => match us, hl with | [_, _], _ => rfl
  have F_law_needs := fun_mk (x := "_law_needs") (qual := "_law_needs") (st := st_law_needs) l_law_needs c_law_needs k_law_needs
  have b_law_needs := F_law_needs.binds (ps := ["d", "rows", "values"]) fun _ _ _ _ _ _ us hl => match us, hl with | [_, _, _], _ => rfl
  have F_law_own := fun_mk (x := "_law_own") (qual := "_law_own") (st := st_law_own) l_law_own c_law_own k_law_own
  have b_law_own := F_law_own.binds (ps := ["d", "variables", "spans"]) fun _ _ _ _ _ _ us hl => match us, hl with | [_, _, _], _ => rfl
  have F_law_ranks := fun_mk (x := "_law_ranks") (qual := "_law_ranks") (st := st_law_ranks) l_law_ranks c_law_ranks k_law_ranks
  have b_law_ranks := F_law_ranks.binds (ps := ["d"]) fun _ _ _ _ _ _ us hl => match us, hl with | [_], _ => rfl
  have F_law_spoil := fun_mk (x := "_law_spoil") (qual := "_law_spoil") (st := st_law_spoil) l_law_spoil c_law_spoil k_law_spoil
  have b_law_spoil := F_law_spoil.binds (ps := ["told", "variables"]) fun _ _ _ _ _ _ us hl => match us, hl with | [_, _], _ => rfl
  have F_law_names := fun_mk (x := "_law_names") (qual := "_law_names") (st := st_law_names) l_law_names c_law_names k_law_names
  have b_law_names := F_law_names.binds (ps := ["d", "many"]) fun _ _ _ _ _ _ us hl => match us, hl with | [_, _], _ => rfl
  have F_law_tables := fun_mk (x := "_law_tables") (qual := "_law_tables") (st := st_law_tables) l_law_tables c_law_tables k_law_tables
  have b_law_tables := F_law_tables.binds (ps := ["d", "many", "least"]) fun _ _ _ _ _ _ us hl => match us, hl with | [_, _, _], _ => rfl
  have F_law_variables := fun_mk (x := "_law_variables") (qual := "_law_variables") (st := st_law_variables) l_law_variables c_law_variables k_law_variables
  have b_law_variables := F_law_variables.binds (ps := ["rows"]) fun _ _ _ _ _ _ us hl => match us, hl with | [_], _ => rfl
  have F_World_size := fun_mk (x := "size") (qual := "World.size") (st := st_World_size) l_World_size c_World_size k_World_size
  have b_World_size := F_World_size.binds (ps := ["self"]) fun _ _ _ _ _ _ us hl => match us, hl with | [_], _ => rfl
  have F_World_tree := fun_mk (x := "tree") (qual := "World.tree") (st := st_World_tree) l_World_tree c_World_tree k_World_tree
  have b_World_tree := F_World_tree.binds (ps := ["self"]) fun _ _ _ _ _ _ us hl => match us, hl with | [_], _ => rfl
  have F_law_unlike := fun_mk (x := "_law_unlike") (qual := "_law_unlike") (st := st_law_unlike) l_law_unlike c_law_unlike k_law_unlike
  have b_law_unlike := F_law_unlike.binds (ps := ["row"]) fun _ _ _ _ _ _ us hl => match us, hl with | [_], _ => rfl
  have F_law_world_right := fun_mk (x := "_law_world_right") (qual := "_law_world_right") (st := st_law_world_right) l_law_world_right c_law_world_right k_law_world_right
  have b_law_world_right := F_law_world_right.binds (ps := ["told", "tables", "pairs", "ranks"]) fun _ _ _ _ _ _ us hl => match us, hl with | [_, _, _, _], _ => rfl
  have F_Body_span := fun_mk (x := "span") (qual := "Body.span") (st := st_Body_span) l_Body_span c_Body_span k_Body_span
  have b_Body_span := F_Body_span.binds (ps := ["self", "term"]) fun _ _ _ _ _ _ us hl => match us, hl with | [_, _], _ => rfl
  have F_Body_variables := fun_mk (x := "variables") (qual := "Body.variables") (st := st_Body_variables) l_Body_variables c_Body_variables k_Body_variables
  have b_Body_variables := F_Body_variables.binds (ps := ["self"]) fun _ _ _ _ _ _ us hl => match us, hl with | [_], _ => rfl
  have F_plain_from := fun_mk (x := "plain_from") (qual := "plain_from") (st := st_plain_from) l_plain_from c_plain_from k_plain_from
  have b_plain_from := F_plain_from.binds (ps := ["low", "used"]) fun _ _ _ _ _ _ us hl => match us, hl with | [_, _], _ => rfl
  have F_value_of := fun_mk (x := "value_of") (qual := "value_of") (st := st_value_of) l_value_of c_value_of k_value_of
  have b_value_of := F_value_of.binds (ps := ["values", "term"]) fun _ _ _ _ _ _ us hl => match us, hl with | [_, _], _ => rfl
  have F_put_needed := fun_mk (x := "put_needed") (qual := "put_needed") (st := st_put_needed) l_put_needed c_put_needed k_put_needed
  have b_put_needed := F_put_needed.binds (ps := ["body", "needs", "values", "used"]) fun _ _ _ _ _ _ us hl => match us, hl with | [_, _, _, _], _ => rfl
  have F_freeze := fun_mk (x := "freeze") (qual := "freeze") (st := st_freeze) l_freeze c_freeze k_freeze
  have b_freeze := F_freeze.binds (ps := ["body", "needs"]) fun _ _ _ _ _ _ us hl => match us, hl with | [_, _], _ => rfl
  have F_frozen_rows := fun_mk (x := "frozen_rows") (qual := "frozen_rows") (st := st_frozen_rows) l_frozen_rows c_frozen_rows k_frozen_rows
  have b_frozen_rows := F_frozen_rows.binds (ps := ["rows", "values"]) fun _ _ _ _ _ _ us hl => match us, hl with | [_, _], _ => rfl
  have F_World_init := fun_mk (x := "__init__") (qual := "World.__init__") (st := st_World_init) l_World_init c_World_init k_World_init
  have b_World_init := F_World_init.binds (ps := ["self", "tables", "ranks"]) fun _ _ _ _ _ _ us hl => match us, hl with | [_, _, _], _ => rfl
  have F_world_of := fun_mk (x := "world_of") (qual := "world_of") (st := st_world_of) l_world_of c_world_of k_world_of
  have b_world_of := F_world_of.binds (ps := ["house", "pairs", "ranks"]) fun _ _ _ _ _ _ us hl => match us, hl with | [_, _, _], _ => rfl
  have F_law := fun_mk (x := "law") (qual := "law") (st := st_law) l_law c_law k_law
  have b_law := F_law.binds (ps := ["script"]) fun _ _ _ _ _ _ us hl => match us, hl with | [_], _ => rfl
  have T : Txt K mg ⟨C_World, C_Body, C_House, f_Body_init, (PySem.W.fnOf "__init__" "Body.__init__" (defArgs st_Body_init) (defBody st_Body_init) (defScope st_Body_init) .none kV_Body_init dc_Body_init pm_Body_init an_Body_init cd_Body_init ct_Body_init), f_Body_tree, (PySem.W.fnOf "tree" "Body.tree" (defArgs st_Body_tree) (defBody st_Body_tree) (defScope st_Body_tree) .none kV_Body_tree dc_Body_tree pm_Body_tree an_Body_tree cd_Body_tree ct_Body_tree), f_check_indexes, (PySem.W.fnOf "check_indexes" "check_indexes" (defArgs st_check_indexes) (defBody st_check_indexes) (defScope st_check_indexes) .none kV_check_indexes dc_check_indexes pm_check_indexes an_check_indexes cd_check_indexes ct_check_indexes), f_check_rules, (PySem.W.fnOf "check_rules" "check_rules" (defArgs st_check_rules) (defBody st_check_rules) (defScope st_check_rules) .none kV_check_rules dc_check_rules pm_check_rules an_check_rules cd_check_rules ct_check_rules), f_is_lettered, (PySem.W.fnOf "is_lettered" "is_lettered" (defArgs st_is_lettered) (defBody st_is_lettered) (defScope st_is_lettered) .none kV_is_lettered dc_is_lettered pm_is_lettered an_is_lettered cd_is_lettered ct_is_lettered), f_is_long_name, (PySem.W.fnOf "is_long_name" "is_long_name" (defArgs st_is_long_name) (defBody st_is_long_name) (defScope st_is_long_name) .none kV_is_long_name dc_is_long_name pm_is_long_name an_is_long_name cd_is_long_name ct_is_long_name), f_is_name, (PySem.W.fnOf "is_name" "is_name" (defArgs st_is_name) (defBody st_is_name) (defScope st_is_name) .none kV_is_name dc_is_name pm_is_name an_is_name cd_is_name ct_is_name), f_check_tables, (PySem.W.fnOf "check_tables" "check_tables" (defArgs st_check_tables) (defBody st_check_tables) (defScope st_check_tables) .none kV_check_tables dc_check_tables pm_check_tables an_check_tables cd_check_tables ct_check_tables), f_check_views, (PySem.W.fnOf "check_views" "check_views" (defArgs st_check_views) (defBody st_check_views) (defScope st_check_views) .none kV_check_views dc_check_views pm_check_views an_check_views cd_check_views ct_check_views), f_House_init, (PySem.W.fnOf "__init__" "House.__init__" (defArgs st_House_init) (defBody st_House_init) (defScope st_House_init) .none kV_House_init dc_House_init pm_House_init an_House_init cd_House_init ct_House_init), f_law_draw, (PySem.W.fnOf "_law_draw" "_law_draw" (defArgs st_law_draw) (defBody st_law_draw) (defScope st_law_draw) .none kV_law_draw dc_law_draw pm_law_draw an_law_draw cd_law_draw ct_law_draw), f_law_pick, (PySem.W.fnOf "_law_pick" "_law_pick" (defArgs st_law_pick) (defBody st_law_pick) (defScope st_law_pick) .none kV_law_pick dc_law_pick pm_law_pick an_law_pick cd_law_pick ct_law_pick), f_law_asked, (PySem.W.fnOf "_law_asked" "_law_asked" (defArgs st_law_asked) (defBody st_law_asked) (defScope st_law_asked) .none kV_law_asked dc_law_asked pm_law_asked an_law_asked cd_law_asked ct_law_asked), f_law_begin, (PySem.W.fnOf "_law_begin" "_law_begin" (defArgs st_law_begin) (defBody st_law_begin) (defScope st_law_begin) .none kV_law_begin dc_law_begin pm_law_begin an_law_begin cd_law_begin ct_law_begin), f_law_cells, (PySem.W.fnOf "_law_cells" "_law_cells" (defArgs st_law_cells) (defBody st_law_cells) (defScope st_law_cells) .none kV_law_cells dc_law_cells pm_law_cells an_law_cells cd_law_cells ct_law_cells), f_law_is_int, (PySem.W.fnOf "_law_is_int" "_law_is_int" (defArgs st_law_is_int) (defBody st_law_is_int) (defScope st_law_is_int) .none kV_law_is_int dc_law_is_int pm_law_is_int an_law_is_int cd_law_is_int ct_law_is_int), f_law_valued, (PySem.W.fnOf "_law_valued" "_law_valued" (defArgs st_law_valued) (defBody st_law_valued) (defScope st_law_valued) .none kV_law_valued dc_law_valued pm_law_valued an_law_valued cd_law_valued ct_law_valued), f_law_is_frozen, (PySem.W.fnOf "_law_is_frozen" "_law_is_frozen" (defArgs st_law_is_frozen) (defBody st_law_is_frozen) (defScope st_law_is_frozen) .none kV_law_is_frozen dc_law_is_frozen pm_law_is_frozen an_law_is_frozen cd_law_is_frozen ct_law_is_frozen), f_law_least_values, (PySem.W.fnOf "_law_least_values" "_law_least_values" (defArgs st_law_least_values) (defBody st_law_least_values) (defScope st_law_least_values) .none kV_law_least_values dc_law_least_values pm_law_least_values an_law_least_values cd_law_least_values ct_law_least_values), f_law_meeting, (PySem.W.fnOf "_law_meeting" "_law_meeting" (defArgs st_law_meeting) (defBody st_law_meeting) (defScope st_law_meeting) .none kV_law_meeting dc_law_meeting pm_law_meeting an_law_meeting cd_law_meeting ct_law_meeting), f_law_mixed, (PySem.W.fnOf "_law_mixed" "_law_mixed" (defArgs st_law_mixed) (defBody st_law_mixed) (defScope st_law_mixed) .none kV_law_mixed dc_law_mixed pm_law_mixed an_law_mixed cd_law_mixed ct_law_mixed), f_law_needs, (PySem.W.fnOf "_law_needs" "_law_needs" (defArgs st_law_needs) (defBody st_law_needs) (defScope st_law_needs) .none kV_law_needs dc_law_needs pm_law_needs an_law_needs cd_law_needs ct_law_needs), f_law_own, (PySem.W.fnOf "_law_own" "_law_own" (defArgs st_law_own) (defBody st_law_own) (defScope st_law_own) .none kV_law_own dc_law_own pm_law_own an_law_own cd_law_own ct_law_own), f_law_ranks, (PySem.W.fnOf "_law_ranks" "_law_ranks" (defArgs st_law_ranks) (defBody st_law_ranks) (defScope st_law_ranks) .none kV_law_ranks dc_law_ranks pm_law_ranks an_law_ranks cd_law_ranks ct_law_ranks), f_law_spoil, (PySem.W.fnOf "_law_spoil" "_law_spoil" (defArgs st_law_spoil) (defBody st_law_spoil) (defScope st_law_spoil) .none kV_law_spoil dc_law_spoil pm_law_spoil an_law_spoil cd_law_spoil ct_law_spoil), f_law_names, (PySem.W.fnOf "_law_names" "_law_names" (defArgs st_law_names) (defBody st_law_names) (defScope st_law_names) .none kV_law_names dc_law_names pm_law_names an_law_names cd_law_names ct_law_names), f_law_tables, (PySem.W.fnOf "_law_tables" "_law_tables" (defArgs st_law_tables) (defBody st_law_tables) (defScope st_law_tables) .none kV_law_tables dc_law_tables pm_law_tables an_law_tables cd_law_tables ct_law_tables), f_law_variables, (PySem.W.fnOf "_law_variables" "_law_variables" (defArgs st_law_variables) (defBody st_law_variables) (defScope st_law_variables) .none kV_law_variables dc_law_variables pm_law_variables an_law_variables cd_law_variables ct_law_variables), f_World_size, (PySem.W.fnOf "size" "World.size" (defArgs st_World_size) (defBody st_World_size) (defScope st_World_size) .none kV_World_size dc_World_size pm_World_size an_World_size cd_World_size ct_World_size), f_World_tree, (PySem.W.fnOf "tree" "World.tree" (defArgs st_World_tree) (defBody st_World_tree) (defScope st_World_tree) .none kV_World_tree dc_World_tree pm_World_tree an_World_tree cd_World_tree ct_World_tree), f_law_unlike, (PySem.W.fnOf "_law_unlike" "_law_unlike" (defArgs st_law_unlike) (defBody st_law_unlike) (defScope st_law_unlike) .none kV_law_unlike dc_law_unlike pm_law_unlike an_law_unlike cd_law_unlike ct_law_unlike), f_law_world_right, (PySem.W.fnOf "_law_world_right" "_law_world_right" (defArgs st_law_world_right) (defBody st_law_world_right) (defScope st_law_world_right) .none kV_law_world_right dc_law_world_right pm_law_world_right an_law_world_right cd_law_world_right ct_law_world_right), f_Body_span, (PySem.W.fnOf "span" "Body.span" (defArgs st_Body_span) (defBody st_Body_span) (defScope st_Body_span) .none kV_Body_span dc_Body_span pm_Body_span an_Body_span cd_Body_span ct_Body_span), f_Body_variables, (PySem.W.fnOf "variables" "Body.variables" (defArgs st_Body_variables) (defBody st_Body_variables) (defScope st_Body_variables) .none kV_Body_variables dc_Body_variables pm_Body_variables an_Body_variables cd_Body_variables ct_Body_variables), f_plain_from, (PySem.W.fnOf "plain_from" "plain_from" (defArgs st_plain_from) (defBody st_plain_from) (defScope st_plain_from) .none kV_plain_from dc_plain_from pm_plain_from an_plain_from cd_plain_from ct_plain_from), f_value_of, (PySem.W.fnOf "value_of" "value_of" (defArgs st_value_of) (defBody st_value_of) (defScope st_value_of) .none kV_value_of dc_value_of pm_value_of an_value_of cd_value_of ct_value_of), f_put_needed, (PySem.W.fnOf "put_needed" "put_needed" (defArgs st_put_needed) (defBody st_put_needed) (defScope st_put_needed) .none kV_put_needed dc_put_needed pm_put_needed an_put_needed cd_put_needed ct_put_needed), f_freeze, (PySem.W.fnOf "freeze" "freeze" (defArgs st_freeze) (defBody st_freeze) (defScope st_freeze) .none kV_freeze dc_freeze pm_freeze an_freeze cd_freeze ct_freeze), f_frozen_rows, (PySem.W.fnOf "frozen_rows" "frozen_rows" (defArgs st_frozen_rows) (defBody st_frozen_rows) (defScope st_frozen_rows) .none kV_frozen_rows dc_frozen_rows pm_frozen_rows an_frozen_rows cd_frozen_rows ct_frozen_rows), f_World_init, (PySem.W.fnOf "__init__" "World.__init__" (defArgs st_World_init) (defBody st_World_init) (defScope st_World_init) .none kV_World_init dc_World_init pm_World_init an_World_init cd_World_init ct_World_init), f_world_of, (PySem.W.fnOf "world_of" "world_of" (defArgs st_world_of) (defBody st_world_of) (defScope st_world_of) .none kV_world_of dc_world_of pm_world_of an_world_of cd_world_of ct_world_of), fa, (PySem.W.fnOf "law" "law" (defArgs st_law) (defBody st_law) (defScope st_law) .none kV_law dc_law pm_law an_law cd_law ct_law)⟩ :=
    { c_World := ⟨⟨pgWorld, hdWorld, poWorld, saWorld⟩, ⟨mkWorld, a_World_init, i_World_init, kcWorld⟩, PySem.W.mg_of X G aCWorld, F_World_init, b_World_init⟩
      c_Body := ⟨⟨pgBody, hdBody, poBody, saBody⟩, ⟨mkBody, a_Body_init, i_Body_init, kcBody⟩, PySem.W.mg_of X G aCBody, F_Body_init, b_Body_init⟩
      c_House := ⟨⟨pgHouse, hdHouse, poHouse, saHouse⟩, ⟨mkHouse, a_House_init, i_House_init, kcHouse⟩, PySem.W.mg_of X G aCHouse, F_House_init, b_House_init⟩
      Body_tree := ⟨F_Body_tree, ⟨a_Body_tree, i_Body_tree, k_Body_tree⟩, b_Body_tree⟩
      check_indexes := ⟨F_check_indexes, PySem.W.mg_of X G a_check_indexes, k_check_indexes, b_check_indexes⟩
      check_rules := ⟨F_check_rules, PySem.W.mg_of X G a_check_rules, k_check_rules, b_check_rules⟩
      is_lettered := ⟨F_is_lettered, PySem.W.mg_of X G a_is_lettered, k_is_lettered, b_is_lettered⟩
      is_long_name := ⟨F_is_long_name, PySem.W.mg_of X G a_is_long_name, k_is_long_name, b_is_long_name⟩
      is_name := ⟨F_is_name, PySem.W.mg_of X G a_is_name, k_is_name, b_is_name⟩
      check_tables := ⟨F_check_tables, PySem.W.mg_of X G a_check_tables, k_check_tables, b_check_tables⟩
      check_views := ⟨F_check_views, PySem.W.mg_of X G a_check_views, k_check_views, b_check_views⟩
      law_draw := ⟨F_law_draw, PySem.W.mg_of X G a_law_draw, k_law_draw, b_law_draw⟩
      law_pick := ⟨F_law_pick, PySem.W.mg_of X G a_law_pick, k_law_pick, b_law_pick⟩
      law_asked := ⟨F_law_asked, PySem.W.mg_of X G a_law_asked, k_law_asked, b_law_asked⟩
      law_begin := ⟨F_law_begin, PySem.W.mg_of X G a_law_begin, k_law_begin, b_law_begin⟩
      law_cells := ⟨F_law_cells, PySem.W.mg_of X G a_law_cells, k_law_cells, b_law_cells⟩
      law_is_int := ⟨F_law_is_int, PySem.W.mg_of X G a_law_is_int, k_law_is_int, b_law_is_int⟩
      law_valued := ⟨F_law_valued, PySem.W.mg_of X G a_law_valued, k_law_valued, b_law_valued⟩
      law_is_frozen := ⟨F_law_is_frozen, PySem.W.mg_of X G a_law_is_frozen, k_law_is_frozen, b_law_is_frozen⟩
      law_least_values := ⟨F_law_least_values, PySem.W.mg_of X G a_law_least_values, k_law_least_values, b_law_least_values⟩
      law_meeting := ⟨F_law_meeting, PySem.W.mg_of X G a_law_meeting, k_law_meeting, b_law_meeting⟩
      law_mixed := ⟨F_law_mixed, PySem.W.mg_of X G a_law_mixed, k_law_mixed, b_law_mixed⟩
      law_needs := ⟨F_law_needs, PySem.W.mg_of X G a_law_needs, k_law_needs, b_law_needs⟩
      law_own := ⟨F_law_own, PySem.W.mg_of X G a_law_own, k_law_own, b_law_own⟩
      law_ranks := ⟨F_law_ranks, PySem.W.mg_of X G a_law_ranks, k_law_ranks, b_law_ranks⟩
      law_spoil := ⟨F_law_spoil, PySem.W.mg_of X G a_law_spoil, k_law_spoil, b_law_spoil⟩
      law_names := ⟨F_law_names, PySem.W.mg_of X G a_law_names, k_law_names, b_law_names⟩
      law_tables := ⟨F_law_tables, PySem.W.mg_of X G a_law_tables, k_law_tables, b_law_tables⟩
      law_variables := ⟨F_law_variables, PySem.W.mg_of X G a_law_variables, k_law_variables, b_law_variables⟩
      World_size := ⟨F_World_size, ⟨a_World_size, i_World_size, k_World_size⟩, b_World_size⟩
      World_tree := ⟨F_World_tree, ⟨a_World_tree, i_World_tree, k_World_tree⟩, b_World_tree⟩
      law_unlike := ⟨F_law_unlike, PySem.W.mg_of X G a_law_unlike, k_law_unlike, b_law_unlike⟩
      law_world_right := ⟨F_law_world_right, PySem.W.mg_of X G a_law_world_right, k_law_world_right, b_law_world_right⟩
      Body_span := ⟨F_Body_span, ⟨a_Body_span, i_Body_span, k_Body_span⟩, b_Body_span⟩
      Body_variables := ⟨F_Body_variables, ⟨a_Body_variables, i_Body_variables, k_Body_variables⟩, b_Body_variables⟩
      plain_from := ⟨F_plain_from, PySem.W.mg_of X G a_plain_from, k_plain_from, b_plain_from⟩
      value_of := ⟨F_value_of, PySem.W.mg_of X G a_value_of, k_value_of, b_value_of⟩
      put_needed := ⟨F_put_needed, PySem.W.mg_of X G a_put_needed, k_put_needed, b_put_needed⟩
      freeze := ⟨F_freeze, PySem.W.mg_of X G a_freeze, k_freeze, b_freeze⟩
      frozen_rows := ⟨F_frozen_rows, PySem.W.mg_of X G a_frozen_rows, k_frozen_rows, b_frozen_rows⟩
      world_of := ⟨F_world_of, PySem.W.mg_of X G a_world_of, k_world_of, b_world_of⟩
      law := ⟨F_law, PySem.W.mg_of X G a_law, k_law, b_law⟩
      n_Body_nots := n_Body_nots
      n_Body_rows := n_Body_rows
      n_Body_spans := n_Body_spans
      n_Body_wide := n_Body_wide
      n_House_indexes := n_House_indexes
      n_House_rules := n_House_rules
      n_House_tables := n_House_tables
      n_House_views := n_House_views
      n_House_widths := n_House_widths
      n_World_ranks := n_World_ranks
      n_World_tables := n_World_tables
      k_LETTERS := ⟨_, PySem.W.mg_of X G kg_LETTERS⟩
      k_LONGEST_NAME := ⟨_, PySem.W.mg_of X G kg_LONGEST_NAME⟩
      k_MOST_COLUMNS := ⟨_, PySem.W.mg_of X G kg_MOST_COLUMNS⟩
      k_MOST_INDEXES := ⟨_, PySem.W.mg_of X G kg_MOST_INDEXES⟩
      k_MOST_NAME := ⟨_, PySem.W.mg_of X G kg_MOST_NAME⟩
      k_MOST_RULES := ⟨_, PySem.W.mg_of X G kg_MOST_RULES⟩
      k_MOST_TABLES := ⟨_, PySem.W.mg_of X G kg_MOST_TABLES⟩
      k_MOST_VIEWS := ⟨_, PySem.W.mg_of X G kg_MOST_VIEWS⟩
      k_WORDS := ⟨_, PySem.W.mg_of X G kg_WORDS, kTup_of kl_WORDS kz_WORDS ks_WORDS⟩
      no_all := PySem.W.mg_none_of X G no_all
      no_bool := PySem.W.mg_none_of X G no_bool
      no_dict := PySem.W.mg_none_of X G no_dict
      no_int := PySem.W.mg_none_of X G no_int
      no_isinstance := PySem.W.mg_none_of X G no_isinstance
      no_len := PySem.W.mg_none_of X G no_len
      no_list := PySem.W.mg_none_of X G no_list
      no_max := PySem.W.mg_none_of X G no_max
      no_range := PySem.W.mg_none_of X G no_range
      no_set := PySem.W.mg_none_of X G no_set
      no_sorted := PySem.W.mg_none_of X G no_sorted
      no_str := PySem.W.mg_none_of X G no_str
      no_sum := PySem.W.mg_none_of X G no_sum
      no_tuple := PySem.W.mg_none_of X G no_tuple }
  exact ⟨PySem.W.fnOf "law" "law" (defArgs st_law) (defBody st_law) (defScope st_law) .none kV_law dc_law pm_law an_law cd_law ct_law, fun s v => .of_eq rfl, fun base _ _ => ok_law T⟩
theorem law_start {K : PySem.W.Frag} {H : Hp} {a : Addr} {ns : List Int} (hl : ns.length ≤ 63) (hS : SqL K H a (ns.map V.int)) : toSp K S_law [.ref a] H (fun v _ => v = .bl true) fun _ _ _ => False := by
  have no : ∀ b, ¬ Pw (fun _ => False) [some (.ref a)] [.dat (.scr (ns.map D.int))] b := fun b z => by
    rcases z with z | ⟨i, d, e, _⟩
    · exact z
    · match i, e with
      | 0, e => cases e
      | i + 1, e => cases e
  refine ⟨fun _ => False, [.dat (.scr (ns.map D.int))], fun r _ => r = .dat (.bl true), ⟨rfl, fun i d e => ?_, fun i d e => ?_, fun b z => z.elim, fun i j d e p q1 => ?_, fun i d b q1 => ?_⟩, ⟨ns, rfl, rfl⟩, fun v H' r avs' Y' _ _ _ ok _ e => ?_⟩
  · match i, e with
    | 0, e =>
      cases e
      refine ⟨_, rfl, .scr ⟨?_, ?_⟩ (RDs.ints ns)⟩
      · rw [List.length_map, PySem.sizeLine_eq]; omega
      · exact hS.imp (fun h => ⟨h, no _⟩) id
    | i + 1, e => cases e
  · match i, e with
    | 0, e => cases e
    | i + 1, e => cases e
  · match i, q1 with
    | 0, q1 => cases q1
    | i + 1, q1 => cases q1
  · match i, q1 with
    | 0, q1 => cases q1
    | i + 1, q1 => cases q1
  · subst e
    obtain ⟨_, rd⟩ := ok
    cases rd
    rfl
theorem walk {l : PySem.W.OpenLaw} {q : Program} {loose : List Str} {XP : (Str → Option Value) → Heap → Prop} {YP : World → Heap → Prop} {d : DefRec} {K : Params → PySem.W.Frag} (hn : l.most = some 63) (hdf : d.params.defaults = [])
    (hY : ∀ (w : World) (h : Heap), YP w h → (K w.params).In h)
    (F : ∀ (w : World) (mg : Str → Option Value) (fa : Addr) (h : Heap), (K w.params).In h → h.Ns mainGlobals mg → mg d.name = some (.ref fa) →
      ∃ fd : FuncData, (∀ (s : Shared) (u : Value), BindsTo s fd ⟨[u], []⟩ [("script", u)]) ∧ ∀ base : Heap, (K w.params).In base → base.Ns mainGlobals mg → FnOk l.prog w (K w.params) mg base CX0 6 fa fd ["script"] (toSp (K w.params) S_law)) :
    PySem.W.WalkO q loose XP YP l.row.toRowW d [] (fun f vs => PySem.call f vs) :=
  L2.walk_of (n := 63) (k := 6) (x := "script") (CX := fun _ => CX0) (sp := fun w => toSp (K w.params) S_law) hn (by decide) hdf ⟨rfl, by decide, by decide⟩ hY F (fun _ _ a ns hl _ hS => law_start hl hS) fun _ _ _ _ _ z => z
end AL
open PySem PySem.W PyProof.Rows
set_option maxRecDepth 100000 in
set_option maxHeartbeats 0 in
theorem PySem.Challenge.cw_planassize_k61_frozen_values_plain_and_u_holds : PySem.Challenge.rw_planassize_k61_frozen_values_plain_and_u.Holds := by
  w_on; o_law; k_head; (case hw => w_witness2)
  k_fill
  refine AL.walk (l := PySem.Challenge.rw_planassize_k61_frozen_values_plain_and_u) rfl rfl (fun w h Y => PySem.W.kIn_of Y) ?F
  case F =>
    intro w mg fa h KX G hmg
    refine' AL.all_mk KX G hmg ?aCWorld ?pgWorld ?hdWorld ?poWorld ?saWorld ?mkWorld ?kcWorld ?aCBody ?pgBody ?hdBody ?poBody ?saBody ?mkBody ?kcBody ?aCHouse ?pgHouse ?hdHouse ?poHouse ?saHouse ?mkHouse ?kcHouse ?a_Body_init ?i_Body_init ?l_Body_init ?c_Body_init ?k_Body_init ?a_Body_tree ?i_Body_tree ?l_Body_tree ?c_Body_tree ?k_Body_tree ?a_check_indexes ?l_check_indexes ?c_check_indexes ?k_check_indexes ?a_check_rules ?l_check_rules ?c_check_rules ?k_check_rules ?a_is_lettered ?l_is_lettered ?c_is_lettered ?k_is_lettered ?a_is_long_name ?l_is_long_name ?c_is_long_name ?k_is_long_name ?a_is_name ?l_is_name ?c_is_name ?k_is_name ?a_check_tables ?l_check_tables ?c_check_tables ?k_check_tables ?a_check_views ?l_check_views ?c_check_views ?k_check_views ?a_House_init ?i_House_init ?l_House_init ?c_House_init ?k_House_init ?a_law_draw ?l_law_draw ?c_law_draw ?k_law_draw ?a_law_pick ?l_law_pick ?c_law_pick ?k_law_pick ?a_law_asked ?l_law_asked ?c_law_asked ?k_law_asked ?a_law_begin ?l_law_begin ?c_law_begin ?k_law_begin ?a_law_cells ?l_law_cells ?c_law_cells ?k_law_cells ?a_law_is_int ?l_law_is_int ?c_law_is_int ?k_law_is_int ?a_law_valued ?l_law_valued ?c_law_valued ?k_law_valued ?a_law_is_frozen ?l_law_is_frozen ?c_law_is_frozen ?k_law_is_frozen ?a_law_least_values ?l_law_least_values ?c_law_least_values ?k_law_least_values ?a_law_meeting ?l_law_meeting ?c_law_meeting ?k_law_meeting ?a_law_mixed ?l_law_mixed ?c_law_mixed ?k_law_mixed ?a_law_needs ?l_law_needs ?c_law_needs ?k_law_needs ?a_law_own ?l_law_own ?c_law_own ?k_law_own ?a_law_ranks ?l_law_ranks ?c_law_ranks ?k_law_ranks ?a_law_spoil ?l_law_spoil ?c_law_spoil ?k_law_spoil ?a_law_names ?l_law_names ?c_law_names ?k_law_names ?a_law_tables ?l_law_tables ?c_law_tables ?k_law_tables ?a_law_variables ?l_law_variables ?c_law_variables ?k_law_variables ?a_World_size ?i_World_size ?l_World_size ?c_World_size ?k_World_size ?a_World_tree ?i_World_tree ?l_World_tree ?c_World_tree ?k_World_tree ?a_law_unlike ?l_law_unlike ?c_law_unlike ?k_law_unlike ?a_law_world_right ?l_law_world_right ?c_law_world_right ?k_law_world_right ?a_Body_span ?i_Body_span ?l_Body_span ?c_Body_span ?k_Body_span ?a_Body_variables ?i_Body_variables ?l_Body_variables ?c_Body_variables ?k_Body_variables ?a_plain_from ?l_plain_from ?c_plain_from ?k_plain_from ?a_value_of ?l_value_of ?c_value_of ?k_value_of ?a_put_needed ?l_put_needed ?c_put_needed ?k_put_needed ?a_freeze ?l_freeze ?c_freeze ?k_freeze ?a_frozen_rows ?l_frozen_rows ?c_frozen_rows ?k_frozen_rows ?a_World_init ?i_World_init ?l_World_init ?c_World_init ?k_World_init ?a_world_of ?l_world_of ?c_world_of ?k_world_of ?a_law ?l_law ?c_law ?k_law ?n_Body_nots ?n_Body_rows ?n_Body_spans ?n_Body_wide ?n_House_indexes ?n_House_rules ?n_House_tables ?n_House_views ?n_House_widths ?n_World_ranks ?n_World_tables ?no_all ?no_bool ?no_dict ?no_int ?no_isinstance ?no_len ?no_list ?no_max ?no_range ?no_set ?no_sorted ?no_str ?no_sum ?no_tuple ?kg_LETTERS ?kg_LONGEST_NAME ?kg_MOST_COLUMNS ?kg_MOST_INDEXES ?kg_MOST_NAME ?kg_MOST_RULES ?kg_MOST_TABLES ?kg_MOST_VIEWS ?kg_WORDS ?kl_WORDS ?kz_WORDS ?ks_WORDS
    (case aCWorld => k_is)
    (case pgWorld => k_is)
    (case hdWorld => k_is)
    (case poWorld => k_is)
    (case saWorld => k_is)
    (case mkWorld => k_is)
    (case kcWorld => k_is)
    (case aCBody => k_is)
    (case pgBody => k_is)
    (case hdBody => k_is)
    (case poBody => k_is)
    (case saBody => k_is)
    (case mkBody => k_is)
    (case kcBody => k_is)
    (case aCHouse => k_is)
    (case pgHouse => k_is)
    (case hdHouse => k_is)
    (case poHouse => k_is)
    (case saHouse => k_is)
    (case mkHouse => k_is)
    (case kcHouse => k_is)
    (case a_Body_init => k_is)
    (case i_Body_init => k_is)
    (case l_Body_init => k_is)
    (case c_Body_init => k_is)
    (case k_Body_init => k_is)
    (case a_Body_tree => k_is)
    (case i_Body_tree => k_is)
    (case l_Body_tree => k_is)
    (case c_Body_tree => k_is)
    (case k_Body_tree => k_is)
    (case a_check_indexes => k_is)
    (case l_check_indexes => k_is)
    (case c_check_indexes => k_is)
    (case k_check_indexes => k_is)
    (case a_check_rules => k_is)
    (case l_check_rules => k_is)
    (case c_check_rules => k_is)
    (case k_check_rules => k_is)
    (case a_is_lettered => k_is)
    (case l_is_lettered => k_is)
    (case c_is_lettered => k_is)
    (case k_is_lettered => k_is)
    (case a_is_long_name => k_is)
    (case l_is_long_name => k_is)
    (case c_is_long_name => k_is)
    (case k_is_long_name => k_is)
    (case a_is_name => k_is)
    (case l_is_name => k_is)
    (case c_is_name => k_is)
    (case k_is_name => k_is)
    (case a_check_tables => k_is)
    (case l_check_tables => k_is)
    (case c_check_tables => k_is)
    (case k_check_tables => k_is)
    (case a_check_views => k_is)
    (case l_check_views => k_is)
    (case c_check_views => k_is)
    (case k_check_views => k_is)
    (case a_House_init => k_is)
    (case i_House_init => k_is)
    (case l_House_init => k_is)
    (case c_House_init => k_is)
    (case k_House_init => k_is)
    (case a_law_draw => k_is)
    (case l_law_draw => k_is)
    (case c_law_draw => k_is)
    (case k_law_draw => k_is)
    (case a_law_pick => k_is)
    (case l_law_pick => k_is)
    (case c_law_pick => k_is)
    (case k_law_pick => k_is)
    (case a_law_asked => k_is)
    (case l_law_asked => k_is)
    (case c_law_asked => k_is)
    (case k_law_asked => k_is)
    (case a_law_begin => k_is)
    (case l_law_begin => k_is)
    (case c_law_begin => k_is)
    (case k_law_begin => k_is)
    (case a_law_cells => k_is)
    (case l_law_cells => k_is)
    (case c_law_cells => k_is)
    (case k_law_cells => k_is)
    (case a_law_is_int => k_is)
    (case l_law_is_int => k_is)
    (case c_law_is_int => k_is)
    (case k_law_is_int => k_is)
    (case a_law_valued => k_is)
    (case l_law_valued => k_is)
    (case c_law_valued => k_is)
    (case k_law_valued => k_is)
    (case a_law_is_frozen => k_is)
    (case l_law_is_frozen => k_is)
    (case c_law_is_frozen => k_is)
    (case k_law_is_frozen => k_is)
    (case a_law_least_values => k_is)
    (case l_law_least_values => k_is)
    (case c_law_least_values => k_is)
    (case k_law_least_values => k_is)
    (case a_law_meeting => k_is)
    (case l_law_meeting => k_is)
    (case c_law_meeting => k_is)
    (case k_law_meeting => k_is)
    (case a_law_mixed => k_is)
    (case l_law_mixed => k_is)
    (case c_law_mixed => k_is)
    (case k_law_mixed => k_is)
    (case a_law_needs => k_is)
    (case l_law_needs => k_is)
    (case c_law_needs => k_is)
    (case k_law_needs => k_is)
    (case a_law_own => k_is)
    (case l_law_own => k_is)
    (case c_law_own => k_is)
    (case k_law_own => k_is)
    (case a_law_ranks => k_is)
    (case l_law_ranks => k_is)
    (case c_law_ranks => k_is)
    (case k_law_ranks => k_is)
    (case a_law_spoil => k_is)
    (case l_law_spoil => k_is)
    (case c_law_spoil => k_is)
    (case k_law_spoil => k_is)
    (case a_law_names => k_is)
    (case l_law_names => k_is)
    (case c_law_names => k_is)
    (case k_law_names => k_is)
    (case a_law_tables => k_is)
    (case l_law_tables => k_is)
    (case c_law_tables => k_is)
    (case k_law_tables => k_is)
    (case a_law_variables => k_is)
    (case l_law_variables => k_is)
    (case c_law_variables => k_is)
    (case k_law_variables => k_is)
    (case a_World_size => k_is)
    (case i_World_size => k_is)
    (case l_World_size => k_is)
    (case c_World_size => k_is)
    (case k_World_size => k_is)
    (case a_World_tree => k_is)
    (case i_World_tree => k_is)
    (case l_World_tree => k_is)
    (case c_World_tree => k_is)
    (case k_World_tree => k_is)
    (case a_law_unlike => k_is)
    (case l_law_unlike => k_is)
    (case c_law_unlike => k_is)
    (case k_law_unlike => k_is)
    (case a_law_world_right => k_is)
    (case l_law_world_right => k_is)
    (case c_law_world_right => k_is)
    (case k_law_world_right => k_is)
    (case a_Body_span => k_is)
    (case i_Body_span => k_is)
    (case l_Body_span => k_is)
    (case c_Body_span => k_is)
    (case k_Body_span => k_is)
    (case a_Body_variables => k_is)
    (case i_Body_variables => k_is)
    (case l_Body_variables => k_is)
    (case c_Body_variables => k_is)
    (case k_Body_variables => k_is)
    (case a_plain_from => k_is)
    (case l_plain_from => k_is)
    (case c_plain_from => k_is)
    (case k_plain_from => k_is)
    (case a_value_of => k_is)
    (case l_value_of => k_is)
    (case c_value_of => k_is)
    (case k_value_of => k_is)
    (case a_put_needed => k_is)
    (case l_put_needed => k_is)
    (case c_put_needed => k_is)
    (case k_put_needed => k_is)
    (case a_freeze => k_is)
    (case l_freeze => k_is)
    (case c_freeze => k_is)
    (case k_freeze => k_is)
    (case a_frozen_rows => k_is)
    (case l_frozen_rows => k_is)
    (case c_frozen_rows => k_is)
    (case k_frozen_rows => k_is)
    (case a_World_init => k_is)
    (case i_World_init => k_is)
    (case l_World_init => k_is)
    (case c_World_init => k_is)
    (case k_World_init => k_is)
    (case a_world_of => k_is)
    (case l_world_of => k_is)
    (case c_world_of => k_is)
    (case k_world_of => k_is)
    (case a_law => k_is)
    (case l_law => k_is)
    (case c_law => k_is)
    (case k_law => k_is)
    (case n_Body_nots => k_is)
    (case n_Body_rows => k_is)
    (case n_Body_spans => k_is)
    (case n_Body_wide => k_is)
    (case n_House_indexes => k_is)
    (case n_House_rules => k_is)
    (case n_House_tables => k_is)
    (case n_House_views => k_is)
    (case n_House_widths => k_is)
    (case n_World_ranks => k_is)
    (case n_World_tables => k_is)
    (case no_all => k_is)
    (case no_bool => k_is)
    (case no_dict => k_is)
    (case no_int => k_is)
    (case no_isinstance => k_is)
    (case no_len => k_is)
    (case no_list => k_is)
    (case no_max => k_is)
    (case no_range => k_is)
    (case no_set => k_is)
    (case no_sorted => k_is)
    (case no_str => k_is)
    (case no_sum => k_is)
    (case no_tuple => k_is)
    (case kg_LETTERS => k_is)
    (case kg_LONGEST_NAME => k_is)
    (case kg_MOST_COLUMNS => k_is)
    (case kg_MOST_INDEXES => k_is)
    (case kg_MOST_NAME => k_is)
    (case kg_MOST_RULES => k_is)
    (case kg_MOST_TABLES => k_is)
    (case kg_MOST_VIEWS => k_is)
    (case kg_WORDS => k_is)
    (case kl_WORDS => k_is)
    (case kz_WORDS => decide +kernel)
    (case ks_WORDS => decide +kernel)
#print axioms PySem.Challenge.cw_planassize_k61_frozen_values_plain_and_u_holds
