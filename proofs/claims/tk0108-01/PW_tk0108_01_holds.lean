import PyProof.Rows.All
import Wide.All
import OpenK.AllK
import Wide.FinOn
import Lean
import PySem.Challenge.RW_tk0108_01
open PySem PySem.W PyProof.Rows
set_option Elab.async false
set_option maxRecDepth 100000
namespace Mine
section
variable {tb : String → Option Builtin} {p : Program} {w : World} {n₀ : Nat} {ann : Option Value}
def topRunT (tb : String → Option Builtin) (p : Program) (w : World) (n₀ : Nat) (ann : Option Value) : Nat → SharedT → Thread → Option SharedT
  | 0, _, _ => none
  | n + 1, s, t => match through t with
    | true => some s
    | false => match stepOk n₀ ann t with
      | false => none
      | true => match stepT (denote tb) p w s t with
        | some (s', t') => topRunT tb p w n₀ ann n s' t'
        | none => none
theorem topRunT_of : ∀ {n : Nat} {s s' : SharedT} {t : Thread}, topRunT tb p w n₀ ann n s t = some s' → topRun tb p w n₀ ann n s.abs t = some s'.abs
  | 0, _, _, _, h => by cases h
  | n + 1, s, s', t, h => by
    unfold topRunT at h
    unfold topRun
    cases he : through t with
    | true => rw [he] at h; cases h; rfl
    | false =>
      rw [he] at h
      cases hk : stepOk n₀ ann t with
      | false => rw [hk] at h; cases h
      | true =>
        rw [hk] at h
        cases hs : stepT (denote tb) p w s t with
        | none => rw [hs] at h; cases h
        | some r => obtain ⟨s₂, t₂⟩ := r; rw [hs] at h; rw [stepT_spec hs]; exact topRunT_of h
end
theorem left_gen {α : Type} {p q : Program} {loose : List Str} {Xt : Shared → Bool} {Yf : Shared → α} {Ya : World → α} {N : Nat} {H₀ : Params → Heap} {d₀ : Drawn} {k₀ : Nat} {T : Params → BT}
    (boot : ∀ w : World, (fencedOpening treeTable p w N).map (fun s => (s.heap, s.gens, s.drawn, s.toks)) = some (H₀ w.params, Array.mk [], d₀, k₀))
    (ns : ∀ w : World, (H₀ w.params).isNs mainGlobals = true) (abs : ∀ P, absHeap (T P) (H₀ P).objs.size (H₀ P).life = H₀ P)
    (A : ∀ (w : World) (os : OsState), (topRunT treeTable p w (H₀ w.params).objs.size ((H₀ w.params).nsMap mainGlobals "__annotations__") N ⟨T w.params, (H₀ w.params).objs.size, (H₀ w.params).life, #[], d₀, k₀, os⟩ (topStub p)).map
      (fun s => staticsOk (importedModules p.main.body) (H₀ w.params) s.abs.heap && namesBound p s.abs.heap && gensDone s.abs && laidKept (H₀ w.params) s.abs.heap) = some true)
    (B : ∀ (w : World) (os : OsState), (topRunT treeTable p w (H₀ w.params).objs.size ((H₀ w.params).nsMap mainGlobals "__annotations__") N ⟨T w.params, (H₀ w.params).objs.size, (H₀ w.params).life, #[], d₀, k₀, os⟩ (topStub p)).map
      (fun s => openSeen q loose (importedModules p.main.body) Xt true s.abs) = some (openGood q loose))
    (C : ∀ (w : World) (os : OsState), (topRunT treeTable p w (H₀ w.params).objs.size ((H₀ w.params).nsMap mainGlobals "__annotations__") N ⟨T w.params, (H₀ w.params).objs.size, (H₀ w.params).life, #[], d₀, k₀, os⟩ (topStub p)).map
      (fun s => Yf s.abs) = some (Ya w)) : LeftO p q loose Xt Yf Ya N := fun w => by
  obtain ⟨⟨h, gs, d, k, os⟩, e, e'⟩ := Option.map_eq_some_iff.mp (boot w)
  simp only [Prod.mk.injEq] at e'
  obtain ⟨rfl, rfl, rfl, rfl⟩ := e'
  obtain ⟨s, hs, hA⟩ := Option.map_eq_some_iff.mp (A w os)
  have hB := B w os
  have hC := C w os
  rw [hs] at hB hC
  have hB' := Option.some.inj hB
  have hC' := Option.some.inj hC
  have hr := topRunT_of hs
  unfold openEnds
  rw [e]
  show (topFrom treeTable p w N _).map _ = _
  have e2 : SharedT.abs ⟨T w.params, (H₀ w.params).objs.size, (H₀ w.params).life, #[], d, k, os⟩ = ⟨H₀ w.params, #[], d, k, os⟩ := by
    unfold SharedT.abs
    rw [abs]
  rw [e2] at hr
  unfold topFrom
  have e3 : ((Shared.mk (H₀ w.params) #[] d k os).heap.isNs mainGlobals && (Shared.mk (H₀ w.params) #[] d k os).gens.size == 0) = true := by
    show ((H₀ w.params).isNs mainGlobals && _) = true
    rw [ns w]; rfl
  rw [e3]
  show ((topRun _ _ _ _ _ _ _ _).bind _).map _ = _
  rw [hr]
  show (match (staticsOk (importedModules p.main.body) (H₀ w.params) s.abs.heap && namesBound p s.abs.heap && gensDone s.abs && laidKept (H₀ w.params) s.abs.heap) with | true => some s.abs | false => none).map _ = _
  rw [hA]
  exact congrArg some (Prod.ext hB' hC')
def mkBT (os : List Obj) : Nat → Nat → Nat → BT
  | 0, _, _ => .nil
  | f + 1, a, b => match os[b]? with
    | some o => .node o (mkBT os f (2 * a) (a + b)) (mkBT os f (2 * a) (2 * a + b))
    | none => .nil
theorem boot_abs : ∀ P, absHeap (mkBT (boot_heap P).objs.toList 8 1 0) (boot_heap P).objs.size (boot_heap P).life = boot_heap P := by intro P; kernel_rfl
abbrev pr : Program := PySem.Challenge.rw_tk0108_01.row.prog
noncomputable abbrev R0 (w : World) (os : OsState) : Option SharedT := topRunT treeTable pr w (boot_heap w.params).objs.size ((boot_heap w.params).nsMap mainGlobals "__annotations__") 5666
  ⟨mkBT (boot_heap w.params).objs.toList 8 1 0, (boot_heap w.params).objs.size, (boot_heap w.params).life, #[], boot_drawn, boot_toks, os⟩ (topStub pr)
def vw : Program := PySem.W.view PySem.Challenge.pw_tk0108_01 [1, 2, 3, 4, 5, 6, 7, 8, 9, 10, 11, 12, 14, 15, 16, 18, 19, 20, 21, 23, 24, 25, 26, 27, 28, 29, 30, 31, 32, 33, 34, 35, 36, 37, 38, 39, 40, 42, 43, 44, 45, 46, 47, 48, 49, 50, 52, 54, 55]
abbrev lo : List Str := [Str.ofString "SnobolError", Str.ofString "plain_count"]
abbrev Xq (s : Shared) : Bool := xlAt vw [] s && recOk (RowW.records PySem.Challenge.rw_tk0108_01.row.toRowW) s
theorem boot_is : ∀ w : World, (fencedOpening treeTable pr w 5666).map (fun s => (s.heap, s.gens, s.drawn, s.toks)) = some (boot_heap w.params, Array.mk [], boot_drawn, boot_toks) :=
  boot_open (by kernel_rfl) (by decide) (fun _ => rfl)
theorem boot_ns : ∀ w : World, (boot_heap w.params).isNs mainGlobals = true := by intro w; kernel_rfl
theorem partA : ∀ (w : World) (os : OsState), (R0 w os).map (fun s => staticsOk (importedModules pr.main.body) (boot_heap w.params) s.abs.heap && namesBound pr s.abs.heap && gensDone s.abs && laidKept (boot_heap w.params) s.abs.heap) = some true := by intro w os; kernel_rfl
theorem partB : ∀ (w : World) (os : OsState), (R0 w os).map (fun s => openSeen vw lo (importedModules pr.main.body) Xq true s.abs) = some (openGood vw lo) := by intro w os; kernel_rfl
theorem said : OpenLaw.wellSaid PySem.Challenge.rw_tk0108_01 = true := by kernel_rfl
end Mine

namespace Mine
local macro_rules | `(tactic| o_head $H) => `(tactic| (
  refine holds_open (q := Mine.vw) (loose := Mine.lo) (Xt := Mine.Xq) (XP := XL Mine.vw []) (Yf := Hook.obs $H) (Ya := Hook.val $H) (YP := Hook.says $H) (N := 5666)
    (Mine.left_gen Mine.boot_is Mine.boot_ns Mine.boot_abs Mine.partA Mine.partB (by intro w os; kernel_rfl)) (Hook.of $H) (Hook.keeps $H) (fun s e => xl_of s (Bool.and_eq_true_iff.mp e).1) XL.keeps (by rfl) (by rfl) (by rfl) (fun s e => recFacts_of (Bool.and_eq_true_iff.mp e).2) (by rfl) (by first | assumption | decide +kernel) (by decide +kernel) ⟨rfl, rfl, rfl, rfl, rfl, by decide +kernel⟩ ?hw ?hc))
local macro_rules | `(tactic| o_law) => `(tactic| (refine holds_law Mine.said fun said => ?_))
set_option maxHeartbeats 8000000 in
open_top hd for PySem.Challenge.rw_tk0108_01
end Mine
open PySem PySem.W PyProof.Rows PySem.Spec PySem.Calls PyProof.V
namespace Mine
def Hold (P : Prop) : Prop := P
theorem Hold.intro {P : Prop} (h : Hold P) : P := h
end Mine

namespace Mine
structure HK where
  h1 : Int
  h2 : Int
  h3 : Int
  h4 : Int
  h5 : Int
  h6 : Int
  k1 : Tok
  k2 : Tok
  k3 : Tok
  k4 : Tok
  k5 : Tok
  k6 : Tok
  t2 : Tok
  t4 : Tok
abbrev hostEs (c : HK) (vd rf lg : Addr) (steps : Int) (t : Tok) : List DictEntry :=
  [⟨c.h1, .str (Str.ofString "values") c.k1, .ref vd⟩, ⟨c.h2, .str (Str.ofString "limit") c.k2, .int 9999 c.t2⟩,
   ⟨c.h3, .str (Str.ofString "refused") c.k3, .ref rf⟩, ⟨c.h4, .str (Str.ofString "width") c.k4, .int 64 c.t4⟩,
   ⟨c.h5, .str (Str.ofString "steps") c.k5, .int steps t⟩, ⟨c.h6, .str (Str.ofString "log") c.k6, .ref lg⟩]
abbrev hostLed (host dh lg vd : Addr) (c : HK) (rf : Addr) (steps : Int) (t : Tok) (lv : Array Value) (ln : Nat) (o : Obj) : List (Addr × Obj) → List (Addr × Obj) :=
  fun fr => (host, instObj 407 dh) :: (dh, dictOf (hostEs c vd rf lg steps t) 6) :: (lg, W.listOf lv ln) :: (vd, o) :: fr
structure Apart (host dh lg vd : Nat) : Prop where
  a1 : host ≠ dh
  a2 : host ≠ lg
  a3 : host ≠ vd
  a4 : dh ≠ lg
  a5 : dh ≠ vd
  a6 : lg ≠ vd
structure Off (fr : List (Addr × Obj)) (dh lg vd : Addr) : Prop where
  o1 : ∀ q ∈ fr, q.1 ≠ dh
  o2 : ∀ q ∈ fr, q.1 ≠ lg
  o3 : ∀ q ∈ fr, q.1 ≠ vd
structure ValsAre (w : World) (vd : Addr) (o : Obj) (kvs : List (Str × Value)) (D : List (PyData × PyData)) : Prop where
  lo : (vd == sysModules) = false
  is : o.IsDictOf (strKind PySem.Challenge.rw_tk0108_01.row.prog w) kvs
  flat : FlatPairs PyData.str kvs D
end Mine
namespace Mine
inductive Kd where
  | len | pos | rpos | tab | rtab | rem
abbrev tupO (vs : Array Value) : Obj := { cls := .type "tuple", data := .seq vs }
inductive PartIs : Obj → Kd → Int → Prop
  | len {k : Int} {t u : Tok} : PartIs (tupO #[.str (Str.ofString "len") t, .int k u]) .len k
  | pos {k : Int} {t u : Tok} : PartIs (tupO #[.str (Str.ofString "pos") t, .int k u]) .pos k
  | rpos {k : Int} {t u : Tok} : PartIs (tupO #[.str (Str.ofString "rpos") t, .int k u]) .rpos k
  | tab {k : Int} {t u : Tok} : PartIs (tupO #[.str (Str.ofString "tab") t, .int k u]) .tab k
  | rtab {k : Int} {t u : Tok} : PartIs (tupO #[.str (Str.ofString "rtab") t, .int k u]) .rtab k
  | rem {k : Int} {t : Tok} : PartIs (tupO #[.str (Str.ofString "rem") t]) .rem k
def endOf (kd : Kd) (told size at_ : Int) : Option Int := match kd with
  | .len => if at_ + told ≤ size then some (at_ + told) else none
  | .pos => if at_ = told then some at_ else none
  | .rpos => if size - at_ = told then some at_ else none
  | .tab => if at_ ≤ told ∧ told ≤ size then some told else none
  | .rtab => if at_ ≤ size - told then some (size - told) else none
  | .rem => some size
end Mine
namespace Mine
def NameRefIn (fr : List (Addr × Obj)) (r : Addr) (x : Str) : Prop :=
  ∃ (rd : Addr) (hk1 hk2 hk3 : Int) (kt1 kt2 kt3 kt : Tok) (vk vo : Value), (r, instObj 110 rd) ∈ fr ∧
    (rd, dictOf [⟨hk1, .str (Str.ofString "kind") kt1, vk⟩, ⟨hk2, .str (Str.ofString "owner") kt2, vo⟩, ⟨hk3, .str (Str.ofString "key") kt3, .str x kt⟩] 3) ∈ fr ∧
    kqdOk 8 (Dat.str x) = true
theorem NameRefIn.mono {fr fr' : List (Addr × Obj)} {r : Addr} {x : Str} (hs : ∀ p ∈ fr, p ∈ fr') : NameRefIn fr r x → NameRefIn fr' r x
  | ⟨rd, h1, h2, h3, k1, k2, k3, kt, vk, vo, a, b, q⟩ => ⟨rd, h1, h2, h3, k1, k2, k3, kt, vk, vo, hs _ a, hs _ b, q⟩
theorem news_tail {h₀ h : Heap} {L : Addr} {p : Addr × Obj} {r : List (Addr × Obj)} (N : News h₀ L h (p :: r)) : News h₀ L h r := fun q hq => N q (List.mem_cons_of_mem _ hq)
end Mine
namespace Mine
theorem news_drop1 {h₀ h : Heap} {L : Addr} {y a : Addr × Obj} {r : List (Addr × Obj)} (N : News h₀ L h (y :: a :: r)) : News h₀ L h (y :: r) := fun q hq => N q (by
  rcases List.mem_cons.mp hq with rfl | hq
  · exact .head _
  · exact .tail _ (.tail _ hq))
theorem news_drop2 {h₀ h : Heap} {L : Addr} {y a b : Addr × Obj} {r : List (Addr × Obj)} (N : News h₀ L h (y :: a :: b :: r)) : News h₀ L h (y :: r) := news_drop1 (news_drop1 N)
theorem news_drop3 {h₀ h : Heap} {L : Addr} {y a b c : Addr × Obj} {r : List (Addr × Obj)} (N : News h₀ L h (y :: a :: b :: c :: r)) : News h₀ L h (y :: r) := news_drop1 (news_drop2 N)
end Mine

namespace Mine
section
variable {prog : Program} {w : World} {A : Around} {E : Value → Shared → Prop} {s : Shared} {h₀ : Heap} {L : Addr} {m : Str → Option Value} {K : Frag}
def isS (x : Str) (y : Value) : Bool := match y with
  | .str z _ => z == x
  | _ => false
theorem strs_eqAt {A : Around} {s : Shared} {ks : List (Str × Tok)} {x : Str} {t : Tok} : ∀ y, y ∈ (ks.map fun p => Value.str p.1 p.2).toArray → SeqAt.EqAt A s y (.str x t) (isS x y) := by
  intro y hy
  have hy' : y ∈ ks.map fun p => Value.str p.1 p.2 := by simpa using hy
  obtain ⟨p, _, rfl⟩ := List.mem_map.mp hy'
  exact SeqAt.EqAt.str_str _ _ _ _
theorem strs_any {ks : List (Str × Tok)} {x : Str} : (ks.map fun p => Value.str p.1 p.2).toArray.any (isS x) = ks.any fun p => p.1 == x := by
  rw [← Array.any_toList]
  simp only [List.any_map]
  rfl
theorem notin_K {a : Addr} {ks : List (Str × Tok)} {x : Str} {t : Tok} {b : Bool} {Q : Value → Shared → Prop} (F : Fr h₀ L s.heap m) (X : K.In h₀) (e : K.lookup a = some (tupO (ks.map fun p => Value.str p.1 p.2).toArray))
    (hb : (!(ks.any fun p => p.1 == x)) = b) (h : Q (.bool b) s) : wpAny (model prog w) A (compareOp .NotIn (.str x t) (.ref a)) Q E s :=
  SeqAt.notIn_tupleAt _ ⟨_, F.keep _ _ (X _ _ e), rfl, _, rfl⟩ strs_eqAt (by rw [strs_any, hb]; exact h)
theorem in_K {a : Addr} {ks : List (Str × Tok)} {x : Str} {t : Tok} {b : Bool} {Q : Value → Shared → Prop} (F : Fr h₀ L s.heap m) (X : K.In h₀) (e : K.lookup a = some (tupO (ks.map fun p => Value.str p.1 p.2).toArray))
    (hb : (ks.any fun p => p.1 == x) = b) (h : Q (.bool b) s) : wpAny (model prog w) A (compareOp .In (.str x t) (.ref a)) Q E s :=
  SeqAt.in_tupleAt _ ⟨_, F.keep _ _ (X _ _ e), rfl, _, rfl⟩ strs_eqAt (by rw [strs_any, hb]; exact h)
end
abbrev countedKs : List (Str × Tok) := [(Str.ofString "len", 394), (Str.ofString "pos", 395), (Str.ofString "rpos", 396), (Str.ofString "tab", 397), (Str.ofString "rtab", 398)]
abbrev signedKs : List (Str × Tok) := [(Str.ofString "any", 400), (Str.ofString "notany", 401), (Str.ofString "span", 402), (Str.ofString "break", 403)]
end Mine

namespace Mine
inductive Nd where
  | cur (x : Str)
  | part (kd : Kd) (told : Int)
  | fail
  | cat (l r : Nd)
inductive NodeIn (fr : List (Addr × Obj)) : Value → Nd → Prop
  | cur {a r : Addr} {t : Tok} {x : Str} : (a, tupO #[.str (Str.ofString "cursor") t, .ref r]) ∈ fr → NameRefIn fr r x → NodeIn fr (.ref a) (.cur x)
  | part {a : Addr} {ob : Obj} {kd : Kd} {told : Int} : (a, ob) ∈ fr → PartIs ob kd told → NodeIn fr (.ref a) (.part kd told)
  | fail {a : Addr} {t : Tok} : (a, tupO #[.str (Str.ofString "fail") t]) ∈ fr → NodeIn fr (.ref a) .fail
  | cat {a : Addr} {t : Tok} {v1 v2 : Value} {l r : Nd} : (a, tupO #[.str (Str.ofString "cat") t, v1, v2]) ∈ fr → NodeIn fr v1 l → NodeIn fr v2 r → NodeIn fr (.ref a) (.cat l r)
theorem NodeIn.mono {fr fr' : List (Addr × Obj)} (hs : ∀ p ∈ fr, p ∈ fr') {v : Value} {d : Nd} (h : NodeIn fr v d) : NodeIn fr' v d := by
  induction h with
  | cur h r => exact .cur (hs _ h) (r.mono hs)
  | part h r => exact .part (hs _ h) r
  | fail h => exact .fail (hs _ h)
  | cat h _ _ i1 i2 => exact .cat (hs _ h) i1 i2
inductive ChainIn (fr : List (Addr × Obj)) : Value → List Nd → Prop
  | nil : ChainIn fr .none []
  | cons {c : Addr} {v rest : Value} {d : Nd} {ds : List Nd} : (c, tupO #[v, rest]) ∈ fr → NodeIn fr v d → ChainIn fr rest ds → ChainIn fr (.ref c) (d :: ds)
theorem ChainIn.mono {fr fr' : List (Addr × Obj)} (hs : ∀ p ∈ fr, p ∈ fr') {v : Value} {ds : List Nd} (h : ChainIn fr v ds) : ChainIn fr' v ds := by
  induction h with
  | nil => exact .nil
  | cons h r _ ih => exact .cons (hs _ h) (r.mono hs) ih
def Nd.size : Nd → Nat
  | .cat l r => l.size + r.size + 1
  | _ => 1
def csize : List Nd → Nat
  | [] => 0
  | d :: ds => d.size + csize ds
def Nd.go (size : Int) : Nd → Int → List (Str × Int) → Option Int × List (Str × Int)
  | .cur x, i, log => (some i, log ++ [(x, i)])
  | .part kd told, i, log => (endOf kd told size i, log)
  | .fail, _, log => (none, log)
  | .cat l r, i, log => match l.go size i log with
    | (some e, log') => r.go size e log'
    | (none, log') => (none, log')
def runs (size : Int) : List Nd → Int → List (Str × Int) → Option Int × List (Str × Int)
  | [], i, log => (some i, log)
  | d :: ds, i, log => match d.go size i log with
    | (some e, log') => runs size ds e log'
    | (none, log') => (none, log')
theorem runs_cat (size : Int) (l r : Nd) (ds : List Nd) (i : Int) (log : List (Str × Int)) : runs size (.cat l r :: ds) i log = runs size (l :: r :: ds) i log := by
  simp only [runs, Nd.go]
  cases l.go size i log with
  | mk a b => cases a <;> rfl
theorem runs_cur (size : Int) (x : Str) (ds : List Nd) (i : Int) (log : List (Str × Int)) : runs size (.cur x :: ds) i log = runs size ds i (log ++ [(x, i)]) := rfl
theorem runs_fail (size : Int) (ds : List Nd) (i : Int) (log : List (Str × Int)) : runs size (.fail :: ds) i log = (none, log) := rfl
theorem runs_part_none {size : Int} {kd : Kd} {told : Int} (ds : List Nd) {i : Int} (log : List (Str × Int)) (h : endOf kd told size i = none) : runs size (.part kd told :: ds) i log = (none, log) := by
  simp only [runs, Nd.go, h]
theorem runs_part_some {size : Int} {kd : Kd} {told e : Int} (ds : List Nd) {i : Int} (log : List (Str × Int)) (h : endOf kd told size i = some e) : runs size (.part kd told :: ds) i log = runs size ds e log := by
  simp only [runs, Nd.go, h]
theorem csize_cat (l r : Nd) (ds : List Nd) : csize (.cat l r :: ds) = csize (l :: r :: ds) + 1 := by
  simp only [csize, Nd.size]; omega
abbrev lgD (p : Str × Int) : Dat := .tuple [.str p.1, .int p.2]
structure HostOk (w : World) (dh lg vd : Addr) (fr dfr : List (Addr × Obj)) (steps : Int) (lv : Array Value) (o : Obj) (log : List (Str × Int)) : Prop where
  off : Off fr dh lg vd
  vals : ∃ kvs D, ValsAre w vd o kvs D ∧ D.length ≤ lv.size
  log : DatAll dfr lv.toList (log.map lgD)
  pos : 0 ≤ steps
  few : (lv.size : Int) ≤ steps
def Newer (tl fr : List (Addr × Obj)) : Prop := ∀ p ∈ tl, ∀ q ∈ fr, @LT.lt Nat _ q.1 p.1
theorem Newer.nil {fr : List (Addr × Obj)} : Newer [] fr := fun _ hp => nomatch hp
theorem Newer.cons {tl fr : List (Addr × Obj)} {y : Addr} {o : Obj} (h : Newer tl fr) (hy : ∀ q ∈ fr, @LT.lt Nat _ q.1 y) : Newer ((y, o) :: tl) fr := by
  intro p hp
  rcases List.mem_cons.mp hp with rfl | hp
  · exact hy
  · exact h p hp
theorem Newer.append {tl tl' fr : List (Addr × Obj)} (h : Newer tl fr) (h' : Newer tl' (tl ++ fr)) : Newer (tl' ++ tl) fr := by
  intro p hp q hq
  rcases List.mem_append.mp hp with hp | hp
  · exact h' p hp q (List.mem_append.mpr (.inr hq))
  · exact h p hp q hq
theorem lt_tail {y : Nat} {tl fr : List (Addr × Obj)} (h : AllLt y (tl ++ fr)) : ∀ q ∈ fr, @LT.lt Nat _ q.1 y := fun q hq => tb_ltOf h q (List.mem_append.mpr (.inr hq))
theorem lt_more {y z : Nat} {fr : List (Addr × Obj)} (h : ∀ q ∈ fr, @LT.lt Nat _ q.1 y) (hz : @LT.lt Nat _ y z) : ∀ q ∈ fr, @LT.lt Nat _ q.1 z := fun q hq => Nat.lt_trans (h q hq) hz
theorem app_mono {tl dfr fr : List (Addr × Obj)} (h : ∀ p ∈ dfr, p ∈ fr) : ∀ p ∈ tl ++ dfr, p ∈ tl ++ fr := fun p hp => List.mem_append.mpr ((List.mem_append.mp hp).imp id (h p))
theorem app_right {tl fr : List (Addr × Obj)} : ∀ p ∈ fr, p ∈ tl ++ fr := fun _ hp => List.mem_append.mpr (.inr hp)
theorem Off.sub {fr fr' : List (Addr × Obj)} {dh lg vd : Addr} (h : Off fr dh lg vd) (hs : ∀ p ∈ fr', p ∈ fr) : Off fr' dh lg vd := ⟨fun q hq => h.o1 q (hs q hq), fun q hq => h.o2 q (hs q hq), fun q hq => h.o3 q (hs q hq)⟩
theorem Off.cons {fr : List (Addr × Obj)} {dh lg vd : Addr} {p : Addr × Obj} (h : Off fr dh lg vd) (h1 : p.1 ≠ dh) (h2 : p.1 ≠ lg) (h3 : p.1 ≠ vd) : Off (p :: fr) dh lg vd :=
  ⟨List.forall_mem_cons.mpr ⟨h1, h.o1⟩, List.forall_mem_cons.mpr ⟨h2, h.o2⟩, List.forall_mem_cons.mpr ⟨h3, h.o3⟩⟩
def TriedJ (w : World) (host dh lg vd rf : Addr) (c : HK) (four fr dfr : List (Addr × Obj)) (nmv : Value) (size : Int) (res : Option Int × List (Str × Int)) (bound : Int) (m₀ : Str → Option Value) : Nat → (Str → Option Value) → List (Addr × Obj) → Prop := fun n m news =>
  ∃ (ds : List Nd) (cv : Value) (i : Int) (it : Tok) (tl fr' dfr' : List (Addr × Obj)) (steps : Int) (t : Tok) (lv : Array Value) (ln : Nat) (o : Obj) (log : List (Str × Int)),
    fr' = tl ++ (four ++ fr) ∧ dfr' = tl ++ (four ++ dfr) ∧
    n = csize ds ∧ news = hostLed host dh lg vd c rf steps t lv ln o fr' ∧ m (Str.ofString "chain") = some cv ∧ m (Str.ofString "at") = some (.int i it) ∧ m (Str.ofString "named") = some nmv ∧
    (∀ y, y ≠ Str.ofString "chain" → y ≠ Str.ofString "at" → y ≠ Str.ofString "named" → y ≠ Str.ofString "way" → m y = m₀ y) ∧ ChainIn dfr' cv ds ∧ Newer tl (four ++ fr) ∧
    HostOk w dh lg vd fr' dfr' steps lv o log ∧ runs size ds i log = res ∧ steps + csize ds ≤ bound
theorem jsub {tl four fr dfr fr' dfr' : List (Addr × Obj)} (h1 : fr' = tl ++ (four ++ fr)) (h2 : dfr' = tl ++ (four ++ dfr)) (h : ∀ p ∈ dfr, p ∈ fr) : ∀ p ∈ dfr', p ∈ fr' := by
  subst h1 h2; exact app_mono (app_mono h)
theorem jin {tl four fr fr' : List (Addr × Obj)} (h1 : fr' = tl ++ (four ++ fr)) : ∀ q ∈ fr, q ∈ fr' := fun q h => by subst h1; exact app_right _ (app_right _ h)
theorem j1 {tl fr fr' : List (Addr × Obj)} {a b c d : Addr × Obj} (h1 : fr' = tl ++ ([a, b, c, d] ++ fr)) : a ∈ fr' := by subst h1; exact List.mem_append.mpr (.inr (.head _))
theorem j3 {tl fr fr' : List (Addr × Obj)} {a b c d : Addr × Obj} (h1 : fr' = tl ++ ([a, b, c, d] ++ fr)) : c ∈ fr' := by subst h1; exact List.mem_append.mpr (.inr (.tail _ (.tail _ (.head _))))
theorem jlt {tl four fr fr' : List (Addr × Obj)} {y : Nat} (h1 : fr' = tl ++ (four ++ fr)) (h : AllLt y fr') : ∀ q ∈ four ++ fr, @LT.lt Nat _ q.1 y := by subst h1; exact lt_tail h
theorem jdone {tl four fr fr' : List (Addr × Obj)} (h1 : fr' = tl ++ (four ++ fr)) : fr' = (tl ++ four) ++ fr := by subst h1; simp
theorem frame_four {m₁ m₀ : Str → Option Value} {c1 c2 c3 c4 : Str} {v1 v2 v3 : Value} (h1 : m₁ c1 = some v1) (h2 : m₁ c2 = some v2) (h3 : m₁ c3 = some v3) (hr : ∀ y, y ≠ c1 → y ≠ c2 → y ≠ c3 → y ≠ c4 → m₁ y = m₀ y) :
    m₁ = fun y => if y = c1 then some v1 else if y = c2 then some v2 else if y = c3 then some v3 else if y = c4 then m₁ c4 else m₀ y := by
  funext y
  by_cases e1 : y = c1
  · subst e1; simp [h1]
  by_cases e2 : y = c2
  · subst e2; simp [h2, e1]
  by_cases e3 : y = c3
  · subst e3; simp [h3, e1, e2]
  by_cases e4 : y = c4
  · subst e4; simp [e1, e2, e3]
  · simp [e1, e2, e3, e4, hr y e1 e2 e3 e4]
end Mine
namespace Mine
theorem reorder4 {h₀ h : Heap} {L : Addr} {p1 p2 p3 p4 a b c d : Addr × Obj} {fr : List (Addr × Obj)} (N : News h₀ L h (p1 :: p2 :: p3 :: p4 :: a :: b :: c :: d :: fr)) :
    News h₀ L h (a :: b :: c :: d :: p1 :: p2 :: p3 :: p4 :: fr) := fun q hq => N q (by simp only [List.mem_cons] at hq ⊢; grind)
theorem reorder3 {h₀ h : Heap} {L : Addr} {p1 p2 p3 a b c d : Addr × Obj} {fr : List (Addr × Obj)} (N : News h₀ L h (p1 :: p2 :: p3 :: a :: b :: c :: d :: fr)) :
    News h₀ L h (a :: b :: c :: d :: p1 :: p2 :: p3 :: fr) := fun q hq => N q (by simp only [List.mem_cons] at hq ⊢; grind)
theorem reorder2 {h₀ h : Heap} {L : Addr} {p1 p2 a b c d : Addr × Obj} {fr : List (Addr × Obj)} (N : News h₀ L h (p1 :: p2 :: a :: b :: c :: d :: fr)) :
    News h₀ L h (a :: b :: c :: d :: p1 :: p2 :: fr) := fun q hq => N q (by simp only [List.mem_cons] at hq ⊢; grind)
theorem reorder1 {h₀ h : Heap} {L : Addr} {p1 a b c d : Addr × Obj} {fr : List (Addr × Obj)} (N : News h₀ L h (p1 :: a :: b :: c :: d :: fr)) :
    News h₀ L h (a :: b :: c :: d :: p1 :: fr) := fun q hq => N q (by simp only [List.mem_cons] at hq ⊢; grind)
theorem csize_pos (d : Nd) (ds : List Nd) : csize ds + 1 ≤ csize (d :: ds) := by
  have : 1 ≤ d.size := by cases d <;> simp [Nd.size]
  simp only [csize]; omega
end Mine
namespace Mine
theorem sub1 {α : Type} {a : α} {fr : List α} : ∀ p ∈ fr, p ∈ a :: fr := fun _ hp => .tail _ hp
theorem sub2 {α : Type} {a b : α} {fr : List α} : ∀ p ∈ fr, p ∈ a :: b :: fr := fun _ hp => .tail _ (.tail _ hp)
theorem sub3 {α : Type} {a b c : α} {fr : List α} : ∀ p ∈ fr, p ∈ a :: b :: c :: fr := fun _ hp => .tail _ (.tail _ (.tail _ hp))
theorem sub4 {α : Type} {a b c d : α} {fr : List α} : ∀ p ∈ fr, p ∈ a :: b :: c :: d :: fr := fun _ hp => .tail _ (.tail _ (.tail _ (.tail _ hp)))
end Mine
namespace Mine
theorem eq_tup_str {prog : Program} {w : World} {A : Around} {E : Value → Shared → Prop} {s : Shared} {h₀ : Heap} {L l : Addr} {news : List (Addr × Obj)} {vs : Array Value} {x : Str} {t : Tok} {Q : Value → Shared → Prop}
    (N : News h₀ L s.heap news) (hm : (l, tupO vs) ∈ news) (hu : A.units < cLine) (h : Q (.bool false) s) : wpAny (model prog w) A (compareOp .Eq (.ref l) (.str x t)) Q E s :=
  SeqAt.RcAt.tuple_str x t ⟨_, N.get hm, rfl, _, rfl⟩ hu prog w E Q h
end Mine
namespace Mine
theorem mem4_3 {α : Type} {tl fr : List α} {a b c d : α} : c ∈ tl ++ ([a, b, c, d] ++ fr) := List.mem_append.mpr (.inr (.tail _ (.tail _ (.head _))))
theorem mem4_1 {α : Type} {tl fr : List α} {a b c d : α} : a ∈ tl ++ ([a, b, c, d] ++ fr) := List.mem_append.mpr (.inr (.head _))
theorem cons_mono {α : Type} {a : α} {l l' : List α} (h : ∀ p ∈ l, p ∈ l') : ∀ p ∈ a :: l, p ∈ a :: l' := fun p hp => by
  rcases List.mem_cons.mp hp with rfl | hp
  · exact .head _
  · exact .tail _ (h p hp)
end Mine
namespace Mine
theorem newer4 {a b c d : Addr × Obj} {fr : List (Addr × Obj)} (h1 : AllLt a.1 fr) (h2 : AllLt b.1 fr) (h3 : AllLt c.1 fr) (h4 : AllLt d.1 fr) : Newer [a, b, c, d] fr :=
  ((((Newer.nil (fr := fr)).cons (o := d.2) (tb_ltOf h4)).cons (o := c.2) (tb_ltOf h3)).cons (o := b.2) (tb_ltOf h2)).cons (o := a.2) (tb_ltOf h1)
end Mine
namespace Mine
theorem qq3 {α : Type} {a b c : α} {fr' tl r : List α} (h : fr' = tl ++ r) : a :: b :: c :: fr' = (a :: b :: c :: tl) ++ r := by rw [h]; rfl
theorem qq2 {α : Type} {a b : α} {fr' tl r : List α} (h : fr' = tl ++ r) : a :: b :: fr' = (a :: b :: tl) ++ r := by rw [h]; rfl
theorem qq1 {α : Type} {a : α} {fr' tl r : List α} (h : fr' = tl ++ r) : a :: fr' = (a :: tl) ++ r := by rw [h]; rfl
end Mine

namespace Mine
section
variable {prog : Program} {w : World} {A : Around} {E : Value → Shared → Prop} {s : Shared} {env : Env} {h₀ : Heap} {x : Str} {body : List Stmt} {Q : Flow → Shared → Prop}
theorem my_range {r : Addr} {a₀ b₀ : Int} {t₀ u₀ v₀ : Tok} {n : Nat} {m₀ : Str → Option Value} {news : List (Addr × Obj)} (J : Nat → (Str → Option Value) → List (Addr × Obj) → Prop)
    (hh : A.handled = none) (hr : IsRange s.heap r a₀ b₀ 1 t₀ u₀ v₀) (hsmall : Builtin.Range.small a₀ b₀ 1 = true) (hsz : Builtin.Range.rangeSize a₀ b₀ 1 = (n : Int)) (F : Fr h₀ env.locals s.heap m₀) (N : News h₀ env.locals s.heap news) (hj : J 0 m₀ news)
    (turn : ∀ i t m₁ nx h tk own, i < n → OwnOff own (nx.map (·.1)) → J i m₁ nx → Fr h₀ env.locals h (fun y => if y = x then some (.int (a₀ + (i : Int)) t) else m₁ y) → News h₀ env.locals h (nx ++ own) →
      wpAny (model prog w) A (execs body env) (InvPostG h₀ env.locals (J (i + 1)) own { s with heap := h, toks := tk } Q) E { s with heap := h, toks := tk })
    (done : ∀ m₁ nx h tk, J n m₁ nx → Fr h₀ env.locals h m₁ → News h₀ env.locals h nx → Q .next { s with heap := h, toks := tk }) :
    wpAny (model prog w) A (pyIter (.ref r)) (fun it s₂ => LoopAtV prog w A h₀ env x body Q E it s₂) E s := by
  refine wpAny_pyIter_range hr hsmall ?_
  have W : Walks prog w A s.heap.objs.size [s.heap.objs.size] [s.heap.objs.size] n (fun i v => i < n ∧ ∃ t, v = .int (a₀ + (i : Int) * 1) t)
      (fun i h => IsRangeIter h s.heap.objs.size (a₀ + (i : Nat) * 1) ((n : Int) - (i : Nat)) 1) := (Walks.range hh _ a₀ 1 n).bound
  refine kdr_loop J W (fun _ h => h) (fun _ h => h) ?_ ?_ ?_ ?_ (by show IsRangeIter _ _ _ _ _; rw [hsz]; simpa using Heap.get?_push_size _ rfl) (F.push _) (fun p hp => ⟨Heap.get?_push_of_some _ (N p hp).1, (N p hp).2⟩) hj ?_ ?_
  · intro i h hi b hb
    rw [List.mem_singleton.mp hb]
    exact ⟨_, hi⟩
  · intro hm
    exact absurd F.ns.lt ((List.mem_singleton.mp hm) ▸ Nat.lt_irrefl _)
  · intro b hb
    rw [List.mem_singleton.mp hb]
    exact next_is_new F
  · intro p hp hI
    exact absurd (Heap.lt_size (N p hp).1) ((List.mem_singleton.mp hI) ▸ Nat.lt_irrefl _)
  · rintro i v m₁ nx h tk own hi ⟨_, t, rfl⟩ hoff hJ F₁ N₁
    have e1 : a₀ + (i : Int) * 1 = a₀ + (i : Int) := by omega
    rw [e1] at F₁
    exact turn i t m₁ nx h tk own hi hoff hJ F₁ N₁
  · rintro m₁ nx h tk hJ F₁ N₁
    exact done m₁ nx h tk hJ F₁ N₁
end
def mplain (size : Int) (d : Nd) : List Int → List (Str × Int) → Option (Int × Int) × List (Str × Int)
  | [], log => (none, log)
  | b :: bs, log => match runs size [d] b log with
    | (some e, l) => (some (b, e), l)
    | (none, l) => mplain size d bs l
theorem OwnOff.tail4 {own : List (Addr × Obj)} {p1 p2 p3 p4 : Addr × Obj} {fr : List (Addr × Obj)} (h : OwnOff own ((p1 :: p2 :: p3 :: p4 :: fr).map (·.1))) : OwnOff own (fr.map (·.1)) :=
  fun p hp b hb => h p hp b (by simp only [List.map_cons]; exact .tail _ (.tail _ (.tail _ (.tail _ hb))))
end Mine
namespace Mine
def bs : Nat → Nat → List Int
  | 0, _ => []
  | k + 1, i => (i : Int) :: bs k (i + 1)
theorem bs_step {n i : Nat} (h : i < n) : bs (n - i) i = (i : Int) :: bs (n - (i + 1)) (i + 1) := by
  have e : n - i = (n - (i + 1)) + 1 := by omega
  rw [e]; rfl
theorem bs_end {n : Nat} : bs (n - n) n = [] := by rw [Nat.sub_self]; rfl
def MPJ (w : World) (host dh lg vd rf : Addr) (c : HK) (fr dfr : List (Addr × Obj)) (size : Int) (d : Nd) (res : Option (Int × Int) × List (Str × Int)) (steps₀ : Int) (N : Nat) (m₀ : Str → Option Value) : Nat → (Str → Option Value) → List (Addr × Obj) → Prop := fun n m news =>
  ∃ (tl fr' dfr' : List (Addr × Obj)) (steps : Int) (t : Tok) (lv : Array Value) (ln : Nat) (o : Obj) (log : List (Str × Int)),
    fr' = tl ++ fr ∧ dfr' = tl ++ dfr ∧ news = hostLed host dh lg vd c rf steps t lv ln o fr' ∧
    (∀ y, y ≠ Str.ofString "begin" → y ≠ Str.ofString "found" → m y = m₀ y) ∧ Newer tl fr ∧
    HostOk w dh lg vd fr' dfr' steps lv o log ∧ mplain size d (bs (N - n) n) log = res ∧ steps ≤ steps₀ + n * csize [d]
theorem frame_two {m₁ m₀ : Str → Option Value} {c1 c2 : Str} {v1 : Value} (hr : ∀ y, y ≠ c1 → y ≠ c2 → m₁ y = m₀ y) :
    (fun y => if y = c1 then some v1 else m₁ y) = fun y => if y = c1 then some v1 else if y = c2 then m₁ c2 else m₀ y := by
  funext y
  by_cases e1 : y = c1
  · simp [e1]
  by_cases e2 : y = c2
  · subst e2; simp [e1]
  · simp [e1, e2, hr y e1 e2]
theorem mplain_none {size : Int} {d : Nd} {b : Int} {r : List Int} {log : List (Str × Int)} (h : (runs size [d] b log).1 = none) : mplain size d (b :: r) log = mplain size d r (runs size [d] b log).2 := by
  simp only [mplain]
  cases e : runs size [d] b log with
  | mk a l => rw [e] at h; subst h; rfl
theorem mplain_some {size : Int} {d : Nd} {b e : Int} {r : List Int} {log : List (Str × Int)} (h : (runs size [d] b log).1 = some e) : mplain size d (b :: r) log = (some (b, e), (runs size [d] b log).2) := by
  simp only [mplain]
  cases e : runs size [d] b log with
  | mk a l => rw [e] at h; subst h; rfl
theorem Off.own {fr own : List (Addr × Obj)} {host dh lg vd : Addr} {c : HK} {rf : Addr} {steps : Int} {t : Tok} {lv : Array Value} {ln : Nat} {o : Obj} (h : Off fr dh lg vd) (ho : OwnOff own ((hostLed host dh lg vd c rf steps t lv ln o fr).map (·.1))) : Off (fr ++ own) dh lg vd := by
  refine ⟨fun q hq => ?_, fun q hq => ?_, fun q hq => ?_⟩ <;> rcases List.mem_append.mp hq with hq | hq
  · exact h.o1 q hq
  · exact ho q hq dh (.tail _ (.head _))
  · exact h.o2 q hq
  · exact ho q hq lg (.tail _ (.tail _ (.head _)))
  · exact h.o3 q hq
  · exact ho q hq vd (.tail _ (.tail _ (.tail _ (.head _))))
theorem own_after {fr own tl : List (Addr × Obj)} {host dh lg vd : Addr} {c : HK} {rf : Addr} {steps steps' : Int} {t t' : Tok} {lv lv' : Array Value} {ln ln' : Nat} {o o' : Obj} (ho : OwnOff own ((hostLed host dh lg vd c rf steps t lv ln o fr).map (·.1))) (hn : Newer tl (fr ++ own)) :
    OwnOff own ((hostLed host dh lg vd c rf steps' t' lv' ln' o' (tl ++ fr)).map (·.1)) := by
  intro p hp b hb
  simp only [hostLed, List.map_cons, List.mem_cons, List.map_append, List.mem_append] at hb
  rcases hb with h | h | h | h | h | h
  · exact ho p hp b (by simp [h])
  · exact ho p hp b (by simp [h])
  · exact ho p hp b (by simp [h])
  · exact ho p hp b (by simp [h])
  · obtain ⟨q, hq, rfl⟩ := List.mem_map.mp h
    exact Nat.ne_of_lt (hn q hq p (List.mem_append.mpr (.inr hp)))
  · exact ho p hp b (by simp only [hostLed, List.map_cons]; exact .tail _ (.tail _ (.tail _ (.tail _ h))))
theorem Newer.sub {tl fr fr' : List (Addr × Obj)} (h : Newer tl fr) (hs : ∀ p ∈ fr', p ∈ fr) : Newer tl fr' := fun p hp q hq => h p hp q (hs q hq)
theorem app_left {α : Type} {fr own : List α} : ∀ p ∈ fr, p ∈ fr ++ own := fun _ hp => List.mem_append.mpr (.inl hp)
theorem mid_mono {α : Type} {tl fr fr' : List α} (h : ∀ p ∈ fr', p ∈ fr) : ∀ p ∈ tl ++ fr', p ∈ tl ++ fr := fun p hp => List.mem_append.mpr ((List.mem_append.mp hp).imp id (h p))
theorem led_mono {α : Type} {a b c d : α} {l l' : List α} (h : ∀ p ∈ l, p ∈ l') : ∀ p ∈ a :: b :: c :: d :: l, p ∈ a :: b :: c :: d :: l' := cons_mono (cons_mono (cons_mono (cons_mono h)))
theorem own_in {α : Type} {a b c d : α} {tl fr own : List α} : ∀ p ∈ own, p ∈ a :: b :: c :: d :: (tl ++ (fr ++ own)) := fun p hp => .tail _ (.tail _ (.tail _ (.tail _ (List.mem_append.mpr (.inr (List.mem_append.mpr (.inr hp)))))))
end Mine
namespace Mine
theorem qqa {α : Type} {tl9 fr' tl fr : List α} (h : fr' = tl ++ fr) : tl9 ++ fr' = (tl9 ++ tl) ++ fr := by rw [h, List.append_assoc]
theorem mul_succ_le {j : Nat} {c a s b : Int} (h1 : a ≤ s + c) (h2 : s ≤ b + j * c) : a ≤ b + ((j + 1 : Nat) : Int) * c := by
  have : ((j + 1 : Nat) : Int) * c = j * c + c := by push_cast; rw [Int.add_mul, Int.one_mul]
  omega
end Mine

namespace Mine
structure S4 where
  low : Int
  high : Int
  goes : Bool
  number : Int
def kdS : Kd → Str
  | .len => Str.ofString "len"
  | .pos => Str.ofString "pos"
  | .rpos => Str.ofString "rpos"
  | .tab => Str.ofString "tab"
  | .rtab => Str.ofString "rtab"
  | .rem => Str.ofString "rem"
def led (s : S4) (kd : Kd) (told size : Int) : S4 := match kd with
  | .rem => ⟨s.low, s.high, false, size⟩
  | .len => if s.goes = true then ⟨s.low, if size - (s.number + told) < s.high then size - (s.number + told) else s.high, true, s.number + told⟩ else ⟨s.low, if s.number + told ≤ size then s.high else s.low - 1, false, s.number + told⟩
  | .pos => if s.goes = true then ⟨if told - s.number > s.low then told - s.number else s.low, if told - s.number < s.high then told - s.number else s.high, true, s.number⟩ else ⟨s.low, if s.number = told then s.high else s.low - 1, false, s.number⟩
  | .rpos => if s.goes = true then ⟨if size - told - s.number > s.low then size - told - s.number else s.low, if size - told - s.number < s.high then size - told - s.number else s.high, true, s.number⟩ else ⟨s.low, if s.number = size - told then s.high else s.low - 1, false, s.number⟩
  | .tab => if told > size then ⟨s.low, s.low - 1, false, told⟩ else if s.goes = true then ⟨s.low, if told - s.number < s.high then told - s.number else s.high, false, told⟩ else ⟨s.low, if s.number ≤ told then s.high else s.low - 1, false, told⟩
  | .rtab => if size - told > size then ⟨s.low, s.low - 1, false, size - told⟩ else if s.goes = true then ⟨s.low, if size - told - s.number < s.high then size - told - s.number else s.high, false, size - told⟩ else ⟨s.low, if s.number ≤ size - told then s.high else s.low - 1, false, size - told⟩
def StIn (fr : List (Addr × Obj)) (v : Value) (s : S4) : Prop := ∃ (a : Addr) (t1 t2 t3 : Tok), v = .ref a ∧ (a, tupO #[.int s.low t1, .int s.high t2, .bool s.goes, .int s.number t3]) ∈ fr
theorem StIn.mono {fr fr' : List (Addr × Obj)} (hs : ∀ p ∈ fr, p ∈ fr') {v : Value} {s : S4} : StIn fr v s → StIn fr' v s
  | ⟨a, t1, t2, t3, e, h⟩ => ⟨a, t1, t2, t3, e, hs _ h⟩
end Mine
namespace Mine
section
variable {l h n k z : Int} {g : Bool}
theorem led_rem : led ⟨l, h, g, n⟩ .rem k z = ⟨l, h, false, z⟩ := rfl
theorem led_len_t : led ⟨l, h, true, n⟩ .len k z = ⟨l, if z - (n + k) < h then z - (n + k) else h, true, n + k⟩ := rfl
theorem led_len_1 (e : n + k ≤ z) : led ⟨l, h, false, n⟩ .len k z = ⟨l, h, false, n + k⟩ := by simp [led, e]
theorem led_len_2 (e : ¬ n + k ≤ z) : led ⟨l, h, false, n⟩ .len k z = ⟨l, l - 1, false, n + k⟩ := by simp [led, e]
theorem led_pos_t : led ⟨l, h, true, n⟩ .pos k z = ⟨if k - n > l then k - n else l, if k - n < h then k - n else h, true, n⟩ := rfl
theorem led_pos_1 (e : n = k) : led ⟨l, h, false, n⟩ .pos k z = ⟨l, h, false, n⟩ := by simp [led, e]
theorem led_pos_2 (e : n ≠ k) : led ⟨l, h, false, n⟩ .pos k z = ⟨l, l - 1, false, n⟩ := by simp [led, e]
theorem led_rpos_t : led ⟨l, h, true, n⟩ .rpos k z = ⟨if z - k - n > l then z - k - n else l, if z - k - n < h then z - k - n else h, true, n⟩ := rfl
theorem led_rpos_1 (e : n = z - k) : led ⟨l, h, false, n⟩ .rpos k z = ⟨l, h, false, n⟩ := by simp [led, e]
theorem led_rpos_2 (e : n ≠ z - k) : led ⟨l, h, false, n⟩ .rpos k z = ⟨l, l - 1, false, n⟩ := by simp [led, e]
theorem led_tab_0 (e : z < k) : led ⟨l, h, g, n⟩ .tab k z = ⟨l, l - 1, false, k⟩ := by simp [led, e]
theorem led_tab_t (e : ¬ z < k) : led ⟨l, h, true, n⟩ .tab k z = ⟨l, if k - n < h then k - n else h, false, k⟩ := by simp [led, e]
theorem led_tab_1 (e : ¬ z < k) (e' : n ≤ k) : led ⟨l, h, false, n⟩ .tab k z = ⟨l, h, false, k⟩ := by simp [led, e, e']
theorem led_tab_2 (e : ¬ z < k) (e' : ¬ n ≤ k) : led ⟨l, h, false, n⟩ .tab k z = ⟨l, l - 1, false, k⟩ := by simp [led, e, e']
theorem led_rtab_t (hk : 0 ≤ k ∧ k ≤ 4) : led ⟨l, h, true, n⟩ .rtab k z = ⟨l, if z - k - n < h then z - k - n else h, false, z - k⟩ := by simp [led, show ¬ z < z - k by omega]
theorem led_rtab_1 (hk : 0 ≤ k ∧ k ≤ 4) (e' : n ≤ z - k) : led ⟨l, h, false, n⟩ .rtab k z = ⟨l, h, false, z - k⟩ := by simp [led, show ¬ z < z - k by omega, e']
theorem led_rtab_2 (hk : 0 ≤ k ∧ k ≤ 4) (e' : ¬ n ≤ z - k) : led ⟨l, h, false, n⟩ .rtab k z = ⟨l, l - 1, false, z - k⟩ := by simp [led, show ¬ z < z - k by omega, e']
end
end Mine
namespace Mine
theorem cells_of {ws : List Value} {ns : List Int} (_h : IntsAre ws (List.map (fun k' => if k' < 0 then -k' else k') (List.take 4 ns) ++ List.drop (↑(List.take 4 ns).length : Int).toNat [5, 2, 48, 91])) :
    ∃ cs, List.map (fun k' : Int => if k' < 0 then -k' else k') (List.take 4 ns) ++ List.drop (↑(List.take 4 ns).length : Int).toNat [5, 2, 48, 91] = cs ∧ cs.length = 4 ∧ ∀ x ∈ cs, 0 ≤ x := by
  refine ⟨_, rfl, ?_, ?_⟩
  · simp only [List.length_append, List.length_map, List.length_drop, List.length_take, List.length_cons, List.length_nil, Int.toNat_natCast]
    omega
  · intro x hx
    rcases List.mem_append.mp hx with h | h
    · obtain ⟨k, _, rfl⟩ := List.mem_map.mp h
      split <;> omega
    · have := List.mem_of_mem_drop h
      simp only [List.mem_cons, List.not_mem_nil, or_false] at this
      omega
def kdOf (n : Int) : Kd := if n = 0 then .len else if n = 1 then .tab else if n = 2 then .rtab else if n = 3 then .pos else if n = 4 then .rpos else .rem
def kdAt (c2 : Int) (i : Nat) : Kd := kdOf ((c2.fdiv (6 ^ i)).fmod 6)
def tdAt (c3 : Int) (i : Nat) : Int := (c3.fdiv (5 ^ i)).fmod 5
def keyS (n : Nat) : Str := Str.ofString (toString (n : Int))
def stAt (size c2 c3 : Int) : Nat → S4
  | 0 => ⟨0, size, true, 0⟩
  | i + 1 => led (stAt size c2 c3 i) (kdAt c2 i) (tdAt c3 i) size
def ndAt (c2 c3 : Int) : Nat → Nd
  | 0 => .cur (keyS 0)
  | i + 1 => .cat (ndAt c2 c3 i) (.cat (.part (kdAt c2 i) (tdAt c3 i)) (.cur (keyS (i + 1))))
def J1 (sl : Addr) (fr₀ : List (Addr × Obj)) (size c2 c3 : Int) (m₀ : Str → Option Value) : Nat → (Str → Option Value) → List (Addr × Obj) → Prop := fun i m nx =>
  ∃ (tl fr' : List (Addr × Obj)) (svs : Array Value) (sk : Nat) (na : Addr),
    fr' = tl ++ fr₀ ∧ nx = (sl, W.listOf svs sk) :: fr' ∧ m (Str.ofString "node") = some (.ref na) ∧
    (∀ y, y ≠ Str.ofString "at" → y ≠ Str.ofString "node" → y ≠ Str.ofString "kind" → y ≠ Str.ofString "told" → y ≠ Str.ofString "part" → m y = m₀ y) ∧ Newer tl fr₀ ∧ (∀ q ∈ fr', q.1 ≠ sl) ∧
    svs.size = i + 1 ∧ (∀ j, j ≤ i → ∃ v, svs[j]? = some v ∧ StIn fr' v (stAt size c2 c3 j)) ∧ NodeIn fr' (.ref na) (ndAt c2 c3 i)
theorem frame_loop1 {m₁ m₀ : Str → Option Value} {c1 c2 c3 c4 c5 : Str} {v1 v2 : Value} (h2 : m₁ c2 = some v2) (hr : ∀ y, y ≠ c1 → y ≠ c2 → y ≠ c3 → y ≠ c4 → y ≠ c5 → m₁ y = m₀ y) :
    (fun y => if y = c1 then some v1 else m₁ y) = fun y => if y = c1 then some v1 else if y = c2 then some v2 else if y = c3 then m₁ c3 else if y = c4 then m₁ c4 else if y = c5 then m₁ c5 else m₀ y := by
  funext y
  by_cases e1 : y = c1
  · simp [e1]
  by_cases e2 : y = c2
  · subst e2; simp [e1, h2]
  by_cases e3 : y = c3
  · subst e3; simp [e1, e2]
  by_cases e4 : y = c4
  · subst e4; simp [e1, e2, e3]
  by_cases e5 : y = c5
  · subst e5; simp [e1, e2, e3, e4]
  · simp [e1, e2, e3, e4, e5, hr y e1 e2 e3 e4 e5]
section
variable {prog : Program} {w : World} {A : Around} {E : Value → Shared → Prop} {s : Shared} {h₀ : Heap} {L : Addr}
theorem last_K {value slice : PySem.Expr} {l : Addr} {its : Array Value} {k : Nat} {u : Tok} {v : Value} {news : List (Addr × Obj)} {Q : Value → Shared → Prop} (N : News h₀ L s.heap news) (hm : (l, W.listOf its k) ∈ news) (hx : its[its.size - 1]? = some v) (hf : its.size ≤ 2 ^ 62) (h : Q v s)
    (hs : subscripted slice false (.ref l) (.int (-1) u) = operate [.ref l, .int (-1) u] (getItem (.ref l) (.int (-1) u)) := by with_unfolding_all rfl) :
    wpAny (model prog w) A (subscriptTail value slice (.ref l) (.int (-1) u)) Q E s := by
  have hl : s.heap.IsList l its := ⟨_, N.get hm, rfl, k, rfl⟩
  have hp : 0 < its.size := by
    rcases Nat.eq_zero_or_pos its.size with e | e
    · rw [Array.getElem?_eq_none (by omega)] at hx; cases hx
    · exact e
  refine tail_any hl.typeIs slot_list_getitem.lookup (wpAny_getItem_list_neg hl (by decide) (by omega) (by decide) ?_ h) hs
  have e : ((-1 : Int) + (its.size : Int)).toNat = its.size - 1 := by omega
  rw [e]; exact hx
end
end Mine
namespace Mine
theorem keyS_zero : keyS 0 = Str.ofString "0" := by decide
theorem fm5 (a : Int) : 0 ≤ a.fmod 5 ∧ a.fmod 5 ≤ 4 := ⟨Int.fmod_nonneg_of_pos a (by decide), Int.le_of_lt_add_one (Int.fmod_lt_of_pos a (by decide))⟩
theorem fm7 (a : Int) : 0 ≤ a.fmod 7 ∧ a.fmod 7 ≤ 6 := ⟨Int.fmod_nonneg_of_pos a (by decide), Int.le_of_lt_add_one (Int.fmod_lt_of_pos a (by decide))⟩
theorem pick7 {h₀ h : Heap} {L : Addr} {a b c d e f g : Addr × Obj} {r : List (Addr × Obj)} (N : News h₀ L h (a :: b :: c :: d :: e :: f :: g :: r)) : News h₀ L h (e :: [b, c, d, f, g]) :=
  fun q hq => N q (by simp only [List.mem_cons, List.not_mem_nil, or_false] at hq ⊢; grind)
end Mine
namespace Mine
theorem keyS_ok : ∀ i, i < 7 → kqdOk 8 (Dat.str (keyS i)) = true := by
  intro i hi
  have h : i = 0 ∨ i = 1 ∨ i = 2 ∨ i = 3 ∨ i = 4 ∨ i = 5 ∨ i = 6 := by omega
  rcases h with rfl | rfl | rfl | rfl | rfl | rfl | rfl <;> decide +kernel
theorem all5 {α : Type} {P : α → Prop} {a b c d e : α} (h1 : P a) (h2 : P b) (h3 : P c) (h4 : P d) (h5 : P e) : ∀ q ∈ [a, b, c, d, e], P q :=
  List.forall_mem_cons.mpr ⟨h1, List.forall_mem_cons.mpr ⟨h2, List.forall_mem_cons.mpr ⟨h3, List.forall_mem_cons.mpr ⟨h4, List.forall_mem_cons.mpr ⟨h5, List.forall_mem_nil _⟩⟩⟩⟩⟩
end Mine
namespace Mine
theorem j5 {α : Type} {tl fr' : List α} {a b c d e : α} (h1 : fr' = tl ++ [a, b, c, d, e]) : e ∈ fr' := by subst h1; exact List.mem_append.mpr (.inr (.tail _ (.tail _ (.tail _ (.tail _ (.head _))))))
theorem ne_own {fr own : List (Addr × Obj)} {sl : Addr} {o : Obj} (h : ∀ q ∈ fr, q.1 ≠ sl) (ho : OwnOff own (((sl, o) :: fr).map (·.1))) : ∀ q ∈ fr ++ own, q.1 ≠ sl := by
  intro q hq
  rcases List.mem_append.mp hq with hq | hq
  · exact h q hq
  · exact ho q hq sl (.head _)
end Mine
namespace Mine
theorem pow_ne {b : Int} (hb : 0 < b) (n : Nat) : b ^ n ≠ 0 := Int.ne_of_gt (Int.pow_pos hb)
theorem fm6 (a : Int) : 0 ≤ a.fmod 6 ∧ a.fmod 6 ≤ 5 := ⟨Int.fmod_nonneg_of_pos a (by decide), Int.le_of_lt_add_one (Int.fmod_lt_of_pos a (by decide))⟩
section
variable {prog : Program} {w : World} {A : Around} {E : Value → Shared → Prop} {s : Shared} {h₀ : Heap} {L : Addr}
theorem tab6_K {value slice : PySem.Expr} {l : Addr} {a0 a1 a2 a3 a4 a5 : Value} {n : Int} {u : Tok} {news : List (Addr × Obj)} {Q : Value → Shared → Prop} (N : News h₀ L s.heap news) (hm : (l, tupO #[a0, a1, a2, a3, a4, a5]) ∈ news) (hn : 0 ≤ n ∧ n ≤ 5)
    (h0 : n = 0 → Q a0 s) (h1 : n = 1 → Q a1 s) (h2 : n = 2 → Q a2 s) (h3 : n = 3 → Q a3 s) (h4 : n = 4 → Q a4 s) (h5 : n = 5 → Q a5 s)
    (hs : ∀ k u, subscripted slice false (.ref l) (.int k u) = operate [.ref l, .int k u] (getItem (.ref l) (.int k u)) := by intros; with_unfolding_all rfl) :
    wpAny (model prog w) A (subscriptTail value slice (.ref l) (.int n u)) Q E s := by
  have ht : IsTup s.heap l [a0, a1, a2, a3, a4, a5].toArray := ⟨_, N.get hm, rfl, 0, rfl⟩
  have hc : n = 0 ∨ n = 1 ∨ n = 2 ∨ n = 3 ∨ n = 4 ∨ n = 5 := by omega
  rcases hc with e | e | e | e | e | e <;> subst e
  · exact item_tupleT ht (by decide) (by decide) rfl rfl (h0 rfl) (hs _ _)
  · exact item_tupleT ht (by decide) (by decide) rfl rfl (h1 rfl) (hs _ _)
  · exact item_tupleT ht (by decide) (by decide) rfl rfl (h2 rfl) (hs _ _)
  · exact item_tupleT ht (by decide) (by decide) rfl rfl (h3 rfl) (hs _ _)
  · exact item_tupleT ht (by decide) (by decide) rfl rfl (h4 rfl) (hs _ _)
  · exact item_tupleT ht (by decide) (by decide) rfl rfl (h5 rfl) (hs _ _)
end
end Mine
namespace Mine
structure Hid (P : Prop) : Prop where
  out : P
theorem Hid.all {P : Prop} {R : Prop} (h : Hid P → R) : P → R := fun p => h ⟨p⟩
end Mine
namespace Mine
theorem le_mil {i : Nat} (h : i ≤ 4) : ((i : Nat) : Int) ≤ 1000000 := by omega
end Mine
namespace Mine
section
variable {prog : Program} {w : World} {A : Around} {E : Value → Shared → Prop} {s : Shared}
theorem small_pow {b : Int} {i : Nat} (hb : 0 < b ∧ b ≤ 6) (h : i ≤ 4) : 0 ≤ b ^ ((i : Int)).toNat ∧ b ^ ((i : Int)).toNat ≤ 1296 := by
  have hc : i = 0 ∨ i = 1 ∨ i = 2 ∨ i = 3 ∨ i = 4 := by omega
  have hbc : b = 1 ∨ b = 2 ∨ b = 3 ∨ b = 4 ∨ b = 5 ∨ b = 6 := by omega
  rcases hc with rfl | rfl | rfl | rfl | rfl <;> rcases hbc with rfl | rfl | rfl | rfl | rfl | rfl <;> decide
theorem fdiv_K {a b : Int} {t u : Tok} {i : Nat} {Q : Value → Shared → Prop} (hb : 0 < b ∧ b ≤ 6) (hi : i ≤ 4) (h : Q (.int (a.fdiv (b ^ ((i : Int)).toNat)) s.toks) { s with toks := s.toks + 1 }) :
    wpAny (model prog w) A (binaryOp .FloorDiv (.int a t) (.int (b ^ ((i : Int)).toNat) u)) Q E s := by
  have hs := small_pow hb hi
  exact floordiv_int (pow_ne hb.1 _) h (Or.inl (PyProof.noPylong_small (by omega)))
end
end Mine

namespace Mine
theorem keyS_succ (i : Nat) : Str.ofString (toString ((i : Int) + 1)) = keyS (i + 1) := by
  unfold keyS; rfl
theorem own_after1 {fr own tl : List (Addr × Obj)} {sl : Addr} {o o' : Obj} (ho : OwnOff own (((sl, o) :: fr).map (·.1))) (hn : Newer tl (fr ++ own)) :
    OwnOff own (((sl, o') :: (tl ++ fr)).map (·.1)) := by
  intro p hp b hb
  simp only [List.map_cons, List.mem_cons, List.map_append, List.mem_append] at hb
  rcases hb with h | h | h
  · exact ho p hp b (by simp [h])
  · obtain ⟨q, hq, rfl⟩ := List.mem_map.mp h
    exact Nat.ne_of_lt (hn q hq p (List.mem_append.mpr (.inr hp)))
  · exact ho p hp b (by simp only [List.map_cons]; exact .tail _ h)
theorem j1_next {h₀ h : Heap} {L sl na a1 a2 a3 x d a5 y : Addr} {ob o1 : Obj} {k1 k2 k3 u1 u2 u3 u4 t1 t2 t3 : Tok} {q1 q2 q3 : Int} {vk vo : Value} {g1 g2 : Addr × Obj} {svs : Array Value} {sk' : Nat} {fr₀ fr' own tl : List (Addr × Obj)}
    {size c2 c3 : Int} {i : Nat} {m₀ m' : Str → Option Value} {s₁ : Shared} {tk : Nat} {kd : Kd} {told : Int}
    (hf1 : fr' = tl ++ fr₀) (hnw : Newer tl fr₀) (hoff : OwnOff own (((sl, o1) :: fr').map (·.1))) (hne : ∀ q ∈ fr', q.1 ≠ sl) (hsz : svs.size = i + 1) (hsts : ∀ j, j ≤ i → ∃ v, svs[j]? = some v ∧ StIn fr' v (stAt size c2 c3 j)) (hnd : NodeIn fr' (.ref na) (ndAt c2 c3 i)) (hi : i ≤ 4)
    (hp : PartIs ob kd told) (hkd : kdAt c2 i = kd) (htd : tdAt c3 i = told)
    (F : Fr h₀ L h m') (N : News h₀ L h ((a1, tupO #[.str (Str.ofString "cat") k1, .ref na, .ref a2]) :: (a2, tupO #[.str (Str.ofString "cat") k2, .ref a5, .ref a3]) :: (a3, tupO #[.str (Str.ofString "cursor") k3, .ref x]) :: (x, instObj 110 d) ::
      (d, dictOf [⟨q1, .str (Str.ofString "kind") u1, vk⟩, ⟨q2, .str (Str.ofString "owner") u2, vo⟩, ⟨q3, .str (Str.ofString "key") u3, .str (Str.ofString (toString ((i : Int) + 1))) u4⟩] 3) :: (a5, ob) ::
      (y, tupO #[.int (led (stAt size c2 c3 i) kd told size).low t1, .int (led (stAt size c2 c3 i) kd told size).high t2, .bool (led (stAt size c2 c3 i) kd told size).goes, .int (led (stAt size c2 c3 i) kd told size).number t3]) ::
      g1 :: g2 :: (sl, W.listOf (svs.push (.ref y)) sk') :: (fr' ++ own)))
    (ly : AllLt y (fr' ++ own)) (lys : @LT.lt Nat _ sl y) (l5 : @LT.lt Nat _ y a5) (ld : @LT.lt Nat _ a5 d) (lx : @LT.lt Nat _ d x) (l3 : @LT.lt Nat _ x a3) (l2 : @LT.lt Nat _ a3 a2) (l1 : @LT.lt Nat _ a2 a1)
    (hnode : m' (Str.ofString "node") = some (.ref a1)) (hr : ∀ z, z ≠ Str.ofString "at" → z ≠ Str.ofString "node" → z ≠ Str.ofString "kind" → z ≠ Str.ofString "told" → z ≠ Str.ofString "part" → m' z = m₀ z) :
    InvEndG h₀ L (J1 sl fr₀ size c2 c3 m₀ (i + 1)) own s₁ { s₁ with heap := h, toks := tk } := by
  have hly := tb_ltOf ly
  have nw : ∀ fr, (∀ q ∈ fr, @LT.lt Nat _ q.1 y) → Newer [(a1, tupO #[.str (Str.ofString "cat") k1, .ref na, .ref a2]), (a2, tupO #[.str (Str.ofString "cat") k2, .ref a5, .ref a3]), (a3, tupO #[.str (Str.ofString "cursor") k3, .ref x]), (x, instObj 110 d),
      (d, dictOf [⟨q1, .str (Str.ofString "kind") u1, vk⟩, ⟨q2, .str (Str.ofString "owner") u2, vo⟩, ⟨q3, .str (Str.ofString "key") u3, .str (Str.ofString (toString ((i : Int) + 1))) u4⟩] 3), (a5, ob),
      (y, tupO #[.int (led (stAt size c2 c3 i) kd told size).low t1, .int (led (stAt size c2 c3 i) kd told size).high t2, .bool (led (stAt size c2 c3 i) kd told size).goes, .int (led (stAt size c2 c3 i) kd told size).number t3])] fr := by
    intro fr hq
    have h5 := lt_more hq l5
    have hd := lt_more h5 ld
    have hx := lt_more hd lx
    have h3 := lt_more hx l3
    have h2 := lt_more h3 l2
    exact ((((((Newer.nil.cons hq).cons h5).cons hd).cons hx).cons h3).cons h2).cons (lt_more h2 l1)
  have nw1 := nw (fr' ++ own) hly
  refine InvEndG.intro F N (nx := (sl, W.listOf (svs.push (.ref y)) sk') :: (_ ++ fr')) ⟨_ ++ tl, _ ++ fr', _, _, a1, qqa hf1, rfl, hnode, hr, hnw.append (by rw [← hf1]; exact nw fr' fun q hq => hly q (List.mem_append_left _ hq)), ?ne, ?sz, ?sts, ?nd⟩ (own_after1 hoff nw1) ?sub ?own
  case sub =>
    intro p hp
    simp only [List.mem_cons, List.mem_append, List.cons_append, List.nil_append] at hp ⊢
    grind
  case own =>
    intro p hp
    simp only [List.mem_cons, List.mem_append]
    grind
  case ne =>
    intro q hq
    rcases List.mem_append.mp hq with hq | hq
    · have := nw [(sl, o1)] (by intro q hq; rw [List.mem_singleton.mp hq]; exact lys) q hq (sl, o1) (.head _)
      exact fun e => Nat.ne_of_lt this e.symm
    · exact hne q hq
  case sz => rw [Array.size_push, hsz]
  case sts =>
    intro j hj
    by_cases e : j = i + 1
    · subst e
      refine ⟨.ref y, by rw [Array.getElem?_push, if_pos hsz.symm], y, t1, t2, t3, rfl, ?_⟩
      rw [← hkd, ← htd] at N ⊢
      exact .tail _ (.tail _ (.tail _ (.tail _ (.tail _ (.tail _ (.head _))))))
    · obtain ⟨v, hv, hs⟩ := hsts j (by omega)
      refine ⟨v, ?_, hs.mono app_right⟩
      rw [Array.getElem?_push, if_neg (by omega)]
      exact hv
  case nd =>
    rw [keyS_succ] 
    refine .cat (.head _) (hnd.mono app_right) (.cat (.tail _ (.head _)) (.part (.tail _ (.tail _ (.tail _ (.tail _ (.tail _ (.head _)))))) (by rw [hkd, htd]; exact hp)) (.cur (.tail _ (.tail _ (.head _))) ⟨_, _, _, _, _, _, _, _, _, _, .tail _ (.tail _ (.tail _ (.head _))), .tail _ (.tail _ (.tail _ (.tail _ (.head _)))), keyS_ok _ (by omega)⟩))
end Mine
namespace Mine
theorem kdAt_of {c2 n : Int} {i : Nat} (h : Hid ((c2.fdiv (6 ^ ((i : Int)).toNat)).fmod 6 = n)) : kdAt c2 i = kdOf n := by
  have := h.out
  rw [Int.toNat_natCast] at this
  unfold kdAt
  rw [this]
theorem tdAt_eq {c3 : Int} {i : Nat} : tdAt c3 i = (c3.fdiv (5 ^ ((i : Int)).toNat)).fmod 5 := by rw [Int.toNat_natCast]; rfl
end Mine
namespace Mine
theorem frame_after1 {m₁ m₀ : Str → Option Value} {c1 c2 c3 c4 c5 : Str} {v2 : Value} (h2 : m₁ c2 = some v2) (hr : ∀ y, y ≠ c1 → y ≠ c2 → y ≠ c3 → y ≠ c4 → y ≠ c5 → m₁ y = m₀ y) :
    m₁ = fun y => if y = c2 then some v2 else if y = c1 then m₁ c1 else if y = c3 then m₁ c3 else if y = c4 then m₁ c4 else if y = c5 then m₁ c5 else m₀ y := by
  funext y
  by_cases e2 : y = c2
  · subst e2; simp [h2]
  by_cases e1 : y = c1
  · subst e1; simp [e2]
  by_cases e3 : y = c3
  · subst e3; simp [e1, e2]
  by_cases e4 : y = c4
  · subst e4; simp [e1, e2, e3]
  by_cases e5 : y = c5
  · subst e5; simp [e1, e2, e3, e4]
  · simp [e1, e2, e3, e4, e5, hr y e1 e2 e3 e4 e5]
end Mine

namespace Mine
section
variable {prog : Program} {w : World} {A : Around} {E : Value → Shared → Prop} {s : Shared} {env : Env} {h₀ : Heap} {body : List Stmt} {Q : Flow → Shared → Prop}
theorem my_enum {elts : List PySem.Expr} {k : Nat} {pos : Pos} {l : Addr} {its : Array Value} {n : Nat} {m₀ : Str → Option Value} {news : List (Addr × Obj)} (J : Nat → (Str → Option Value) → List (Addr × Obj) → Prop)
    (hh : A.handled = none) (F : Fr h₀ env.locals s.heap m₀) (N : News h₀ env.locals s.heap news) (hm : (l, W.listOf its n) ∈ news) (hj : J 0 m₀ news)
    (turn : ∀ i v m₁ nx h tk own T t, its[i]? = some v → OwnOff own (nx.map (·.1)) → (l, W.listOf its n) ∈ nx → J i m₁ nx → Fr h₀ env.locals h m₁ → News h₀ env.locals h (nx ++ own) → IsTup h T #[.int (i : Int) t, v] →
      wpAny (model prog w) A (assign (.Tuple elts k pos) env (.ref T)) (fun _ s₃ => wpAny (model prog w) A (execs body env) (InvPostG h₀ env.locals (fun m' nx => (l, W.listOf its n) ∈ nx ∧ J (i + 1) m' nx) own { s with heap := h, toks := tk } Q) E s₃) E { s with heap := h, toks := tk })
    (done : ∀ m₁ nx h tk, J its.size m₁ nx → Fr h₀ env.locals h m₁ → News h₀ env.locals h nx → Q .next { s with heap := h, toks := tk }) :
    wpAny (model prog w) A (call (.type "enumerate") [.ref l]) (fun xv s₁ => wpAny (model prog w) A (pyIter xv) (fun it s₂ => TurnsAt prog w A h₀ env (.Tuple elts k pos) body Q E it s₂) E s₁) E s := by
  have hax := N _ hm
  have hl : s.heap.IsList l its := ⟨_, hax.1, rfl, n, rfl⟩
  have hlt : l < s.heap.objs.size := Heap.lt_size hax.1
  have hLs : env.locals < s.heap.objs.size := F.ns.lt
  refine call_enumerate_list hl fun h' hE hI hsz hk => ?_
  refine wpAny_pyIter_enum hE ?_
  have hnew : ∀ a, s.heap.objs.size ≤ a → h₀.get? a = none := fun a ha => ktu_new F ha
  have F' : Fr h₀ env.locals h' m₀ := F.keeps hk
  have N' : News h₀ env.locals h' news := N.grown hk
  refine ⟨s.heap.objs.size + 1, _, _, its.size, _, _, _, m₀, news, (fun i m nx => (l, W.listOf its n) ∈ nx ∧ J i m nx), rfl,
    KTurns.ofWalksU (WalksT.enumerate hh (s.heap.objs.size + 1) s.heap.objs.size l (Nat.succ_ne_self _) (ktu_ne 1 hlt) (Nat.ne_of_lt hlt) its).toU, ?_, ?_, ?_, ⟨⟨.none, hE⟩, hI, hl.at fun o e => hk l o e⟩, F', N', ⟨hm, hj⟩, ?_, ?_⟩
  · intro hb
    have hb' : env.locals = s.heap.objs.size + 1 ∨ env.locals = s.heap.objs.size ∨ env.locals = l := by simpa using hb
    rcases hb' with e | e | e
    · exact ktu_ne 1 hLs e
    · exact Nat.ne_of_lt hLs e
    · exact hax.2.1 e.symm
  · intro b hb
    have hb' : b = s.heap.objs.size + 1 ∨ b = s.heap.objs.size := by simpa using hb
    rcases hb' with rfl | rfl
    · exact hnew _ (Nat.le_add_right _ _)
    · exact hnew _ (Nat.le_refl _)
  · intro p hp hb
    have hb' : p.1 = s.heap.objs.size + 1 ∨ p.1 = s.heap.objs.size := by simpa using hb
    have hlp := Heap.lt_size (N p hp).1
    rcases hb' with e | e
    · exact ktu_ne 1 hlp e
    · exact Nat.ne_of_lt hlp e
  · rintro i v m₁ news₁ h₁ tk₁ own hin ⟨T, vals, rfl, ⟨t, x, hx, rfl⟩, hT⟩ ⟨hl₁, hJ⟩ hoff hown hget hfp hst F₁ N₁
    have hsep : OwnOff (own.filter fun p => decide (p.1 ≠ l)) (news₁.map (·.1)) := by
      intro p hp b hb e
      obtain ⟨q, hq, rfl⟩ := List.mem_map.mp hb
      have h1 := List.mem_filter.mp hp
      have h2 : p.1 = s.heap.objs.size + 1 ∨ p.1 = s.heap.objs.size ∨ p.1 = l := by simpa using hown p h1.1
      have h3 : p.1 ≠ l := by simpa using h1.2
      refine hoff q hq ?_
      rw [← e]
      rcases h2 with h2 | h2 | h2
      · simp [h2]
      · simp [h2]
      · exact absurd h2 h3
    have hlo : h₁.get? l = some (W.listOf its n) := (N₁ _ (List.mem_append.mpr (.inr hl₁))).1
    have N₂ : News h₀ env.locals h₁ (news₁ ++ own.filter fun p => decide (p.1 ≠ l)) := fun p hp => N₁ p ((List.mem_append.mp hp).elim (fun h => List.mem_append.mpr (.inr h)) fun h => List.mem_append.mpr (.inl ((List.mem_filter.mp h).1)))
    obtain ⟨⟨old, he⟩, ⟨oi, hoi, hit⟩, _⟩ := id hst
    have hwrin : ∀ b, b = s.heap.objs.size + 1 ∨ b = s.heap.objs.size → ∃ o, (b, o) ∈ own.filter fun p => decide (p.1 ≠ l) := by
      intro b hb
      rcases hb with rfl | rfl
      · exact ⟨_, List.mem_filter.mpr ⟨hfp _ (by simp) (hnew _ (Nat.le_add_right _ _)) _ he, decide_eq_true (ktu_ne 1 hlt).symm⟩⟩
      · exact ⟨_, List.mem_filter.mpr ⟨hfp _ (by simp) (hnew _ (Nat.le_refl _)) _ hoi, decide_eq_true (Nat.ne_of_lt hlt).symm⟩⟩
    have tn := turn i x m₁ news₁ h₁ tk₁ (own.filter fun p => decide (p.1 ≠ l)) T t hx hsep hl₁ hJ F₁ N₂ hT
    refine wpAny_mono tn (fun _ s₃ h₃ => wpAny_mono h₃ (fun f s₂ p => ?_) fun _ _ e => e) fun _ _ e => e
    have fin : InvEndG h₀ env.locals (fun m' nx => (l, W.listOf its n) ∈ nx ∧ J (i + 1) m' nx) (own.filter fun p => decide (p.1 ≠ l)) { s with heap := h₁, toks := tk₁ } s₂ →
        LoopStepU h₀ env.locals [s.heap.objs.size + 1, s.heap.objs.size] own (fun m nx => (l, W.listOf its n) ∈ nx ∧ J (i + 1) m nx) { s with heap := h₁, toks := tk₁ } .next s₂ := by
      rintro ⟨h', tk, m', news', nx, e, F', N', hn, ho, ha, hm⟩
      refine ⟨rfl, h', tk, m', nx, e, F', fun p hp => ?_, fun p hp hq => ?_, hm⟩
      · rcases List.mem_append.mp hp with h | h
        · by_cases hI : p.1 = l
          · have h2 : h₁.get? p.1 = some p.2 := hget p h
            rw [hI, hlo] at h2
            have h3 : p = (l, W.listOf its n) := Prod.ext hI (Option.some.inj h2).symm
            rw [h3]
            exact N' _ (hn _ hm.1)
          · exact N' p (ho p (List.mem_filter.mpr ⟨h, by simpa using hI⟩))
        · exact N' p (hn p h)
      · have hb' : p.1 = s.heap.objs.size + 1 ∨ p.1 = s.heap.objs.size := by simpa using hq
        obtain ⟨o, ho'⟩ := hwrin p.1 hb'
        exact ha _ ho' p.1 (List.mem_map.mpr ⟨p, hp, rfl⟩) rfl
    cases f with
    | ret v => exact .ret p
    | brk => exact .brk p
    | next => exact .next (fin p)
    | cont => exact .cont (fin p)
  · rintro h' tk m' news' F' N' _ ⟨_, hJ⟩
    exact done m' news' h' tk hJ F' N'
end
end Mine

namespace Mine
def S4.has (s : S4) (b : Int) : Bool := decide (s.low ≤ b) && decide (b ≤ s.high)
def S4.val (s : S4) (b : Int) : Int := if s.goes = true then b + s.number else s.number
theorem has_iff {s : S4} {b : Int} : s.has b = true ↔ s.low ≤ b ∧ b ≤ s.high := by simp [S4.has]
theorem led_nested {s : S4} {kd : Kd} {told size b : Int} (h : (led s kd told size).has b = true) : s.has b = true := by
  rw [has_iff] at h ⊢
  obtain ⟨l, h', g, n⟩ := s
  cases kd <;> cases g <;> simp only [led, if_true, if_false, Bool.false_eq_true] at h ⊢ <;> (repeat' split at h) <;> (try dsimp only at h) <;> (repeat' split at h) <;> (try dsimp only at h) <;> omega
theorem led_low {s : S4} {kd : Kd} {told size : Int} : s.low ≤ (led s kd told size).low := by
  obtain ⟨l, h', g, n⟩ := s
  cases kd <;> cases g <;> simp only [led, if_true, if_false, Bool.false_eq_true] <;> (repeat' split) <;> (try dsimp only) <;> omega
theorem led_end {s : S4} {kd : Kd} {told size b : Int} (ht : 0 ≤ told) (h : s.has b = true) :
    endOf kd told size (s.val b) = if (led s kd told size).has b = true then some ((led s kd told size).val b) else none := by
  rw [has_iff] at h
  simp only [has_iff]
  obtain ⟨l, h', g, n⟩ := s
  cases kd <;> cases g <;> simp only [led, endOf, S4.val, if_true, if_false, Bool.false_eq_true] at h ⊢ <;> (repeat' split) <;> (try simp only [Option.some.injEq, reduceCtorEq, if_true, if_false, Bool.false_eq_true, not_true, not_false_eq_true] at *) <;> first | omega | (exfalso; omega)
def dueRow (f : Nat → S4) (b : Int) : Nat → Nat → List (Str × Int)
  | 0, _ => []
  | k + 1, j => if (f j).has b = true then (keyS j, (f j).val b) :: dueRow f b k (j + 1) else []
def dueAll (f : Nat → S4) (n : Nat) : List Int → List (Str × Int)
  | [] => []
  | b :: r => dueRow f b n 0 ++ dueAll f n r
theorem dueRow_snoc {f : Nat → S4} {b : Int} (hn : ∀ t, (f (t + 1)).has b = true → (f t).has b = true) : ∀ (k j : Nat), dueRow f b (k + 1) j = dueRow f b k j ++ (if (f (j + k)).has b = true then [(keyS (j + k), (f (j + k)).val b)] else [])
  | 0, j => by simp only [dueRow, Nat.add_zero, List.nil_append]
  | k + 1, j => by
    rw [dueRow, dueRow_snoc hn k (j + 1)]
    have e : j + 1 + k = j + (k + 1) := by omega
    rw [e]
    by_cases h : (f j).has b = true
    · rw [if_pos h]
      show _ = dueRow f b (k + 1) j ++ _
      rw [dueRow, if_pos h]; rfl
    · have hd : ∀ t, ¬ (f (j + t)).has b = true := by
        intro t
        induction t with
        | zero => exact h
        | succ t ih => exact fun x => ih (hn _ x)
      rw [if_neg h, if_neg (hd _)]
      show _ = dueRow f b (k + 1) j ++ _
      rw [dueRow, if_neg h]; rfl
section
variable {size c2 c3 : Int}
theorem st_nested {b : Int} (t : Nat) (h : (stAt size c2 c3 (t + 1)).has b = true) : (stAt size c2 c3 t).has b = true := led_nested h
theorem td_pos (i : Nat) : 0 ≤ tdAt c3 i := (fm5 _).1
theorem go_nd {b : Int} (hb : 0 ≤ b ∧ b ≤ size) : ∀ (i : Nat) (log : List (Str × Int)), (ndAt c2 c3 i).go size b log =
    (if (stAt size c2 c3 i).has b = true then some ((stAt size c2 c3 i).val b) else none, log ++ dueRow (stAt size c2 c3) b (i + 1) 0)
  | 0, log => by
    have h : (stAt size c2 c3 0).has b = true := has_iff.mpr hb
    rw [if_pos h, dueRow, if_pos h]
    have e : (stAt size c2 c3 0).val b = b := by simp [stAt, S4.val]
    rw [e]; rfl
  | i + 1, log => by
    rw [dueRow_snoc st_nested, Nat.zero_add]
    simp only [ndAt, Nd.go, go_nd hb i log]
    by_cases h : (stAt size c2 c3 i).has b = true
    · rw [if_pos h]
      have hl := led_end (size := size) (kd := kdAt c2 i) (td_pos (c3 := c3) i) h
      change _ = if (stAt size c2 c3 (i + 1)).has b = true then some ((stAt size c2 c3 (i + 1)).val b) else none at hl
      simp only [hl]
      by_cases h' : (stAt size c2 c3 (i + 1)).has b = true
      · simp only [if_pos h', List.append_assoc]
      · simp only [if_neg h', List.append_nil]
    · have h' : ¬ (stAt size c2 c3 (i + 1)).has b = true := fun x => h (st_nested _ x)
      simp only [if_neg h, if_neg h', List.append_nil]
theorem runs_one (size : Int) (d : Nd) (b : Int) (log : List (Str × Int)) : runs size [d] b log = d.go size b log := by
  simp only [runs]
  cases d.go size b log with
  | mk a l => cases a <;> rfl
theorem mplain_fail (n : Nat) : ∀ (bs : List Int) (log : List (Str × Int)), (∀ b ∈ bs, 0 ≤ b ∧ b ≤ size) → mplain size (.cat (ndAt c2 c3 n) .fail) bs log = (none, log ++ dueAll (stAt size c2 c3) (n + 1) bs)
  | [], log, _ => by simp [mplain, dueAll]
  | b :: r, log, h => by
    have e : runs size [.cat (ndAt c2 c3 n) .fail] b log = (none, log ++ dueRow (stAt size c2 c3) b (n + 1) 0) := by
      rw [runs_one]
      simp only [Nd.go, go_nd (h b (.head _)) n log]
      by_cases h' : (stAt size c2 c3 n).has b = true
      · simp only [if_pos h']
      · simp only [if_neg h']
    simp only [mplain, e]
    rw [mplain_fail n r _ fun b hb => h b (.tail _ hb), dueAll, List.append_assoc]
theorem mplain_find (n : Nat) : ∀ (bs : List Int) (log : List (Str × Int)), (∀ b ∈ bs, 0 ≤ b ∧ b ≤ size) → (mplain size (ndAt c2 c3 n) bs log).1 = (bs.find? (stAt size c2 c3 n).has).map fun b => (b, (stAt size c2 c3 n).val b)
  | [], log, _ => rfl
  | b :: r, log, h => by
    have e := runs_one size (ndAt c2 c3 n) b log
    rw [go_nd (h b (.head _)) n log] at e
    by_cases h' : (stAt size c2 c3 n).has b = true
    · rw [if_pos h'] at e
      simp only [mplain, e, List.find?_cons, h', Option.map_some]
    · rw [if_neg h'] at e
      simp only [mplain, e, List.find?_cons, h']
      exact mplain_find n r _ fun b hb => h b (.tail _ hb)
theorem st_range (hs : 0 ≤ size) : ∀ i, 0 ≤ (stAt size c2 c3 i).low ∧ ((stAt size c2 c3 i).low ≤ (stAt size c2 c3 i).high → (stAt size c2 c3 i).high ≤ size)
  | 0 => ⟨Int.le_refl _, fun _ => Int.le_refl _⟩
  | i + 1 => by
    obtain ⟨h1, h2⟩ := st_range hs i
    refine ⟨Int.le_trans h1 led_low, fun h => ?_⟩
    have := has_iff.mp (st_nested (size := size) (c2 := c2) (c3 := c3) (b := (stAt size c2 c3 (i + 1)).high) i (has_iff.mpr ⟨h, Int.le_refl _⟩))
    have := h2 (by omega)
    omega
theorem bs_find {s : S4} : ∀ (k i : Nat), (i : Int) ≤ s.low → (s.low ≤ s.high → s.high < i + k) → (bs k i).find? s.has = if s.low ≤ s.high then some s.low else none
  | 0, i, h1, h2 => by
    rw [if_neg (fun e => by have := h2 e; simp at this; omega)]; rfl
  | k + 1, i, h1, h2 => by
    rw [bs, List.find?_cons]
    by_cases h : s.has i = true
    · simp only [h]
      rw [has_iff] at h
      rw [if_pos (by omega)]
      congr 1; omega
    · simp only [h]
      have h' : ¬ (s.low ≤ i ∧ i ≤ s.high) := fun x => h (has_iff.mpr x)
      by_cases e : s.low ≤ s.high
      · exact bs_find k (i + 1) (by push_cast; omega) (fun e => by have := h2 e; push_cast at this ⊢; omega)
      · have hn : ∀ x : Int, ¬ s.has x = true := fun x hx => by
          have := has_iff.mp hx
          omega
        rw [if_neg e]
        exact List.find?_eq_none.mpr fun x _ => hn x
theorem bs_mem : ∀ (k i : Nat) (b : Int), b ∈ bs k i → (i : Int) ≤ b ∧ b < i + k
  | 0, _, _, h => nomatch h
  | k + 1, i, b, h => by
    rcases List.mem_cons.mp h with rfl | h
    · omega
    · have := bs_mem k (i + 1) b h
      push_cast at this ⊢
      omega
theorem dueRow_keys {f : Nat → S4} {b : Int} : ∀ (k j : Nat), j + k ≤ 7 → ∀ p ∈ dueRow f b k j, kqdOk 8 (lgD p) = true
  | 0, _, _, _, h => nomatch h
  | k + 1, j, hj, p, h => by
    rw [dueRow] at h
    split at h
    · rcases List.mem_cons.mp h with rfl | h
      · have := keyS_ok j (by omega)
        simp only [kqdOk] at this
        simp [kqdOk, this]
      · exact dueRow_keys k (j + 1) (by omega) p h
    · nomatch h
theorem dueAll_keys {f : Nat → S4} {n : Nat} (hn : n ≤ 7) : ∀ (bs : List Int), ∀ p ∈ dueAll f n bs, kqdOk 8 (lgD p) = true
  | [], _, h => nomatch h
  | b :: r, p, h => by
    rcases List.mem_append.mp h with h | h
    · exact dueRow_keys n 0 (by omega) p h
    · exact dueAll_keys hn r p h
theorem plain_fail {k : Nat} (hk : (k : Int) = size) (n : Nat) : mplain k (.cat (ndAt c2 c3 n) .fail) (bs (k + 1) 0) [] = (none, dueAll (stAt size c2 c3) (n + 1) (bs (k + 1) 0)) := by
  subst hk
  rw [mplain_fail n _ _ fun b hb => ?_, List.nil_append]
  have := bs_mem _ _ _ hb
  push_cast at this
  omega
theorem plain_find {k : Nat} (hk : (k : Int) = size) (n : Nat) : (mplain k (ndAt c2 c3 n) (bs (k + 1) 0) []).1 =
    if (stAt size c2 c3 n).low ≤ (stAt size c2 c3 n).high then some ((stAt size c2 c3 n).low, (stAt size c2 c3 n).val (stAt size c2 c3 n).low) else none := by
  subst hk
  rw [mplain_find n _ _ fun b hb => ?_]
  · have hr := st_range (size := (k : Int)) (c2 := c2) (c3 := c3) (by omega) n
    rw [bs_find _ _ (by simpa using hr.1) (fun e => by have := hr.2 e; push_cast; omega)]
    split <;> rfl
  · have := bs_mem _ _ _ hb
    push_cast at this
    omega
theorem csize_nd (n : Nat) : csize [ndAt c2 c3 n] = 4 * n + 1 := by
  have : ∀ n, (ndAt c2 c3 n).size = 4 * n + 1 := by
    intro n
    induction n with
    | zero => rfl
    | succ n ih => simp only [ndAt, Nd.size, ih]; omega
  simp only [csize, this]
theorem csize_ndf (n : Nat) : csize [.cat (ndAt c2 c3 n) .fail] = 4 * n + 3 := by
  have := csize_nd (c2 := c2) (c3 := c3) n
  simp only [csize, Nd.size] at this ⊢; omega
end
end Mine

namespace Mine
def J2 (dl : Addr) (fr₀ : List (Addr × Obj)) (f : Nat → S4) (n N : Nat) (res : List (Str × Int)) (m₀ : Str → Option Value) : Nat → (Str → Option Value) → List (Addr × Obj) → Prop := fun b m nx =>
  ∃ (tl fr' : List (Addr × Obj)) (dvs : Array Value) (dk : Nat) (log : List (Str × Int)),
    fr' = tl ++ fr₀ ∧ nx = (dl, W.listOf dvs dk) :: fr' ∧ (∀ y, y ≠ Str.ofString "begin" → y ≠ Str.ofString "at" → y ≠ Str.ofString "state" → m y = m₀ y) ∧ Newer tl fr₀ ∧ (∀ q ∈ fr', q.1 ≠ dl) ∧
    DatAll fr' dvs.toList (log.map lgD) ∧ log ++ dueAll f n (bs (N - b) b) = res
def J3 (dl : Addr) (fr' own : List (Addr × Obj)) (f : Nat → S4) (n : Nat) (b : Int) (rest res : List (Str × Int)) (m₁ : Str → Option Value) : Nat → (Str → Option Value) → List (Addr × Obj) → Prop := fun j m nx =>
  ∃ (tl : List (Addr × Obj)) (dvs : Array Value) (dk : Nat) (log : List (Str × Int)),
    nx = (dl, W.listOf dvs dk) :: (tl ++ (fr' ++ own)) ∧ (∀ y, y ≠ Str.ofString "at" → y ≠ Str.ofString "state" → m y = m₁ y) ∧ Newer tl (fr' ++ own) ∧ (∀ q ∈ tl ++ (fr' ++ own), q.1 ≠ dl) ∧
    DatAll (tl ++ fr') dvs.toList (log.map lgD) ∧ log ++ (dueRow f b (n - j) j ++ rest) = res
theorem dueRow_step {f : Nat → S4} {b : Int} {n j : Nat} (hj : j < n) (h : (f j).has b = true) : dueRow f b (n - j) j = (keyS j, (f j).val b) :: dueRow f b (n - (j + 1)) (j + 1) := by
  have e : n - j = (n - (j + 1)) + 1 := by omega
  rw [e, dueRow, if_pos h]
theorem dueRow_stop {f : Nat → S4} {b : Int} {n j : Nat} (h : ¬ (f j).has b = true) : dueRow f b (n - j) j = [] := by
  cases e : n - j with
  | zero => rfl
  | succ k => rw [dueRow, if_neg h]
theorem frame_at {m m₁ : Str → Option Value} {c1 c2 : Str} (hr : ∀ y, y ≠ c1 → y ≠ c2 → m y = m₁ y) : m = fun y => if y = c1 then m c1 else if y = c2 then m c2 else m₁ y := by
  funext y
  by_cases e1 : y = c1
  · simp [e1]
  by_cases e2 : y = c2
  · subst e2; simp [e1]
  · simp [e1, e2, hr y e1 e2]
theorem frame_3 {m m₁ : Str → Option Value} {c1 c2 c3 : Str} (hr : ∀ y, y ≠ c1 → y ≠ c2 → y ≠ c3 → m y = m₁ y) : m = fun y => if y = c1 then m c1 else if y = c2 then m c2 else if y = c3 then m c3 else m₁ y := by
  funext y
  by_cases e1 : y = c1
  · simp [e1]
  by_cases e2 : y = c2
  · subst e2; simp [e1]
  by_cases e3 : y = c3
  · subst e3; simp [e1, e2]
  · simp [e1, e2, e3, hr y e1 e2 e3]
theorem j2_next {h₀ h : Heap} {L dl : Addr} {fr₀ fr' own tl tl2 news : List (Addr × Obj)} {f : Nat → S4} {n N b : Nat} {res log : List (Str × Int)} {m₀ m' : Str → Option Value} {dvs : Array Value} {dk : Nat} {o1 : Obj} {s₁ : Shared} {tk : Nat}
    (hf1 : fr' = tl ++ fr₀) (hnw : Newer tl fr₀) (hoff : OwnOff own (((dl, o1) :: fr').map (·.1)))
    (F : Fr h₀ L h m') (N9 : News h₀ L h news) (hsub : ∀ p ∈ (dl, W.listOf dvs dk) :: (tl2 ++ (fr' ++ own)), p ∈ news)
    (hnw2 : Newer tl2 (fr' ++ own)) (hne2 : ∀ q ∈ tl2 ++ (fr' ++ own), q.1 ≠ dl) (hd : DatAll (tl2 ++ fr') dvs.toList (log.map lgD)) (hres : log ++ dueAll f n (bs (N - (b + 1)) (b + 1)) = res)
    (hr : ∀ y, y ≠ Str.ofString "begin" → y ≠ Str.ofString "at" → y ≠ Str.ofString "state" → m' y = m₀ y) :
    InvEndG h₀ L (J2 dl fr₀ f n N res m₀ (b + 1)) own s₁ { s₁ with heap := h, toks := tk } := by
  refine InvEndG.intro F N9 (nx := (dl, W.listOf dvs dk) :: (tl2 ++ fr')) ⟨tl2 ++ tl, _, _, _, log, qqa hf1, rfl, hr, hnw.append (by rw [← hf1]; exact hnw2.sub app_left), fun q hq => hne2 q (mid_mono app_left q hq), hd, hres⟩ (own_after1 hoff hnw2) ?_ ?_
  · exact fun p hp => hsub p (cons_mono (mid_mono app_left) p hp)
  · exact fun p hp => hsub p (.tail _ (List.mem_append_right _ (List.mem_append_right _ hp)))
theorem j3_next {h₀ h : Heap} {L dl sl y : Addr} {fr' own own2 tl news : List (Addr × Obj)} {f : Nat → S4} {n j sk : Nat} {b v : Int} {t1 t2 : Tok} {rest res log : List (Str × Int)} {m₁ m' : Str → Option Value} {svs dvs : Array Value} {dk : Nat} {o1 : Obj} {s₁ : Shared} {tk : Nat}
    (hoff : OwnOff own2 (((dl, o1) :: (tl ++ (fr' ++ own))).map (·.1))) (hsl : (sl, W.listOf svs sk) ∈ fr')
    (F : Fr h₀ L h m') (N9 : News h₀ L h news) (hsub : ∀ p ∈ (dl, W.listOf (dvs.push (.ref y)) dk) :: (y, tupO #[.str (keyS j) t1, .int v t2]) :: (tl ++ (fr' ++ own) ++ own2), p ∈ news)
    (hnw : Newer tl (fr' ++ own)) (hly : ∀ q ∈ tl ++ (fr' ++ own) ++ own2, @LT.lt Nat _ q.1 y) (hyd : @LT.lt Nat _ dl y) (hne : ∀ q ∈ tl ++ (fr' ++ own), q.1 ≠ dl) (hd : DatAll (tl ++ fr') dvs.toList (log.map lgD))
    (hj : j < n) (hh : (f j).has b = true) (hv : (f j).val b = v) (hres : log ++ (dueRow f b (n - j) j ++ rest) = res)
    (hr : ∀ y, y ≠ Str.ofString "at" → y ≠ Str.ofString "state" → m' y = m₁ y) :
    InvEndG h₀ L (fun m nx => (sl, W.listOf svs sk) ∈ nx ∧ J3 dl fr' own f n b rest res m₁ (j + 1) m nx) own2 s₁ { s₁ with heap := h, toks := tk } := by
  have nw1 : Newer [(y, tupO #[.str (keyS j) t1, .int v t2])] (tl ++ (fr' ++ own) ++ own2) := Newer.nil.cons hly
  refine InvEndG.intro F N9 (nx := (dl, W.listOf (dvs.push (.ref y)) dk) :: ([(y, tupO #[.str (keyS j) t1, .int v t2])] ++ (tl ++ (fr' ++ own))))
    ⟨.tail _ (List.mem_append_right _ (List.mem_append_right _ (List.mem_append_left _ hsl))), (y, tupO #[.str (keyS j) t1, .int v t2]) :: tl, _, _, log ++ [(keyS j, v)], rfl, hr, hnw.cons (fun q hq => hly q (List.mem_append_left _ (List.mem_append_right _ hq))), ?_, ?_, ?_⟩ (own_after1 hoff nw1) ?_ ?_
  · intro q hq
    rcases List.mem_cons.mp hq with rfl | hq
    · exact fun e => Nat.ne_of_lt hyd e.symm
    · exact hne q hq
  · rw [Array.toList_push, List.map_append]
    exact (hd.mono sub1).append (.cons (.tuple (.head _) (.cons (.str _ _) (.cons (.int _ _) .nil))) .nil)
  · rw [← hres, dueRow_step hj hh, hv]
    simp
  · intro p hp
    refine hsub p ?_
    simp only [List.mem_cons, List.mem_append, List.cons_append, List.nil_append] at hp ⊢
    grind
  · exact fun p hp => hsub p (.tail _ (.tail _ (List.mem_append_right _ hp)))
end Mine
namespace Mine
theorem frame_b {m₁ m₀ : Str → Option Value} {c1 c2 c3 : Str} {v1 : Value} (hr : ∀ y, y ≠ c1 → y ≠ c2 → y ≠ c3 → m₁ y = m₀ y) :
    (fun y => if y = c1 then some v1 else m₁ y) = fun y => if y = c1 then some v1 else if y = c2 then m₁ c2 else if y = c3 then m₁ c3 else m₀ y := by
  funext y
  by_cases e1 : y = c1
  · simp [e1]
  by_cases e2 : y = c2
  · subst e2; simp [e1]
  by_cases e3 : y = c3
  · subst e3; simp [e1, e2]
  · simp [e1, e2, e3, hr y e1 e2 e3]
end Mine
namespace Mine
theorem in_deep {α : Type} {p q : α} {fr' fr2 tl tl3 own own2 : List α} (h : fr2 = tl ++ p :: fr') (hm : q ∈ fr') : q ∈ tl3 ++ (fr2 ++ own) ++ own2 := by
  subst h
  exact List.mem_append_left _ (List.mem_append_right _ (List.mem_append_left _ (List.mem_append_right _ (.tail _ hm))))
end Mine
namespace Mine
theorem sub_swap {α : Type} {a b : α} {l : List α} : ∀ p ∈ a :: b :: l, p ∈ b :: a :: l := fun p hp => by
  rcases List.mem_cons.mp hp with rfl | hp
  · exact .tail _ (.head _)
  · rcases List.mem_cons.mp hp with rfl | hp
    · exact .head _
    · exact .tail _ (.tail _ hp)
theorem no_has1 {s : S4} {l h : Int} {g : Bool} {n b : Int} (e : s = ⟨l, h, g, n⟩) (a : ¬ l ≤ b) : ¬ s.has b = true := by subst e; rw [has_iff]; exact fun x => a x.1
theorem no_has2 {s : S4} {l h : Int} {g : Bool} {n b : Int} (e : s = ⟨l, h, g, n⟩) (a : ¬ b ≤ h) : ¬ s.has b = true := by subst e; rw [has_iff]; exact fun x => a x.2
theorem yes_has {s : S4} {l h : Int} {g : Bool} {n b : Int} (e : s = ⟨l, h, g, n⟩) (a : l ≤ b) (a' : b ≤ h) : s.has b = true := by subst e; exact has_iff.mpr ⟨a, a'⟩
theorem val_t {s : S4} {l h : Int} {n b : Int} (e : s = ⟨l, h, true, n⟩) : s.val b = b + n := by subst e; rfl
theorem val_f {s : S4} {l h : Int} {n b : Int} (e : s = ⟨l, h, false, n⟩) : s.val b = n := by subst e; rfl
theorem row_stop {f : Nat → S4} {b : Int} {n j : Nat} {log rest res : List (Str × Int)} (h : ¬ (f j).has b = true) (hr : log ++ (dueRow f b (n - j) j ++ rest) = res) : log ++ rest = res := by
  rw [dueRow_stop h] at hr; exact hr
theorem row_end {f : Nat → S4} {b : Int} {n : Nat} {log rest res : List (Str × Int)} (hr : log ++ (dueRow f b (n - n) n ++ rest) = res) : log ++ rest = res := by
  rw [Nat.sub_self] at hr; exact hr
end Mine
namespace Mine
theorem dueRow_len {f : Nat → S4} {b : Int} : ∀ k j, (dueRow f b k j).length ≤ k
  | 0, _ => Nat.le_refl _
  | k + 1, j => by
    rw [dueRow]
    split
    · have := dueRow_len (f := f) (b := b) k (j + 1)
      simp only [List.length_cons]; omega
    · simp
theorem dueAll_len {f : Nat → S4} {n : Nat} : ∀ l : List Int, (dueAll f n l).length ≤ n * l.length
  | [] => Nat.le_refl _
  | b :: r => by
    have h1 := dueRow_len (f := f) (b := b) n 0
    have h2 := dueAll_len (f := f) (n := n) r
    rw [dueAll, List.length_append, List.length_cons, Nat.mul_add, Nat.mul_one]; omega
theorem bs_len : ∀ k i, (bs k i).length = k
  | 0, _ => rfl
  | k + 1, i => by rw [bs, List.length_cons, bs_len k]
theorem dat_len {fr : List (Addr × Obj)} : ∀ {vs : List Value} {ds : List Dat}, DatAll fr vs ds → vs.length = ds.length
  | _, _, .nil => rfl
  | _, _, .cons _ r => by rw [List.length_cons, List.length_cons, dat_len r]
theorem due_bound {fr : List (Addr × Obj)} {dvs : Array Value} {log X : List (Str × Int)} {f : Nat → S4} {n N : Nat} (hd : DatAll fr dvs.toList (log.map lgD)) (hres : log ++ X = dueAll f n (bs N 0)) (hn : n ≤ 6) (hN : N ≤ 7) : dvs.size ≤ 42 := by
  have h1 := dat_len hd
  have h2 := dueAll_len (f := f) (n := n) (bs N 0)
  rw [← hres, bs_len, List.length_append] at h2
  rw [List.length_map, Array.length_toList] at h1
  have h3 : n * N ≤ 6 * 7 := Nat.mul_le_mul hn hN
  omega
end Mine

namespace Mine
theorem off_mk {fr : List (Addr × Obj)} {d lg vd : Addr} (h1 : AllLt d fr) (h2 : AllLt lg fr) (h3 : ∀ q ∈ fr, q.1 ≠ vd) : Off fr d lg vd :=
  ⟨fun q hq => Nat.ne_of_lt (tb_ltOf h1 q hq), fun q hq => Nat.ne_of_lt (tb_ltOf h2 q hq), h3⟩
theorem reorder7 {h₀ h : Heap} {L : Addr} {a b l x d r v : Addr × Obj} {fr : List (Addr × Obj)} (N : News h₀ L h (a :: b :: l :: x :: d :: r :: v :: fr)) :
    News h₀ L h (x :: d :: l :: v :: a :: b :: r :: fr) := fun q hq => N q (by simp only [List.mem_cons] at hq ⊢; grind)
theorem size_x {k : Int} (h : 0 ≤ k ∧ k ≤ 6) : ((Txt.mul (Str.ofString "x") k).length : Int) = k := by
  rw [len_mul, if_neg (by simp; omega)]
  have : (Str.ofString "x").length = 1 := by decide
  rw [this]; omega
section
variable {prog : Program} {w : World} {A : Around} {E : Value → Shared → Prop} {s : Shared} {h₀ : Heap} {L : Addr} {news n₁ n₂ : List (Addr × Obj)} {Q : Value → Shared → Prop}
theorem log_same {lg dl : Addr} {lv dvs : Array Value} {ln dk : Nat} {log : List (Str × Int)} (N : News h₀ L s.heap news) (ma : (lg, W.listOf lv ln) ∈ news) (Da : DatAll n₁ lv.toList (log.map lgD)) (sa : ∀ p ∈ n₁, p ∈ news)
    (mb : (dl, W.listOf dvs dk) ∈ news) (Db : DatAll n₂ dvs.toList (log.map lgD)) (sb : ∀ p ∈ n₂, p ∈ news) (hk : ∀ p ∈ log, kqdOk 8 (lgD p) = true) (hu : A.units + 64 < cLine) (h : Q (.bool false) s) :
    wpAny (model prog w) A (compareOp .NotEq (.ref lg) (.ref dl)) Q E s := by
  have hk' : ∀ d ∈ log.map lgD, kqdOk 8 d = true := by
    intro d hd
    obtain ⟨p, hp, rfl⟩ := List.mem_map.mp hd
    exact hk p hp
  refine kqd_ne N ma rfl (ka := ln) (by simp [W.listOf]) Da sa mb rfl (kb := dk) (by simp [W.listOf]) Db sb hk' hk' hu ?_
  simpa using h
theorem found_same {y z y' z' : Addr} {b e : Int} {t1 t2 t3 t4 : Tok} {k k' : Nat} (N : News h₀ L s.heap news) (m1 : (y, tupO #[.int b t1, .int e t2, .ref z]) ∈ news) (m2 : (z, W.listOf #[] k) ∈ news)
    (m3 : (y', tupO #[.int b t3, .int e t4, .ref z']) ∈ news) (m4 : (z', W.listOf #[] k') ∈ news) (hu : A.units + 64 < cLine) (h : Q (.bool true) s) :
    wpAny (model prog w) A (compareOp .Eq (.ref y) (.ref y')) Q E s := by
  have hd : ∀ {y z : Addr} {t1 t2 : Tok} {k : Nat}, (y, tupO #[.int b t1, .int e t2, .ref z]) ∈ news → (z, W.listOf #[] k) ∈ news → DatIn news (.ref y) (.tuple [.int b, .int e, .list []]) := by
    intro y z t1 t2 k m1 m2
    exact DatIn.tuple (vs := [.int b t1, .int e t2, .ref z]) m1 (.cons (.int _ _) (.cons (.int _ _) (.cons (DatIn.list (vs := []) m2 .nil) .nil)))
  have hk : kqdOk 8 (Dat.tuple [.int b, .int e, .list []]) = true := by simp [kqdOk]
  obtain ⟨as, ra⟩ := kqd_in N 8 (hd m1 m2) hk
  obtain ⟨bs, rb⟩ := kqd_in N 8 (hd m3 m4) hk
  have la := kqd_lay 8 _ hk
  have he : PyData.eqv (kqdP (Dat.tuple [.int b, .int e, .list []])) (kqdP (Dat.tuple [.int b, .int e, .list []])) = true := (kqd_eqv 8 _ _ 8 hk hk).mpr rfl
  have hs : SeqAt.shaped (kqdP (Dat.tuple [.int b, .int e, .list []])) = true := by
    unfold SeqAt.shaped; rw [la.1, Bool.true_and]; exact decide_eq_true (Nat.le_trans la.2 (by decide))
  exact eq_dataH ra rb hs hs hu (by rw [he]; exact h)
end
end Mine
namespace Mine
theorem head_mid {α : Type} {p : α} {fr2 tl fr' : List α} (h : fr2 = tl ++ p :: fr') : p ∈ fr2 := by subst h; exact List.mem_append_right _ (.head _)
theorem tail_mid {α : Type} {p : α} {fr2 tl fr' : List α} (h : fr2 = tl ++ p :: fr') : ∀ q ∈ fr', q ∈ fr2 := by subst h; exact fun q hq => List.mem_append_right _ (.tail _ hq)
theorem deep4 {α : Type} {a b c d : α} {fr fr2 : List α} (h : ∀ q ∈ fr, q ∈ fr2) : ∀ q ∈ fr, q ∈ a :: b :: c :: d :: fr2 := fun q hq => .tail _ (.tail _ (.tail _ (.tail _ (h q hq))))
end Mine
namespace Mine
theorem host_gen {h₀ h : Heap} {L lg x d vd rf : Addr} {a b r : Addr × Obj} {o : Obj} {fr : List (Addr × Obj)} {h1 h2 h3 h4 h5 h6 : Int} {k1 k2 k3 k4 k5 k6 t2 t4 t5 : Tok}
    (N : News h₀ L h (a :: b :: (lg, W.listOf #[] 0) :: (x, instObj 407 d) :: (d, dictOf [⟨h1, .str (Str.ofString "values") k1, .ref vd⟩, ⟨h2, .str (Str.ofString "limit") k2, .int 9999 t2⟩,
   ⟨h3, .str (Str.ofString "refused") k3, .ref rf⟩, ⟨h4, .str (Str.ofString "width") k4, .int 64 t4⟩, ⟨h5, .str (Str.ofString "steps") k5, .int 0 t5⟩, ⟨h6, .str (Str.ofString "log") k6, .ref lg⟩] 6) :: r :: (vd, o) :: fr)) :
    ∃ (c : HK) (t : Tok), News h₀ L h (hostLed x d lg vd c rf 0 t #[] 0 o (a :: b :: r :: fr)) :=
  ⟨⟨h1, h2, h3, h4, h5, h6, k1, k2, k3, k4, k5, k6, t2, t4⟩, t5, reorder7 N⟩
theorem reorder5 {h₀ h : Heap} {L : Addr} {l x d r v : Addr × Obj} {fr : List (Addr × Obj)} (N : News h₀ L h (l :: x :: d :: r :: v :: fr)) :
    News h₀ L h (x :: d :: l :: v :: r :: fr) := fun q hq => N q (by simp only [List.mem_cons] at hq ⊢; grind)
theorem host_gen0 {h₀ h : Heap} {L lg x d vd rf : Addr} {r : Addr × Obj} {o : Obj} {fr : List (Addr × Obj)} {h1 h2 h3 h4 h5 h6 : Int} {k1 k2 k3 k4 k5 k6 t2 t4 t5 : Tok}
    (N : News h₀ L h ((lg, W.listOf #[] 0) :: (x, instObj 407 d) :: (d, dictOf [⟨h1, .str (Str.ofString "values") k1, .ref vd⟩, ⟨h2, .str (Str.ofString "limit") k2, .int 9999 t2⟩,
   ⟨h3, .str (Str.ofString "refused") k3, .ref rf⟩, ⟨h4, .str (Str.ofString "width") k4, .int 64 t4⟩, ⟨h5, .str (Str.ofString "steps") k5, .int 0 t5⟩, ⟨h6, .str (Str.ofString "log") k6, .ref lg⟩] 6) :: r :: (vd, o) :: fr)) :
    ∃ (c : HK) (t : Tok), News h₀ L h (hostLed x d lg vd c rf 0 t #[] 0 o (r :: fr)) :=
  ⟨⟨h1, h2, h3, h4, h5, h6, k1, k2, k3, k4, k5, k6, t2, t4⟩, t5, reorder5 N⟩
end Mine
namespace Mine
theorem deep9 {a b c d q : Addr × Obj} {tl fr2 : List (Addr × Obj)} (_ : Newer tl (a :: b :: c :: d :: fr2)) (h : q ∈ fr2) : q ∈ tl ++ (a :: b :: c :: d :: fr2) := List.mem_append_right _ (.tail _ (.tail _ (.tail _ (.tail _ h))))
end Mine

namespace Mine
variable {w : World} {p : Program} {loose : List Str} {mean : ExcName → Option Value} {mg mb : Str → Option Value}
    {dp un : Nat} {gd : Option (List Code)} {cn : Str} {cs : Scope} {a : Addr} {ccd : Value} {cl : List (Str × Addr)} {outer : List Env} {A₀ : Around} {base h₀ : Heap} {L : Addr} {m : Str → Option Value} {s : Shared} {Q E : Value → Shared → Prop}
    {host dh vd rf lg : Addr} {c : HK} {steps : Int} {t : Tok} {lv : Array Value} {ln : Nat} {o : Obj} {kvs : List (Str × Value)} {D : List (PyData × PyData)} {fr : List (Addr × Obj)}

local macro_rules | `(tactic| k_mem) => `(tactic| assumption)
local macro_rules | `(tactic| k_all) => `(tactic| assumption)
set_option maxHeartbeats 4000000 in
theorem step_spec
    (B : Below A₀ base outer h₀) (F : Fr h₀ L s.heap m) (X : (hd.heap_1 w.params).In h₀)
    (N : News h₀ L s.heap (hostLed host dh lg vd c rf steps t lv ln o fr))
    (T : Top p loose mean mg mb h₀) (hk : cs.kind = .function) (hdp : dp + 10 < recursionLimit) (hun : un + 100 < cLine)
    (ap : Apart host dh lg vd) (off : Off fr dh lg vd) (hst : 0 ≤ steps ∧ steps < 9999)
    (ret : ∀ t h' tk', Fr h₀ L h' m → News h₀ L h' (hostLed host dh lg vd c rf (steps + 1) t lv ln o fr) → Q .none { s with heap := h', toks := tk' }) :
    wpAny (model PySem.Challenge.rw_tk0108_01.row.prog w) (ktrTop dp un gd cn cs L a ccd cl outer) (call (.ref 404) [.ref host]) Q E s := by
  w_top off
  revert X; k_fill; intro X
  obtain ⟨a1, a2, a3, a4, a5, a6⟩ := ap
  obtain ⟨o1, o2, o3⟩ := off
  refine wpAny_call ?_
  k_dflt ktr_enter
  k_steps
  (rename News h₀ _ _ _ => kN)
  (rename Fr h₀ _ _ _ => kF)
  exact ret _ _ _ kF kN
local macro_rules | `(tactic| size_fits) => `(tactic| (simp only [PySem.sizeLine_eq]; omega))
local macro_rules | `(tactic| walk_at "setItem ref str") => `(tactic| (k_here; k_dflt (refine' setItem_K PyProof.V.same_str (strKind_is _ _ _ _) ?v ?F ?N ?U ?d ?f ?_ ?z; (case F => k_asm); (case N => k_asm); (case U => k_updF); (case d => k_asm); (case f => k_asm); (case z => (simp only [PySem.sizeLine_eq]; omega)); (case v => k_flat)); intro h' o' F' N' hd' hf'; (try dsimp only at N'); (try k_sweep)))

local macro_rules | `(tactic| walk_at "compareOp In str ref") => `(tactic| (k_here; k_dflt (refine' kqd_isIn (xs := []) (ds := []) (d := Dat.str _) ?N ?a ?b ?c DatAll.nil (fun _ h => h) (DatIn.str _ _) (fun _ h => h) ?l ?m ?n ?_; (case N => k_asm); (case a => k_mem); (case b => rfl); (case c => rfl); (case l => exact List.forall_mem_nil _); (case m => assumption); (case n => ktr_units)); (try simp only [List.not_mem_nil, decide_false])))
set_option maxHeartbeats 4000000 in
theorem assign_spec {r rd : Addr} {hk1 hk2 hk3 : Int} {kt1 kt2 kt3 kt : Tok} {vk vo : Value} {x : Str} {i : Int} {it : Tok} {nr : Nat}
    (B : Below A₀ base outer h₀) (F : Fr h₀ L s.heap m) (X : (hd.heap_1 w.params).In h₀)
    (N : News h₀ L s.heap (hostLed host dh lg vd c rf steps t lv ln o fr))
    (T : Top p loose mean mg mb h₀) (hk : cs.kind = .function) (hdp : dp + 10 < recursionLimit) (hun : un + 100 < cLine)
    (hr : (r, instObj 110 rd) ∈ fr)
    (hrd : (rd, dictOf [⟨hk1, .str (Str.ofString "kind") kt1, vk⟩, ⟨hk2, .str (Str.ofString "owner") kt2, vo⟩, ⟨hk3, .str (Str.ofString "key") kt3, .str x kt⟩] 3) ∈ fr)
    (hrf : (rf, W.listOf #[] nr) ∈ fr)
    (ap : Apart host dh lg vd) (off : Off fr dh lg vd) (va : ValsAre w vd o kvs D) (hD : D.length ≤ lv.size) (hlv : lv.size ≤ 9999) (hx : kqdOk 8 (Dat.str x) = true)
    (ret : ∀ h' tk' y n' t' i' o' kvs' D', Fr h₀ L h' m → News h₀ L h' (hostLed host dh lg vd c rf steps t (lv.push (.ref y)) n' o' ((y, { cls := .type "tuple", data := .seq #[.str x t', .int i i'] }) :: fr)) →
       Off ((y, { cls := .type "tuple", data := .seq #[.str x t', .int i i'] }) :: fr) dh lg vd → ValsAre w vd o' kvs' D' → D'.length ≤ lv.size + 1 → AllLt y fr → Q (.bool true) { s with heap := h', toks := tk' }) :
    wpAny (model PySem.Challenge.rw_tk0108_01.row.prog w) (ktrTop dp un gd cn cs L a ccd cl outer) (call (.ref 397) [.ref host, .ref r, .int i it]) Q E s := by
  w_top off
  revert X; k_fill; intro X
  obtain ⟨a1, a2, a3, a4, a5, a6⟩ := ap
  obtain ⟨o1, o2, o3⟩ := off
  obtain ⟨vlo, vis, vflat⟩ := va
  refine wpAny_call ?_
  k_dflt ktr_enter
  k_steps
  (rename Obj.IsDictOf _ _ _ => hd9)
  (rename FlatPairs _ _ _ => hf9)
  (rename host < _ ∧ _ => l9)
  (rename News h₀ _ _ _ => kN)
  (rename Fr h₀ _ _ _ => kF)
  refine ret _ _ _ _ _ _ _ _ _ kF (cb_drop kN (by kcj_all)) ⟨?_, ?_, ?_⟩ ⟨vlo, hd9, hf9⟩ (Nat.le_trans (PyProof.V.putD_length_le _ _ _) (by omega)) l9.2.2.2.2
  · exact List.forall_mem_cons.mpr ⟨by (refine neN ?_; dsimp only; omega), o1⟩
  · exact List.forall_mem_cons.mpr ⟨by (refine neN ?_; dsimp only; omega), o2⟩
  · exact List.forall_mem_cons.mpr ⟨by (refine neN ?_; dsimp only; omega), o3⟩
end Mine

namespace Mine
variable {w : World} {p : Program} {loose : List Str} {mean : ExcName → Option Value} {mg mb : Str → Option Value}
    {dp un : Nat} {gd : Option (List Code)} {cn : Str} {cs : Scope} {a : Addr} {ccd : Value} {cl : List (Str × Addr)} {outer : List Env} {A₀ : Around} {base h₀ : Heap} {L : Addr} {m : Str → Option Value} {s : Shared} {Q E : Value → Shared → Prop}
    {news : List (Addr × Obj)}

local macro_rules | `(tactic| k_mem) => `(tactic| assumption)
local macro_rules | `(tactic| k_room) => `(tactic| ktr_room)
local macro_rules | `(tactic| k_units) => `(tactic| ktr_units)

local macro_rules | `(tactic| walk_at "compareOp NotIn str ref") => `(tactic| (k_here; k_dflt (first
  | (refine' notin_K (ks := countedKs) ?F ?X ?e ?b ?_; (case F => k_asm); (case X => k_asm); (case e => k_is); (case b => exact rfl))
  | (refine' notin_K (ks := signedKs) ?F ?X ?e ?b ?_; (case F => k_asm); (case X => k_asm); (case e => k_is); (case b => exact rfl)))))
set_option maxHeartbeats 8000000 in
theorem taken_spec {ob : Obj} {kd : Kd} {told i : Int} {it xt : Tok} {ha : Addr} {rest nm : Value} {pile host : Value} {x : Str}
    (B : Below A₀ base outer h₀) (F : Fr h₀ L s.heap m) (X : (hd.heap_1 w.params).In h₀)
    (N : News h₀ L s.heap news)
    (T : Top p loose mean mg mb h₀) (hk : cs.kind = .function) (hdp : dp + 10 < recursionLimit) (hun : un + 100 < cLine)
    (hh : (ha, ob) ∈ news) (hp : PartIs ob kd told) (hx : x.length ≤ 6)
    (rn : endOf kd told x.length i = none → ∀ h' tk', Fr h₀ L h' m → News h₀ L h' news → Q .none { s with heap := h', toks := tk' })
    (rs : ∀ e, endOf kd told x.length i = some e → ∀ h' tk' y t', Fr h₀ L h' m → News h₀ L h' ((y, tupO #[rest, .int e t', nm]) :: news) → (∀ q ∈ news, q.1 < y) → Q (.ref y) { s with heap := h', toks := tk' }) :
    wpAny (model PySem.Challenge.rw_tk0108_01.row.prog w) (ktrTop dp un gd cn cs L a ccd cl outer) (call (.ref 369) [.ref ha, rest, .int i it, nm, .str x xt, pile, host]) Q E s := by
  w_top off
  revert X; k_fill; intro X
  cases hp
  all_goals (simp only [endOf] at rn rs)
  all_goals refine wpAny_call ?_
  all_goals k_dflt ktr_enter
  all_goals k_steps
  all_goals (
    (rename News h₀ _ _ _ => kN)
    (rename Fr h₀ _ _ _ => kF)
    first
    | (refine rs _ ?h _ _ _ _ kF kN ?g; (case g => assumption); (case h => first | rfl | exact if_pos (by omega)))
    | (refine rn ?h _ _ kF kN; (case h => exact if_neg (by omega))))
end Mine

namespace Mine
variable {w : World} {p : Program} {loose : List Str} {mean : ExcName → Option Value} {mg mb : Str → Option Value}
    {dp un : Nat} {gd : Option (List Code)} {cn : Str} {cs : Scope} {a : Addr} {ccd : Value} {cl : List (Str × Addr)} {outer : List Env} {A₀ : Around} {base h₀ : Heap} {L : Addr} {m : Str → Option Value} {s : Shared} {Q E : Value → Shared → Prop}
    {news : List (Addr × Obj)} {host dh vd rf lg : Addr} {c : HK} {steps : Int} {t : Tok} {lv : Array Value} {ln : Nat} {o : Obj} {kvs : List (Str × Value)} {D : List (PyData × PyData)} {fr : List (Addr × Obj)}

local macro_rules | `(tactic| k_mem) => `(tactic| assumption)
local macro_rules | `(tactic| k_room) => `(tactic| ktr_room)
local macro_rules | `(tactic| k_units) => `(tactic| ktr_units)

set_option maxHeartbeats 8000000 in
theorem adv_fail {i : Int} {t1 it xt : Tok} {ha ca : Addr} {rest nm : Value} {pile host : Value} {x : Str}
    (B : Below A₀ base outer h₀) (F : Fr h₀ L s.heap m) (X : (hd.heap_1 w.params).In h₀)
    (N : News h₀ L s.heap news)
    (T : Top p loose mean mg mb h₀) (hk : cs.kind = .function) (hdp : dp + 12 < recursionLimit) (hun : un + 120 < cLine)
    (hc : (ca, tupO #[.ref ha, rest]) ∈ news) (hh : (ha, tupO #[.str (Str.ofString "fail") t1]) ∈ news)
    (rn : ∀ h' tk', Fr h₀ L h' m → News h₀ L h' news → Q .none { s with heap := h', toks := tk' }) :
    wpAny (model PySem.Challenge.rw_tk0108_01.row.prog w) (ktrTop dp un gd cn cs L a ccd cl outer) (call (.ref 341) [.ref ca, .int i it, nm, .str x xt, pile, host]) Q E s := by
  w_top off
  revert X; k_fill; intro X
  refine wpAny_call ?_
  k_dflt ktr_enter
  k_steps
  (rename News h₀ _ _ _ => kN)
  (rename Fr h₀ _ _ _ => kF)
  exact rn _ _ kF (cb_drop kN (by kcj_all))

set_option maxHeartbeats 8000000 in
theorem adv_cat {i : Int} {t1 it xt : Tok} {ha ca : Addr} {rest nm v1 v2 : Value} {pile host : Value} {x : Str}
    (B : Below A₀ base outer h₀) (F : Fr h₀ L s.heap m) (X : (hd.heap_1 w.params).In h₀)
    (N : News h₀ L s.heap news)
    (T : Top p loose mean mg mb h₀) (hk : cs.kind = .function) (hdp : dp + 12 < recursionLimit) (hun : un + 120 < cLine)
    (hc : (ca, tupO #[.ref ha, rest]) ∈ news) (hh : (ha, tupO #[.str (Str.ofString "cat") t1, v1, v2]) ∈ news)
    (rs : ∀ h' tk' y y1 y2 t', Fr h₀ L h' m → News h₀ L h' ((y, tupO #[.ref y1, .int i t', nm]) :: (y1, tupO #[v1, .ref y2]) :: (y2, tupO #[v2, rest]) :: news) → AllLt y2 news → y2 < y1 → y1 < y → Q (.ref y) { s with heap := h', toks := tk' }) :
    wpAny (model PySem.Challenge.rw_tk0108_01.row.prog w) (ktrTop dp un gd cn cs L a ccd cl outer) (call (.ref 341) [.ref ca, .int i it, nm, .str x xt, pile, host]) Q E s := by
  w_top off
  revert X; k_fill; intro X
  refine wpAny_call ?_
  k_dflt ktr_enter
  k_steps
  (rename News h₀ _ _ _ => kN)
  (rename Fr h₀ _ _ _ => kF)
  (rename _ < _ ∧ AllLt _ news => q1)
  (rename _ < _ ∧ _ < _ ∧ AllLt _ news => q2)
  (rename _ < _ ∧ _ < _ ∧ _ < _ ∧ AllLt _ news => q3)
  exact rs _ _ _ _ _ _ kF (cb_drop kN (by kcj_all)) q1.2 q2.1 q3.1

local macro_rules | `(tactic| walk_at "call ref") => `(tactic| (k_here; (with_reducible show wpAny _ _ (call (Value.ref 369) _) _ _ _); (rename News _ _ _ _ => N9); (have N8 := news_tail (news_tail N9)); k_dflt (refine' taken_spec ?B ?F ?X N8 ?T ?hk ?hd ?hu ?hh ?hp ?h2 ?_ ?_; (case B => k_asm); (case F => k_asm); (case X => k_asm); (case T => k_asm); (case hk => exact rfl); (case hd => ktr_room); (case hu => ktr_units); (case hh => k_mem); (case hp => assumption); (case h2 => assumption)); intros; try k_sweep))
set_option maxHeartbeats 8000000 in
theorem adv_part {ob : Obj} {kd : Kd} {told : Int} {i : Int} {it xt : Tok} {ha ca : Addr} {rest nm : Value} {pile host : Value} {x : Str}
    (B : Below A₀ base outer h₀) (F : Fr h₀ L s.heap m) (X : (hd.heap_1 w.params).In h₀)
    (N : News h₀ L s.heap news)
    (T : Top p loose mean mg mb h₀) (hk : cs.kind = .function) (hdp : dp + 12 < recursionLimit) (hun : un + 120 < cLine)
    (hc : (ca, tupO #[.ref ha, rest]) ∈ news) (hh : (ha, ob) ∈ news) (hp : PartIs ob kd told) (hx : x.length ≤ 6)
    (rn : endOf kd told x.length i = none → ∀ h' tk', Fr h₀ L h' m → News h₀ L h' news → Q .none { s with heap := h', toks := tk' })
    (rs : ∀ e, endOf kd told x.length i = some e → ∀ h' tk' y t', Fr h₀ L h' m → News h₀ L h' ((y, tupO #[rest, .int e t', nm]) :: news) → AllLt y news → Q (.ref y) { s with heap := h', toks := tk' }) :
    wpAny (model PySem.Challenge.rw_tk0108_01.row.prog w) (ktrTop dp un gd cn cs L a ccd cl outer) (call (.ref 341) [.ref ca, .int i it, nm, .str x xt, pile, host]) Q E s := by
  w_top off
  revert X; k_fill; intro X
  have hp0 := hp
  cases hp
  all_goals refine wpAny_call ?_
  all_goals k_dflt ktr_enter
  all_goals k_steps
  all_goals (
    (rename News h₀ _ _ _ => kN)
    (rename Fr h₀ _ _ _ => kF)
    first
    | (refine rs _ ?h _ _ _ _ kF (cb_drop kN (by kcj_all)) ?g; (case g => exact allLt_of (by assumption)); (case h => assumption))
    | (refine rn ?h _ _ kF (cb_drop kN (by kcj_all)); (case h => assumption)))

local macro_rules | `(tactic| walk_at "call ref") => `(tactic| (k_here; (with_reducible show wpAny _ _ (call (Value.ref 397) _) _ _ _); (rename News _ _ _ _ => N9); (have N8 := news_tail N9); k_dflt (refine' assign_spec ?B ?F ?X N8 ?T ?hk ?hd ?hu ?hr ?hrd ?hrf ?ap ?off ?va ?hD ?hlv ?hx ?_; (case B => k_asm); (case F => k_asm); (case X => k_asm); (case T => k_asm); (case hk => exact rfl); (case hd => ktr_room); (case hu => ktr_units); (case hr => k_mem); (case hrd => k_mem); (case hrf => k_mem); (case ap => assumption); (case off => assumption); (case va => assumption); (case hD => assumption); (case hlv => assumption); (case hx => assumption)); intros; try k_sweep))
set_option maxHeartbeats 8000000 in
theorem adv_cursor {i : Int} {t1 it xt : Tok} {ha ca r : Addr} {rest nm : Value} {pile : Value} {x y : Str} {nr : Nat}
    (B : Below A₀ base outer h₀) (F : Fr h₀ L s.heap m) (X : (hd.heap_1 w.params).In h₀)
    (N : News h₀ L s.heap (hostLed host dh lg vd c rf steps t lv ln o fr))
    (T : Top p loose mean mg mb h₀) (hk : cs.kind = .function) (hdp : dp + 12 < recursionLimit) (hun : un + 120 < cLine)
    (hc : (ca, tupO #[.ref ha, rest]) ∈ fr) (hh : (ha, tupO #[.str (Str.ofString "cursor") t1, .ref r]) ∈ fr) (hr : NameRefIn fr r y) (hrf : (rf, W.listOf #[] nr) ∈ fr)
    (ap : Apart host dh lg vd) (off : Off fr dh lg vd) (va : ValsAre w vd o kvs D) (hD : D.length ≤ lv.size) (hlv : lv.size ≤ 9999)
    (ret : ∀ h' tk' u z n' t' i' j' o' kvs' D', Fr h₀ L h' m → News h₀ L h' (hostLed host dh lg vd c rf steps t (lv.push (.ref z)) n' o' ((u, tupO #[rest, .int i j', nm]) :: (z, tupO #[.str y t', .int i i']) :: fr)) →
       Off ((u, tupO #[rest, .int i j', nm]) :: (z, tupO #[.str y t', .int i i']) :: fr) dh lg vd → ValsAre w vd o' kvs' D' → D'.length ≤ lv.size + 1 → AllLt z fr → (@LT.lt Nat _ z u) → Q (.ref u) { s with heap := h', toks := tk' }) :
    wpAny (model PySem.Challenge.rw_tk0108_01.row.prog w) (ktrTop dp un gd cn cs L a ccd cl outer) (call (.ref 341) [.ref ca, .int i it, nm, .str x xt, pile, .ref host]) Q E s := by
  w_top off
  revert X; k_fill; intro X
  obtain ⟨rd, hk1, hk2, hk3, kt1, kt2, kt3, kt, vk, vo, hr1, hr2, hx⟩ := hr
  refine wpAny_call ?_
  k_dflt ktr_enter
  k_steps
  (rename News h₀ _ _ _ => kN)
  (rename Fr h₀ _ _ _ => kF)
  (rename Off _ _ _ _ => of9)
  (rename ValsAre _ _ _ _ _ => va9)
  (rename List.length _ ≤ Array.size _ + 1 => le9)
  (rename _ < _ ∧ _ < _ ∧ _ => l9)
  (rename AllLt _ fr => al9)
  refine ret _ _ _ _ _ _ _ _ _ _ _ kF (cb_drop kN (by kcj_all)) ⟨?_, ?_, ?_⟩ va9 le9 al9 (by omega)
  · exact List.forall_mem_cons.mpr ⟨by (refine neN ?_; dsimp only; omega), of9.o1⟩
  · exact List.forall_mem_cons.mpr ⟨by (refine neN ?_; dsimp only; omega), of9.o2⟩
  · exact List.forall_mem_cons.mpr ⟨by (refine neN ?_; dsimp only; omega), of9.o3⟩
end Mine

namespace Mine
variable {w : World} {p : Program} {loose : List Str} {mean : ExcName → Option Value} {mg mb : Str → Option Value}
    {dp un : Nat} {gd : Option (List Code)} {cn : Str} {cs : Scope} {a : Addr} {ccd : Value} {cl : List (Str × Addr)} {outer : List Env} {A₀ : Around} {base h₀ : Heap} {L : Addr} {m : Str → Option Value} {s : Shared} {Q E : Value → Shared → Prop}
    {news : List (Addr × Obj)} {host dh vd rf lg : Addr} {c : HK} {steps : Int} {t : Tok} {lv : Array Value} {ln : Nat} {o : Obj} {kvs : List (Str × Value)} {D : List (PyData × PyData)} {fr : List (Addr × Obj)}

local macro_rules | `(tactic| k_mem) => `(tactic| assumption)
local macro_rules | `(tactic| k_all) => `(tactic| assumption)
local macro_rules | `(tactic| k_room) => `(tactic| ktr_room)
local macro_rules | `(tactic| k_units) => `(tactic| ktr_units)
local macro_rules | `(tactic| walk_at "exec While Compare cons nil") => `(tactic| ((with_reducible show wpAny _ _ (exec (Stmt.While (Expr.Compare (Expr.Name (Str.ofString "chain") _) _ _ _) _ _ _) _) _ _ _); refine Hold.intro ?_))


local macro_rules | `(tactic| walk_at "call ref") => `(tactic| (k_here; (with_reducible show wpAny _ _ (call (Value.ref 404) _) _ _ _); k_dflt (refine' step_spec ?B ?F ?X ?N ?T ?hk ?hd ?hu ?ap ?off ?hst ?_; (case B => k_asm); (case F => k_asm); (case X => k_asm); (case N => k_asm); (case T => k_asm); (case hk => exact rfl); (case hd => ktr_room); (case hu => ktr_units); (case ap => assumption); (case off => assumption); (case hst => (refine ⟨?_, ?_⟩ <;> omega))); intro t' h' tk' F' N'; try k_sweep))

local macro_rules | `(tactic| walk_at "call ref") => `(tactic| (k_here; (with_reducible show wpAny _ _ (call (Value.ref 341) _) _ _ _); k_dflt (first
  | (refine' adv_cat ?B ?F ?X ?N ?T ?hk ?hd ?hu ?hc ?hh ?_; (case B => k_asm); (case F => k_asm); (case X => k_asm); (case N => k_asm); (case T => k_asm); (case hk => exact rfl); (case hd => ktr_room); (case hu => ktr_units); (case hc => k_mem); (case hh => k_mem); intro h' tk' y y1 y2 t' F' N' l1 l2 l3; replace l2 := ltN l2; replace l3 := ltN l3; try k_sweep)
  | (refine' adv_part ?B ?F ?X ?N ?T ?hk ?hd ?hu ?hc ?hh ?hp ?hx ?_ ?_; (case B => k_asm); (case F => k_asm); (case X => k_asm); (case N => k_asm); (case T => k_asm); (case hk => exact rfl); (case hd => ktr_room); (case hu => ktr_units); (case hc => k_mem); (case hh => k_mem); (case hp => assumption); (case hx => assumption); intros; try k_sweep)
  | (refine' adv_cursor ?B ?F ?X ?N ?T ?hk ?hd ?hu ?hc ?hh ?hr ?hrf ?ap ?off ?va ?hD ?hlv ?_; (case B => k_asm); (case F => k_asm); (case X => k_asm); (case N => k_asm); (case T => k_asm); (case hk => exact rfl); (case hd => ktr_room); (case hu => ktr_units); (case hc => k_mem); (case hh => k_mem); (case hr => assumption); (case hrf => assumption); (case ap => assumption); (case off => assumption); (case va => assumption); (case hD => assumption); (case hlv => omega); intros; try k_sweep)
  | (refine' adv_fail ?B ?F ?X ?N ?T ?hk ?hd ?hu ?hc ?hh ?_; (case B => k_asm); (case F => k_asm); (case X => k_asm); (case N => k_asm); (case T => k_asm); (case hk => exact rfl); (case hd => ktr_room); (case hu => ktr_units); (case hc => k_mem); (case hh => k_mem); intros; try k_sweep))))

local macro_rules | `(tactic| walk_at "compareOp Eq ref str") => `(tactic| (k_here; (with_reducible show wpAny _ _ (compareOp CmpOp.Eq (Value.ref _) (Value.str _ _)) _ _ _); k_dflt (refine' eq_tup_str ?N ?m ?u ?_; (case N => k_asm); (case m => k_mem); (case u => ktr_units))))
local macro_rules | `(tactic| walk_at "WhileStep2") => `(tactic| first
  | ((with_reducible show WhileStep2 _ _ _ _ _ _ Flow.brk _); dsimp only [WhileStep2])
  | ((with_reducible show WhileStep2 _ _ _ _ _ _ Flow.next _); refine Hold.intro ?_))

set_option maxHeartbeats 8000000 in
theorem tried_spec {i : Int} {it xt : Tok} {na : Addr} {x : Str} {d : Nd} {log : List (Str × Int)} {nr : Nat} {dfr : List (Addr × Obj)}
    (B : Below A₀ base outer h₀) (F : Fr h₀ L s.heap m) (X : (hd.heap_1 w.params).In h₀)
    (N : News h₀ L s.heap (hostLed host dh lg vd c rf steps t lv ln o fr))
    (T : Top p loose mean mg mb h₀) (hk : cs.kind = .function) (hdp : dp + 14 < recursionLimit) (hun : un + 140 < cLine)
    (ap : Apart host dh lg vd) (hok : HostOk w dh lg vd fr dfr steps lv o log) (hdf : ∀ p ∈ dfr, p ∈ fr) (hb : steps + csize [d] ≤ 9999) (hx : x.length ≤ 6) (hnd : NodeIn dfr (.ref na) d) (hrf : (rf, W.listOf #[] nr) ∈ fr)
    (rn : (runs x.length [d] i log).1 = none → ∀ h' tk' steps' t' lv' ln' o' tl, Fr h₀ L h' m → News h₀ L h' (hostLed host dh lg vd c rf steps' t' lv' ln' o' (tl ++ fr)) → Newer tl fr → HostOk w dh lg vd (tl ++ fr) (tl ++ dfr) steps' lv' o' (runs x.length [d] i log).2 → steps' ≤ steps + csize [d] → Q .none { s with heap := h', toks := tk' })
    (rs : ∀ e, (runs x.length [d] i log).1 = some e → ∀ h' tk' steps' t' lv' ln' o' tl y z te nz, Fr h₀ L h' m → News h₀ L h' (hostLed host dh lg vd c rf steps' t' lv' ln' o' (tl ++ fr)) → Newer tl fr → HostOk w dh lg vd (tl ++ fr) (tl ++ dfr) steps' lv' o' (runs x.length [d] i log).2 → steps' ≤ steps + csize [d] →
      (y, tupO #[.int e te, .ref z]) ∈ tl → (z, W.listOf #[] nz) ∈ tl → Q (.ref y) { s with heap := h', toks := tk' }) :
    wpAny (model PySem.Challenge.rw_tk0108_01.row.prog w) (ktrTop dp un gd cn cs L a ccd cl outer) (call (.ref 334) [.ref na, .str x xt, .int i it, .ref host]) Q E s := by
  w_top off
  revert X; k_fill; intro X
  have ap0 := ap
  obtain ⟨a1, a2, a3, a4, a5, a6⟩ := ap0
  obtain ⟨o1, o2, o3⟩ := hok.off
  refine wpAny_call ?_
  k_dflt ktr_enter
  k_steps
  unfold Hold
  (rename Fr _ _ _ _ => F9)
  (rename News _ _ _ _ => N9)
  (rename host < _ ∧ dh < _ ∧ lg < _ ∧ vd < _ ∧ AllLt _ fr => w4)
  (rename _ < _ ∧ host < _ ∧ dh < _ ∧ lg < _ ∧ vd < _ ∧ AllLt _ fr => w3)
  (rename _ < _ ∧ _ < _ ∧ host < _ ∧ dh < _ ∧ lg < _ ∧ vd < _ ∧ AllLt _ fr => w2)
  (rename _ < _ ∧ _ < _ ∧ _ < _ ∧ host < _ ∧ dh < _ ∧ lg < _ ∧ vd < _ ∧ AllLt _ fr => w1)
  have N8 := reorder4 N9
  refine While_inv2 (TriedJ w host dh lg vd rf c [_, _, _, _] fr dfr _ x.length (runs x.length [d] i log) (steps + csize [d]) _) F9 N8
    ⟨[d], _, i, it, [], _, _, steps, t, lv, ln, o, log, rfl, rfl, rfl, rfl, rfl, rfl, rfl, fun _ _ _ _ _ => rfl, .cons (.tail _ (.tail _ (.tail _ (.head _)))) (hnd.mono sub4) .nil, .nil, ⟨?m3, hok.vals, hok.log.mono sub4, hok.pos, hok.few⟩, rfl, Int.le_refl _⟩ ?m6
  (case m3 => (refine ((((hok.off.cons ?_ ?_ ?_).cons ?_ ?_ ?_).cons ?_ ?_ ?_).cons ?_ ?_ ?_) <;> (refine neN ?_; (try dsimp only); omega)))
  (case m6 =>
    intro n m₁ news₁ h₁ tk₁ F₁ N₁ hJ
    obtain ⟨ds, cv, i, it, tl, fr', dfr', steps', t', lv', ln', o', log', hf1, hf2, rfl, rfl, hc, ha, hn, hr, hch, hnw, hok', hrun, hb'⟩ := hJ
    rw [frame_four hc ha hn hr] at F₁
    obtain hrf' := jin hf1 _ hrf
    obtain hdf' := jsub hf1 hf2 hdf
    obtain e1 := j1 hf1
    obtain e2 := j3 hf1
    obtain ⟨p1, p2, p3⟩ := hok'.off
    obtain hnw2 := Newer.append (newer4 w1.2.2.2.2.2.2.2 w2.2.2.2.2.2.2 w3.2.2.2.2.2 w4.2.2.2.2) hnw
    cases hch with
    | nil =>
      k_fold
      k_steps
      (rename News h₀ _ _ _ => kN)
      (rename Fr h₀ _ _ _ => kF)
      (rename _ < _ ∧ host < _ ∧ dh < _ ∧ lg < _ ∧ vd < _ ∧ AllLt _ fr' => q2)
      (rename host < _ ∧ dh < _ ∧ lg < _ ∧ vd < _ ∧ AllLt _ fr' => q3)
      have kN2 := reorder2 kN
      obtain hd1 := jdone hf1
      obtain hd2 := jdone hf2
      refine rs i (by rw [← hrun]; rfl) _ _ _ _ _ _ _ (_ :: _ :: _) _ _ _ _ kF (by rw [hd1] at kN2; exact kN2) ((hnw2.cons ?n1).cons ?n2) ⟨?u1, hok'.vals, ?u2, hok'.pos, hok'.few⟩ ?u3 (.head _) (.tail _ (.head _))
      case n1 => (have := q3.2.2.2.2; rw [hd1] at this; exact lt_tail this)
      case n2 => (have := q2.2.2.2.2.2; rw [hd1] at this; exact lt_tail this)
      case u1 => (rw [List.cons_append, List.cons_append, ← hd1]; (refine ((hok'.off.cons ?_ ?_ ?_).cons ?_ ?_ ?_) <;> (refine neN ?_; (try dsimp only); omega)))
      case u2 => (rw [List.cons_append, List.cons_append, ← hd2, ← hrun]; exact hok'.log.mono sub2)
      case u3 => (simp only [csize] at hb'; simp only [csize]; omega)
    | cons hc1 hn1 hch1 =>
      rename_i c1 v1 rest1 d1 ds1
      obtain hcs := csize_pos d1 ds1
      obtain ⟨kvs', D', va', hD'⟩ := hok'.vals
      obtain hoff' := hok'.off
      obtain hpos' := hok'.pos
      obtain hfew' := hok'.few
      obtain hc1' := hdf' _ hc1
      k_fold
      cases hn1 with
      | cat m1 n1 n2 =>
        obtain m1' := hdf' _ m1
        k_steps
        (rename AllLt _ (hostLed _ _ _ _ _ _ _ _ _ _ _ _) => l9)
        simp only [hostLed, AllLt] at l9
        (rename News _ _ _ _ => N9)
        (rename Fr _ _ _ _ => F9)
        dsimp only [Hold, WhileStep2, TriedJ]
        refine ⟨_, _, _, _, csize _, rfl, F9, reorder3 N9, ?lt, _, _, _, _, (_ :: _ :: _ :: tl), _, (_ :: _ :: _ :: dfr'), _, _, _, _, _, _, qq3 hf1, qq3 hf2, rfl, rfl, rfl, rfl, rfl, ?fr, .cons (.tail _ (.head _)) (n1.mono sub3) (.cons (.tail _ (.tail _ (.head _))) (n2.mono sub3) (hch1.mono sub3)), ?nw, ⟨?off, hok'.vals, hok'.log.mono sub3, ?pos, ?few⟩, ?run, ?bd⟩
        case nw => (obtain lt9 := jlt hf1 l9.2.2.2.2; exact ((hnw.cons lt9).cons (lt_more lt9 (by assumption))).cons (lt_more (lt_more lt9 (by assumption)) (by assumption)))
        case lt => (rw [csize_cat]; omega)
        case fr => (intro z z1 z2 z3 z4; simp [z1, z2, z3, z4])
        case off => (refine (((hok'.off.cons ?_ ?_ ?_).cons ?_ ?_ ?_).cons ?_ ?_ ?_) <;> (refine neN ?_; (try dsimp only); omega))
        case pos => omega
        case few => omega
        case run => rw [← hrun, runs_cat]
        case bd => (rw [csize_cat] at hb'; omega)
      | part m1 hp =>
        obtain m1' := hdf' _ m1
        k_steps
        · (rename endOf _ _ _ _ = none => he)
          (rename News h₀ _ _ _ => kN)
          (rename Fr h₀ _ _ _ => kF)
          obtain hd1 := jdone hf1
          obtain hd2 := jdone hf2
          rw [hd1] at kN
          exact rn (by rw [← hrun, runs_part_none _ _ he]) _ _ _ _ _ _ _ _ kF kN hnw2 ⟨hd1 ▸ hok'.off, hok'.vals, by rw [← hrun, runs_part_none _ _ he, ← hd2]; exact hok'.log, by omega, by omega⟩ (by omega)
        · (rename endOf _ _ _ _ = some _ => he)
          (rename AllLt _ (hostLed _ _ _ _ _ _ _ _ _ _ _ _) => l9)
          simp only [hostLed, AllLt] at l9
          (rename News _ _ _ _ => N9)
          (rename Fr _ _ _ _ => F9)
          dsimp only [Hold, WhileStep2, TriedJ]
          refine ⟨_, _, _, _, csize _, rfl, F9, reorder1 N9, ?lt, _, _, _, _, (_ :: tl), _, (_ :: dfr'), _, _, _, _, _, _, qq1 hf1, qq1 hf2, rfl, rfl, rfl, rfl, rfl, ?fr, hch1.mono sub1, ?nw, ⟨?off, hok'.vals, hok'.log.mono sub1, ?pos, ?few⟩, ?run, ?bd⟩
          case nw => exact hnw.cons (jlt hf1 l9.2.2.2.2)
          case lt => omega
          case fr => (intro z z1 z2 z3 z4; simp [z1, z2, z3, z4])
          case off => (refine (hok'.off.cons ?_ ?_ ?_) <;> (refine neN ?_; (try dsimp only); omega))
          case pos => omega
          case few => omega
          case run => rw [← hrun, runs_part_some _ _ he]
          case bd => omega
      | @cur _ _ _ xx m1 hr =>
        obtain m1' := hdf' _ m1
        obtain hr' := hr.mono hdf'
        k_steps
        (rename Off (_ :: _) _ _ _ => of9)
        (rename ValsAre _ _ _ _ _ => va9)
        (rename List.length _ ≤ Array.size _ + 1 => le9)
        (rename AllLt _ fr' => l9)
        (rename @LT.lt Nat _ _ _ => l8)
        (rename News _ _ _ _ => N9)
        (rename Fr _ _ _ _ => F9)
        dsimp only [Hold, WhileStep2, TriedJ]
        refine ⟨_, _, _, _, csize _, rfl, F9, N9, ?lt, _, _, _, _, (_ :: _ :: tl), _, (_ :: _ :: dfr'), _, _, _, _, _, log' ++ [(xx, i)], qq2 hf1, qq2 hf2, rfl, rfl, rfl, rfl, rfl, ?fr, hch1.mono sub2, ?nw, ⟨of9, ⟨_, _, va9, ?sz⟩, ?lgs, ?pos, ?few⟩, ?run, ?bd⟩
        case nw => (obtain lt9 := jlt hf1 l9; exact (hnw.cons lt9).cons (lt_more lt9 l8))
        case lt => omega
        case fr => (intro z z1 z2 z3 z4; simp [z1, z2, z3, z4])
        case sz => (rw [Array.size_push]; exact le9)
        case run => rw [← hrun, runs_cur]
        case lgs =>
          rw [Array.toList_push, List.map_append]
          exact DatAll.append (hok'.log.mono sub2) (DatAll.one (DatIn.tuple (vs := [_, _]) (.tail _ (.head _)) (.cons (.str _ _) (.cons (.int _ _) .nil))))
        case pos => omega
        case few => (rw [Array.size_push]; omega)
        case bd => omega
      | fail m1 =>
        obtain m1' := hdf' _ m1
        k_steps
        (rename News h₀ _ _ _ => kN)
        (rename Fr h₀ _ _ _ => kF)
        obtain hd1 := jdone hf1
        obtain hd2 := jdone hf2
        rw [hd1] at kN
        exact rn (by rw [← hrun, runs_fail]) _ _ _ _ _ _ _ _ kF kN hnw2 ⟨hd1 ▸ hok'.off, hok'.vals, by rw [← hrun, runs_fail, ← hd2]; exact hok'.log, by omega, by omega⟩ (by omega))
end Mine

namespace Mine
variable {w : World} {p : Program} {loose : List Str} {mean : ExcName → Option Value} {mg mb : Str → Option Value}
    {dp un : Nat} {gd : Option (List Code)} {cn : Str} {cs : Scope} {a : Addr} {ccd : Value} {cl : List (Str × Addr)} {outer : List Env} {A₀ : Around} {base h₀ : Heap} {L : Addr} {m : Str → Option Value} {s : Shared} {Q E : Value → Shared → Prop}
    {news : List (Addr × Obj)} {host dh vd rf lg : Addr} {c : HK} {steps : Int} {t : Tok} {lv : Array Value} {ln : Nat} {o : Obj} {kvs : List (Str × Value)} {D : List (PyData × PyData)} {fr : List (Addr × Obj)}

local macro_rules | `(tactic| k_mem) => `(tactic| first | assumption | exact List.mem_append_left _ (by assumption) | exact List.mem_append_right _ (by assumption))
local macro_rules | `(tactic| k_all) => `(tactic| assumption)
local macro_rules | `(tactic| k_room) => `(tactic| ktr_room)
local macro_rules | `(tactic| k_units) => `(tactic| ktr_units)
local macro_rules | `(tactic| walk_at "compareOp Eq ref str") => `(tactic| (k_here; (with_reducible show wpAny _ _ (compareOp CmpOp.Eq (Value.ref _) (Value.str _ _)) _ _ _); k_dflt (refine' eq_tup_str ?N ?m ?u ?_; (case N => k_asm); (case m => k_mem); (case u => ktr_units))))

local macro_rules | `(tactic| walk_at "call ref") => `(tactic| (k_here; (with_reducible show wpAny _ _ (call (Value.ref 334) _) _ _ _); k_dflt (refine' tried_spec ?B ?F ?X ?N ?T ?hk ?hd ?hu ?ap ?ok ?df ?hb ?hx ?nd ?rf ?_ ?_; (case B => k_asm); (case F => k_asm); (case X => k_asm); (case N => k_asm); (case T => k_asm); (case hk => exact rfl); (case hd => ktr_room); (case hu => ktr_units); (case ap => assumption); (case ok => assumption); (case df => assumption); (case hb => assumption); (case hx => assumption); (case nd => assumption); (case rf => assumption))
  <;> (intros; try k_sweep)))

set_option maxHeartbeats 8000000 in
theorem match_at_spec {i : Int} {it xt : Tok} {na : Addr} {x : Str} {d : Nd} {log : List (Str × Int)} {nr : Nat} {dfr : List (Addr × Obj)}
    (B : Below A₀ base outer h₀) (F : Fr h₀ L s.heap m) (X : (hd.heap_1 w.params).In h₀)
    (N : News h₀ L s.heap (hostLed host dh lg vd c rf steps t lv ln o fr))
    (T : Top p loose mean mg mb h₀) (hk : cs.kind = .function) (hdp : dp + 16 < recursionLimit) (hun : un + 160 < cLine)
    (ap : Apart host dh lg vd) (hok : HostOk w dh lg vd fr dfr steps lv o log) (hdf : ∀ p ∈ dfr, p ∈ fr) (hb : steps + csize [d] ≤ 9999) (hx : x.length ≤ 6) (hnd : NodeIn dfr (.ref na) d) (hrf : (rf, W.listOf #[] nr) ∈ fr)
    (rn : (runs x.length [d] i log).1 = none → ∀ h' tk' steps' t' lv' ln' o' tl, Fr h₀ L h' m → News h₀ L h' (hostLed host dh lg vd c rf steps' t' lv' ln' o' (tl ++ fr)) → Newer tl fr → HostOk w dh lg vd (tl ++ fr) (tl ++ dfr) steps' lv' o' (runs x.length [d] i log).2 → steps' ≤ steps + csize [d] → Q .none { s with heap := h', toks := tk' })
    (rs : ∀ e, (runs x.length [d] i log).1 = some e → ∀ h' tk' steps' t' lv' ln' o' tl y z tb te nz, Fr h₀ L h' m → News h₀ L h' (hostLed host dh lg vd c rf steps' t' lv' ln' o' (tl ++ fr)) → Newer tl fr → HostOk w dh lg vd (tl ++ fr) (tl ++ dfr) steps' lv' o' (runs x.length [d] i log).2 → steps' ≤ steps + csize [d] →
      (y, tupO #[.int i tb, .int e te, .ref z]) ∈ tl → (z, W.listOf #[] nz) ∈ tl → Q (.ref y) { s with heap := h', toks := tk' }) :
    wpAny (model PySem.Challenge.rw_tk0108_01.row.prog w) (ktrTop dp un gd cn cs L a ccd cl outer) (call (.ref 327) [.ref na, .str x xt, .int i it, .ref host]) Q E s := by
  w_top off
  revert X; k_fill; intro X
  have ap0 := ap
  obtain ⟨a1, a2, a3, a4, a5, a6⟩ := ap0
  refine wpAny_call ?_
  k_dflt ktr_enter
  k_steps
  · (rename News h₀ _ _ _ => kN)
    (rename Fr h₀ _ _ _ => kF)
    (rename HostOk _ _ _ _ _ _ _ _ _ _ => ok9)
    (rename Newer _ _ => nw9)
    exact rn (by assumption) _ _ _ _ _ _ _ _ kF kN nw9 ok9 (by assumption)
  · (rename (_, W.listOf #[] _) ∈ _ => zz2)
    (rename News h₀ _ _ _ => kN)
    (rename Fr h₀ _ _ _ => kF)
    (rename HostOk _ _ _ _ _ _ _ _ _ _ => ok9)
    (rename Newer _ _ => nw9)
    (rename host < _ ∧ dh < _ ∧ lg < _ ∧ vd < _ ∧ AllLt _ _ => l9)
    refine rs _ (by assumption) _ _ _ _ _ _ _ (_ :: _) _ _ _ _ _ kF (reorder1 kN) (nw9.cons (lt_tail l9.2.2.2.2)) ⟨?off, ok9.vals, ok9.log.mono sub1, ok9.pos, ok9.few⟩ (by assumption) (.head _) (.tail _ zz2)
    (refine (ok9.off.cons ?_ ?_ ?_) <;> (refine neN ?_; (try dsimp only); omega))

local macro_rules | `(tactic| walk_at "exec For Name Call cons nil") => `(tactic| (k_here; (rename Fr _ _ _ _ => lF'); (with_unfolding_all refine' For_invVF lF' ?k1 ?k2 ?_; (case k1 => exact rfl); (case k2 => exact rfl); k_whole)))
local macro_rules | `(tactic| walk_at "pyIter ref") => `(tactic| ((with_reducible show wpAny _ _ (pyIter (Value.ref _)) (fun it s₂ => LoopAtV _ _ _ _ _ _ _ _ _ it s₂) _ _); k_here; refine Hold.intro ?_))
local macro_rules | `(tactic| walk_at "call ref") => `(tactic| (k_here; (with_reducible show wpAny _ _ (call (Value.ref 327) _) _ _ _); k_dflt (refine' match_at_spec ?B ?F ?X ?N ?T ?hk ?hd ?hu ?ap ?ok ?df ?hb ?hx ?nd ?rf ?_ ?_; (case B => k_asm); (case F => k_asm); (case X => k_asm); (case N => k_asm); (case T => k_asm); (case hk => exact rfl); (case hd => ktr_room); (case hu => ktr_units); (case ap => assumption); (case ok => assumption); (case df => assumption); (case nd => assumption); (case hb => omega); (case hx => assumption); (case rf => assumption))
  <;> (intros; try k_sweep)))
local macro_rules | `(tactic| walk_at "InvEndG") => `(tactic| (refine Hold.intro ?_))
set_option maxHeartbeats 8000000 in
theorem match_plain_spec {xt : Tok} {na : Addr} {x : Str} {d : Nd} {log : List (Str × Int)} {nr : Nat} {dfr : List (Addr × Obj)}
    (B : Below A₀ base outer h₀) (F : Fr h₀ L s.heap m) (X : (hd.heap_1 w.params).In h₀)
    (N : News h₀ L s.heap (hostLed host dh lg vd c rf steps t lv ln o fr))
    (T : Top p loose mean mg mb h₀) (hk : cs.kind = .function) (hdp : dp + 18 < recursionLimit) (hun : un + 180 < cLine)
    (ap : Apart host dh lg vd) (hok : HostOk w dh lg vd fr dfr steps lv o log) (hdf : ∀ p ∈ dfr, p ∈ fr) (hb : steps + 7 * csize [d] ≤ 9999) (hx : x.length ≤ 6) (hnd : NodeIn dfr (.ref na) d) (hrf : (rf, W.listOf #[] nr) ∈ fr)
    (rn : (mplain x.length d (bs (x.length + 1) 0) log).1 = none → ∀ h' tk' steps' t' lv' ln' o' tl, Fr h₀ L h' m → News h₀ L h' (hostLed host dh lg vd c rf steps' t' lv' ln' o' (tl ++ fr)) → Newer tl fr → HostOk w dh lg vd (tl ++ fr) (tl ++ dfr) steps' lv' o' (mplain x.length d (bs (x.length + 1) 0) log).2 → steps' ≤ steps + 7 * csize [d] → Q .none { s with heap := h', toks := tk' })
    (rs : ∀ b e, (mplain x.length d (bs (x.length + 1) 0) log).1 = some (b, e) → ∀ h' tk' steps' t' lv' ln' o' tl y z tb te nz, Fr h₀ L h' m → News h₀ L h' (hostLed host dh lg vd c rf steps' t' lv' ln' o' (tl ++ fr)) → Newer tl fr → HostOk w dh lg vd (tl ++ fr) (tl ++ dfr) steps' lv' o' (mplain x.length d (bs (x.length + 1) 0) log).2 → steps' ≤ steps + 7 * csize [d] →
      (y, tupO #[.int b tb, .int e te, .ref z]) ∈ tl → (z, W.listOf #[] nz) ∈ tl → Q (.ref y) { s with heap := h', toks := tk' }) :
    wpAny (model PySem.Challenge.rw_tk0108_01.row.prog w) (ktrTop dp un gd cn cs L a ccd cl outer) (call (.ref 320) [.ref na, .str x xt, .bool false, .ref host]) Q E s := by
  w_top off
  revert X; k_fill; intro X
  have ap0 := ap
  obtain ⟨a1, a2, a3, a4, a5, a6⟩ := ap0
  refine wpAny_call ?_
  k_dflt ktr_enter
  k_steps
  unfold Hold
  (rename IsRange _ _ _ _ _ _ _ _ => rg9)
  (rename Fr _ _ _ _ => F9)
  (rename News _ _ _ _ => N9)
  refine my_range (n := x.length + 1) (MPJ w host dh lg vd rf c fr dfr x.length d (mplain x.length d (bs (x.length + 1) 0) log) steps (x.length + 1) _) rfl rg9 (small_one (by omega) (by omega) (by omega) (by omega)) (by rw [rangeSize_nat]; omega) F9 N9
    ⟨[], _, _, steps, t, lv, ln, o, log, rfl, rfl, rfl, fun _ _ _ => rfl, .nil, hok, rfl, by simp⟩ ?turn ?done
  case turn =>
    intro j jt m₁ nx h₁ tk₁ own hj hoff hJ F₁ N₁
    obtain ⟨tl, fr', dfr', steps', t', lv', ln', o', log', hf1, hf2, rfl, hr, hnw, hok', hrun, hb'⟩ := hJ
    rw [frame_two hr, Int.zero_add] at F₁
    change News _ _ _ (hostLed host dh lg vd c rf steps' t' lv' ln' o' (fr' ++ own)) at N₁
    obtain hok2 : HostOk w dh lg vd (fr' ++ own) dfr' steps' lv' o' log' := ⟨hok'.off.own hoff, hok'.vals, hok'.log, hok'.pos, hok'.few⟩
    obtain hdf2 : ∀ p ∈ dfr', p ∈ fr' ++ own := fun p hp => List.mem_append_left _ (by subst hf1 hf2; exact app_mono hdf p hp)
    obtain hnd2 : NodeIn dfr' (.ref na) d := hnd.mono (by subst hf2; exact app_right)
    obtain hrf2 : (rf, W.listOf #[] nr) ∈ fr' ++ own := List.mem_append_left _ (by subst hf1; exact app_right _ hrf)
    obtain hm1 : (j : Int) * csize [d] ≤ 6 * csize [d] := Int.mul_le_mul_of_nonneg_right (by omega) (by omega)
    k_fold
    k_steps
    · (rename (runs _ _ _ _).1 = none => he)
      (rename Newer _ (_ ++ own) => nw9)
      (rename HostOk _ _ _ _ (_ ++ (_ ++ own)) _ _ _ _ _ => ok9)
      (rename _ ≤ steps' + _ => le9)
      (rename News _ _ _ _ => N8)
      (rename Fr _ _ _ _ => F8)
      unfold Hold
      refine InvEndG.intro F8 N8 (nx := hostLed host dh lg vd c rf _ _ _ _ _ (_ ++ fr')) ⟨_, _, _, _, _, _, _, _, _, qqa hf1, qqa hf2, rfl, ?fr, hnw.append (by rw [← hf1]; exact nw9.sub app_left), ⟨ok9.off.sub (mid_mono app_left), ok9.vals, ok9.log, ok9.pos, ok9.few⟩, (by rw [← hrun, bs_step hj, mplain_none he]), mul_succ_le le9 hb'⟩ (own_after hoff nw9) (led_mono (mid_mono app_left)) own_in
      case fr => (intro z z1 z2; simp [z1, z2])
    · (rename (runs _ _ _ _).1 = some _ => he)
      (rename Newer _ (_ ++ own) => nw9)
      (rename HostOk _ _ _ _ (_ ++ (_ ++ own)) _ _ _ _ _ => ok9)
      (rename _ ≤ steps' + _ => le9)
      (rename (_, W.listOf #[] _) ∈ _ => zz2)
      (rename (_, tupO #[_, _, _]) ∈ _ => zz1)
      (rename News h₀ _ _ _ => kN)
      (rename Fr h₀ _ _ _ => kF)
      rw [bs_step hj, mplain_some he] at hrun
      exact rs _ _ (by rw [← hrun]) _ _ _ _ _ _ _ (_ ++ tl) _ _ _ _ _ kF (by rw [← qqa hf1]; exact cb_drop kN (led_mono (mid_mono app_left))) (hnw.append (by rw [← hf1]; exact nw9.sub app_left))
        ⟨by rw [← qqa hf1]; exact ok9.off.sub (mid_mono app_left), ok9.vals, by rw [← qqa hf2, ← hrun]; exact ok9.log, ok9.pos, ok9.few⟩ (by omega) (List.mem_append_left _ zz1) (List.mem_append_left _ zz2)
  case done =>
    intro m₁ nx h₁ tk₁ hJ F₁ N₁
    obtain ⟨tl, fr', dfr', steps', t', lv', ln', o', log', hf1, hf2, rfl, hr, hnw, hok', hrun, hb'⟩ := hJ
    rw [bs_end] at hrun
    obtain hm1 : ((x.length + 1 : Nat) : Int) * csize [d] ≤ 7 * csize [d] := Int.mul_le_mul_of_nonneg_right (by omega) (by omega)
    k_steps
    (rename News h₀ _ _ _ => kN)
    (rename Fr h₀ _ _ _ => kF)
    subst hf1 hf2
    exact rn (by rw [← hrun]; rfl) _ _ _ _ _ _ _ tl kF kN hnw ⟨hok'.off, hok'.vals, by rw [← hrun]; exact hok'.log, hok'.pos, hok'.few⟩ (by omega)
end Mine

namespace Mine
variable {w : World} {p : Program} {loose : List Str} {mean : ExcName → Option Value} {mg mb : Str → Option Value}
    {dp un : Nat} {gd : Option (List Code)} {cn : Str} {cs : Scope} {a : Addr} {ccd : Value} {cl : List (Str × Addr)} {outer : List Env} {A₀ : Around} {base h₀ : Heap} {L : Addr} {m : Str → Option Value} {s : Shared} {Q E : Value → Shared → Prop}
    {news : List (Addr × Obj)}

local macro_rules | `(tactic| k_mem) => `(tactic| first | assumption | exact List.mem_append_left _ (by assumption) | exact List.mem_append_right _ (by assumption))
local macro_rules | `(tactic| k_room) => `(tactic| ktr_room)
local macro_rules | `(tactic| k_units) => `(tactic| ktr_units)

set_option maxHeartbeats 8000000 in
theorem led_spec {kd : Kd} {told size : Int} {kt tt st : Tok} {v : Value} {s4 : S4}
    (B : Below A₀ base outer h₀) (F : Fr h₀ L s.heap m) (X : (hd.heap_1 w.params).In h₀)
    (N : News h₀ L s.heap news)
    (T : Top p loose mean mg mb h₀) (hk : cs.kind = .function) (hdp : dp + 10 < recursionLimit) (hun : un + 100 < cLine)
    (hv : StIn news v s4) (h0 : 0 ≤ size ∧ size ≤ 6) (ht : 0 ≤ told ∧ told ≤ 4)
    (rs : ∀ h' tk' y t1 t2 t3, Fr h₀ L h' m → News h₀ L h' ((y, tupO #[.int (led s4 kd told size).low t1, .int (led s4 kd told size).high t2, .bool (led s4 kd told size).goes, .int (led s4 kd told size).number t3]) :: news) → AllLt y news → Q (.ref y) { s with heap := h', toks := tk' }) :
    wpAny (model PySem.Challenge.rw_tk0108_01.row.prog w) (ktrTop dp un gd cn cs L a ccd cl outer) (call (.ref 418) [v, .str (kdS kd) kt, .int told tt, .int size st]) Q E s := by
  w_top off
  revert X; k_fill; intro X
  have rs' : ∀ l hh g n, led s4 kd told size = ⟨l, hh, g, n⟩ → ∀ h' tk' y t1 t2 t3, Fr h₀ L h' m → News h₀ L h' ((y, tupO #[.int l t1, .int hh t2, .bool g, .int n t3]) :: news) → AllLt y news → Q (.ref y) { s with heap := h', toks := tk' } := by
    intro l hh g n e
    rw [e] at rs
    exact rs
  clear rs
  obtain ⟨low, high, goes, number⟩ := s4
  obtain ⟨sa, t1, t2, t3, rfl, hv⟩ := hv
  cases goes <;> cases kd
  all_goals (simp only [kdS]; dsimp only at hv)
  all_goals refine wpAny_call ?_
  all_goals k_dflt ktr_enter
  all_goals k_steps
  all_goals (
    (rename News h₀ _ _ _ => kN)
    (rename Fr h₀ _ _ _ => kF)
    (first | refine rs' _ _ _ _ ?e _ _ _ _ _ _ kF kN ?al | refine rs' _ _ _ _ ?e _ _ _ _ _ _ kF (news_drop1 kN) ?al | refine rs' _ _ _ _ ?e _ _ _ _ _ _ kF (news_drop2 kN) ?al | refine rs' _ _ _ _ ?e _ _ _ _ _ _ kF (news_drop3 kN) ?al)
    (case al => first | exact allLt_of (by assumption) | ((rename _ ∧ AllLt _ news => l9); exact l9.2) | ((rename _ ∧ _ ∧ AllLt _ news => l9); exact l9.2.2) | ((rename _ ∧ _ ∧ _ ∧ AllLt _ news => l9); exact l9.2.2.2))
    (case e => first
      | exact led_rem | exact led_len_t | exact led_len_1 (by assumption) | exact led_len_2 (by assumption)
      | exact led_pos_t | exact led_pos_1 (by assumption) | exact led_pos_2 (by assumption)
      | exact led_rpos_t | exact led_rpos_1 (by assumption) | exact led_rpos_2 (by assumption)
      | exact led_tab_0 (by assumption) | exact led_tab_t (by assumption) | exact led_tab_1 (by assumption) (by assumption) | exact led_tab_2 (by assumption) (by assumption)
      | exact led_rtab_t ht | exact led_rtab_1 ht (by assumption) | exact led_rtab_2 ht (by assumption)))
end Mine

local macro_rules | `(tactic| k_mem) => `(tactic| first | assumption | exact List.mem_append_left _ (by assumption) | exact List.mem_append_right _ (by assumption))
local macro_rules | `(tactic| k_all) => `(tactic| assumption)
local macro_rules | `(tactic| walk_at "exec For Name Call cons nil") => `(tactic| (k_here; (rename Fr _ _ _ _ => lF'); (with_unfolding_all refine' For_invVF lF' ?k1 ?k2 ?_; (case k1 => exact rfl); (case k2 => exact rfl); k_whole)))
local macro_rules | `(tactic| walk_at "pyIter ref") => `(tactic| ((with_reducible show wpAny _ _ (pyIter (Value.ref _)) (fun it s₂ => LoopAtV _ _ _ _ _ _ _ _ _ it s₂) _ _); k_here; refine Mine.Hold.intro ?_))
local macro_rules | `(tactic| walk_at "call type:range") => `(tactic| ((rename Fr _ _ _ _ => F'); (rename News _ _ _ _ => N'); (with_unfolding_all refine range1_rows F' N' ?_); intro _ _ _ _ _ _ _ _ _))
local macro_rules | `(tactic| walk_at "InvEndG") => `(tactic| (refine Mine.Hold.intro ?_))
local macro_rules | `(tactic| size_fits) => `(tactic| (simp only [PySem.sizeLine_eq]; omega))
local macro_rules | `(tactic| walk_at "binaryOp Pow int int") => `(tactic| (refine' pow_int_small (Int.natCast_nonneg _) (Mine.le_mil ?b) ?c ?_; (case b => assumption); (case c => decide)))
local macro_rules | `(tactic| walk_at "binaryOp FloorDiv int int") => `(tactic| (refine' Mine.fdiv_K ?b ?i ?_; (case b => decide); (case i => assumption)))
local macro_rules | `(tactic| walk_at "binaryOp Mod int int") => `(tactic| (refine' mod_int' ?b ?_; (case b => decide)))
local macro_rules | `(tactic| walk_at "subscriptTail") => `(tactic| (k_here; (with_reducible show wpAny _ _ (subscriptTail _ _ (Value.ref _) (Value.int (Int.fmod _ 6) _)) _ _ _); k_dflt (refine' Mine.tab6_K ?N ?m (Mine.fm6 _) ?_ ?_ ?_ ?_ ?_ ?_; (case N => k_asm); (case m => k_mem)) <;> (refine Mine.Hid.all ?_; intro hidx; refine Mine.Hold.intro ?_)))
local macro_rules | `(tactic| walk_at "call ref") => `(tactic| (k_here; (with_reducible show wpAny _ _ (call (Value.ref 418) _) _ _ _); k_dflt (first
  | (refine' Mine.led_spec (kd := Mine.Kd.len) ?B ?F ?X ?N ?T ?hk ?hd ?hu ?hv ?h0 ?ht ?_; (case B => k_asm); (case F => k_asm); (case X => k_asm); (case N => k_asm); (case T => k_asm); (case hk => exact rfl); (case hd => ktr_room); (case hu => ktr_units); (case hv => (refine Mine.StIn.mono ?_ (by assumption); intro p hp; repeat (first | exact hp | refine List.mem_cons_of_mem _ ?_))); (case h0 => exact Mine.fm7 _); (case ht => exact Mine.fm5 _))
  | (refine' Mine.led_spec (kd := Mine.Kd.tab) ?B ?F ?X ?N ?T ?hk ?hd ?hu ?hv ?h0 ?ht ?_; (case B => k_asm); (case F => k_asm); (case X => k_asm); (case N => k_asm); (case T => k_asm); (case hk => exact rfl); (case hd => ktr_room); (case hu => ktr_units); (case hv => (refine Mine.StIn.mono ?_ (by assumption); intro p hp; repeat (first | exact hp | refine List.mem_cons_of_mem _ ?_))); (case h0 => exact Mine.fm7 _); (case ht => exact Mine.fm5 _))
  | (refine' Mine.led_spec (kd := Mine.Kd.rtab) ?B ?F ?X ?N ?T ?hk ?hd ?hu ?hv ?h0 ?ht ?_; (case B => k_asm); (case F => k_asm); (case X => k_asm); (case N => k_asm); (case T => k_asm); (case hk => exact rfl); (case hd => ktr_room); (case hu => ktr_units); (case hv => (refine Mine.StIn.mono ?_ (by assumption); intro p hp; repeat (first | exact hp | refine List.mem_cons_of_mem _ ?_))); (case h0 => exact Mine.fm7 _); (case ht => exact Mine.fm5 _))
  | (refine' Mine.led_spec (kd := Mine.Kd.pos) ?B ?F ?X ?N ?T ?hk ?hd ?hu ?hv ?h0 ?ht ?_; (case B => k_asm); (case F => k_asm); (case X => k_asm); (case N => k_asm); (case T => k_asm); (case hk => exact rfl); (case hd => ktr_room); (case hu => ktr_units); (case hv => (refine Mine.StIn.mono ?_ (by assumption); intro p hp; repeat (first | exact hp | refine List.mem_cons_of_mem _ ?_))); (case h0 => exact Mine.fm7 _); (case ht => exact Mine.fm5 _))
  | (refine' Mine.led_spec (kd := Mine.Kd.rpos) ?B ?F ?X ?N ?T ?hk ?hd ?hu ?hv ?h0 ?ht ?_; (case B => k_asm); (case F => k_asm); (case X => k_asm); (case N => k_asm); (case T => k_asm); (case hk => exact rfl); (case hd => ktr_room); (case hu => ktr_units); (case hv => (refine Mine.StIn.mono ?_ (by assumption); intro p hp; repeat (first | exact hp | refine List.mem_cons_of_mem _ ?_))); (case h0 => exact Mine.fm7 _); (case ht => exact Mine.fm5 _))
  | (refine' Mine.led_spec (kd := Mine.Kd.rem) ?B ?F ?X ?N ?T ?hk ?hd ?hu ?hv ?h0 ?ht ?_; (case B => k_asm); (case F => k_asm); (case X => k_asm); (case N => k_asm); (case T => k_asm); (case hk => exact rfl); (case hd => ktr_room); (case hu => ktr_units); (case hv => (refine Mine.StIn.mono ?_ (by assumption); intro p hp; repeat (first | exact hp | refine List.mem_cons_of_mem _ ?_))); (case h0 => exact Mine.fm7 _); (case ht => exact Mine.fm5 _))); intro h' tk' y' t1' t2' t3' F' N' l9; (try simp only [AllLt] at l9); try k_sweep))
local macro_rules | `(tactic| walk_at "subscriptTail") => `(tactic| (k_here; (with_reducible show wpAny _ _ (subscriptTail _ _ (Value.ref _) (Value.int (-1) _)) _ _ _); k_dflt (refine' Mine.last_K ?N ?m ?x ?f ?_; (case N => k_asm); (case m => k_mem); (case x => assumption); (case f => omega))))
local macro_rules | `(tactic| walk_at "call type:enumerate") => `(tactic| (k_here; (with_reducible show wpAny _ _ (call (Value.type _) [Value.ref _]) (fun xv s₁ => wpAny _ _ (pyIter xv) (fun it s₂ => TurnsAt _ _ _ _ _ _ _ _ _ it s₂) _ s₁) _ _); refine Mine.Hold.intro ?_))
local macro_rules | `(tactic| walk_at "exec For Tuple Call cons nil") => `(tactic| (k_here; (rename Fr _ _ _ _ => lF'); (with_unfolding_all refine' For_turns lF' ?_; k_whole)))
local macro_rules | `(tactic| walk_at "compareOp NotEq ref ref") => `(tactic| (k_here; refine Mine.Hold.intro ?_))
local macro_rules | `(tactic| walk_at "compareOp Eq ref ref") => `(tactic| (k_here; refine Mine.Hold.intro ?_))
local macro_rules | `(tactic| walk_at "call ref") => `(tactic| (k_here; (with_reducible show wpAny _ _ (call (Value.ref 320) _) _ _ _); refine Mine.Hold.intro ?_))
local macro_rules | `(tactic| walk_at "exec For Name Call cons nil") => `(tactic| ((with_reducible show wpAny _ _ (exec (Stmt.For (Expr.Name (Str.ofString "at") _) _ _ _ _) _) _ _ _); refine Mine.Hold.intro ?_))
local macro_rules | `(tactic| k_qdec) => `(tactic| decide +kernel)

set_option maxRecDepth 100000 in
set_option maxHeartbeats 16000000 in
theorem PySem.Challenge.cw_tk0108_01_holds : PySem.Challenge.rw_tk0108_01.Holds :=
  Mine.hd (by
  w_strict (k_go0; (all_goals try k_fold); k_steps)
  w_top off
  unfold Mine.Hold
  (rename IntsAre _ (List.map _ _ ++ List.drop _ _) => hI9)
  obtain ⟨cs, hcs, hl4, hnn⟩ := Mine.cells_of hI9
  rw [hcs] at hI9
  (rename Fr _ _ _ _ => F9)
  (rename News _ _ _ _ => N9)
  rw [hcs] at F9 N9
  (k_here; (rename Fr _ _ _ _ => lF9); (with_unfolding_all refine' For_invVF lF9 ?fk1 ?fk2 ?_; (case fk1 => exact rfl); (case fk2 => exact rfl); k_whole))
  k_steps
  unfold Mine.Hold
  (rename IsRange _ _ _ _ _ _ _ _ => rg9)
  (rename Fr _ _ _ _ => F8)
  (rename News _ _ _ _ => N8)
  have N7 := Mine.pick7 N8
  have hX := Mine.fm5 (cs.getD (Int.toNat 1) 0)
  refine Mine.my_range (Mine.J1 _ _ ((cs.getD (Int.toNat 0) 0).fmod 7) (cs.getD (Int.toNat 2) 0) (cs.getD (Int.toNat 3) 0) _) rfl rg9 (small_one (by omega) (by omega) (by omega) (by omega)) (rangeSize_nat _ _) F8 N7
    ⟨[], _, _, _, _, rfl, rfl, rfl, fun _ _ _ _ _ _ => rfl, .nil, ?offA, rfl, ?stsA, ?ndA⟩ ?turnA ?doneA
  case offA =>
    (rename _ < _ ∧ _ < _ ∧ _ < _ ∧ _ < _ ∧ _ < _ ∧ _ < _ ∧ _ < _ ∧ _ < _ ∧ _ < _ ∧ _ < _ => l8)
    refine Mine.all5 ?_ ?_ ?_ ?_ ?_ <;> (refine neN ?_; dsimp only; omega)
  case stsA =>
    intro j hj
    obtain rfl : j = 0 := by omega
    exact ⟨_, rfl, _, _, _, _, rfl, .tail _ (.tail _ (.tail _ (.head _)))⟩
  case ndA =>
    show Mine.NodeIn _ _ (.cur (Mine.keyS 0))
    rw [Mine.keyS_zero]
    exact Mine.NodeIn.cur (.head _) ⟨_, _, _, _, _, _, _, _, _, _, .tail _ (.head _), .tail _ (.tail _ (.head _)), by rw [← Mine.keyS_zero]; exact Mine.keyS_ok 0 (by decide)⟩
  case turnA =>
    intro i it m₁ nx h₁ tk₁ own hi hoff hJ F₁ N₁
    obtain ⟨tl, fr', svs, sk, na, hf1, rfl, hnode, hr, hnw, hne, hsz, hsts, hnd⟩ := hJ
    rw [Mine.frame_loop1 hnode hr, Int.zero_add] at F₁
    obtain ⟨lv, hlv, hst⟩ := hsts i (Nat.le_refl _)
    rw [show i = svs.size - 1 by omega] at hlv
    change News _ _ _ (_ :: (fr' ++ own)) at N₁
    obtain hcl := List.mem_append_left own (Mine.j5 hf1)
    obtain hneo := Mine.ne_own hne hoff
    obtain hi4 : i ≤ 4 := by omega
    obtain hst2 := hst.mono (Mine.app_left (own := own))
    (try k_fold)
    k_steps
    all_goals (
      unfold Mine.Hold
      (try k_fold)
      k_steps)
    all_goals (
      (rename News _ _ _ _ => N9)
      (rename Fr _ _ _ _ => F9)
      (rename _ ∧ _ ∧ _ ∧ AllLt _ (fr' ++ own) => l9)
      (rename Mine.Hid _ => hidx)
      unfold Mine.Hold
      (first | refine Mine.j1_next (kd := Mine.Kd.len) hf1 hnw hoff hne hsz hsts hnd hi4 Mine.PartIs.len (Mine.kdAt_of hidx) Mine.tdAt_eq F9 N9 l9.2.2.2 l9.2.2.1 ?_ ?_ ?_ ?_ ?_ ?_ rfl ?_ | refine Mine.j1_next (kd := Mine.Kd.tab) hf1 hnw hoff hne hsz hsts hnd hi4 Mine.PartIs.tab (Mine.kdAt_of hidx) Mine.tdAt_eq F9 N9 l9.2.2.2 l9.2.2.1 ?_ ?_ ?_ ?_ ?_ ?_ rfl ?_ | refine Mine.j1_next (kd := Mine.Kd.rtab) hf1 hnw hoff hne hsz hsts hnd hi4 Mine.PartIs.rtab (Mine.kdAt_of hidx) Mine.tdAt_eq F9 N9 l9.2.2.2 l9.2.2.1 ?_ ?_ ?_ ?_ ?_ ?_ rfl ?_ | refine Mine.j1_next (kd := Mine.Kd.pos) hf1 hnw hoff hne hsz hsts hnd hi4 Mine.PartIs.pos (Mine.kdAt_of hidx) Mine.tdAt_eq F9 N9 l9.2.2.2 l9.2.2.1 ?_ ?_ ?_ ?_ ?_ ?_ rfl ?_ | refine Mine.j1_next (kd := Mine.Kd.rpos) hf1 hnw hoff hne hsz hsts hnd hi4 Mine.PartIs.rpos (Mine.kdAt_of hidx) Mine.tdAt_eq F9 N9 l9.2.2.2 l9.2.2.1 ?_ ?_ ?_ ?_ ?_ ?_ rfl ?_ | refine Mine.j1_next (kd := Mine.Kd.rem) hf1 hnw hoff hne hsz hsts hnd hi4 Mine.PartIs.rem (Mine.kdAt_of hidx) Mine.tdAt_eq F9 N9 l9.2.2.2 l9.2.2.1 ?_ ?_ ?_ ?_ ?_ ?_ rfl ?_)
      all_goals first | (refine ltN ?_; omega) | (intro z z1 z2 z3 z4 z5; simp [z1, z2, z3, z4, z5]))
  case doneA =>
    intro m₁ nx h₁ tk₁ hJ F₁ N₁
    obtain ⟨tl, fr', svs, sk, na, hf1, rfl, hnode, hr, hnw, hne, hsz, hsts, hnd⟩ := hJ
    rw [Mine.frame_after1 hnode hr] at F₁
    k_steps
    unfold Mine.Hold
    (rename IsRange _ _ _ _ _ _ _ _ => rg9)
    (rename Fr _ _ _ _ => F8)
    (rename News _ _ _ _ => N8)
    (rename _ < _ ∧ AllLt _ _ => l9)
    have hX := Mine.fm7 (cs.getD (Int.toNat 0) 0)
    have hX5 := Mine.fm5 (cs.getD (Int.toNat 1) 0)
    refine Mine.my_range (Mine.J2 _ _ (Mine.stAt ((cs.getD (Int.toNat 0) 0).fmod 7) (cs.getD (Int.toNat 2) 0) (cs.getD (Int.toNat 3) 0)) svs.size ((cs.getD (Int.toNat 0) 0).fmod 7 + 1 - 0).toNat (Mine.dueAll (Mine.stAt ((cs.getD (Int.toNat 0) 0).fmod 7) (cs.getD (Int.toNat 2) 0) (cs.getD (Int.toNat 3) 0)) svs.size (Mine.bs ((cs.getD (Int.toNat 0) 0).fmod 7 + 1 - 0).toNat 0)) _) rfl rg9 (small_one (by omega) (by omega) (by omega) (by omega)) (rangeSize_nat _ _) F8 N8
      ⟨[], _, _, _, [], rfl, rfl, fun _ _ _ _ => rfl, .nil, ?neB, .nil, rfl⟩ ?turnB ?doneB
    case neB => exact List.forall_mem_cons.mpr ⟨neN (by omega), fun q hq => Nat.ne_of_lt (tb_ltOf l9.2 q hq)⟩
    case turnB =>
      intro i it m₁ nx h₁ tk₁ own hi hoff hJ F₁ N₁
      obtain ⟨tl, fr2, dvs, dk, log, hf2, rfl, hr2, hnw2, hne2, hd2, hres2⟩ := hJ
      rw [Mine.frame_b hr2, Int.zero_add] at F₁
      change News _ _ _ (_ :: (fr2 ++ own)) at N₁
      k_steps
      unfold Mine.Hold
      (rename Fr _ _ _ _ => F7)
      (rename News _ _ _ _ => N7)
      obtain hsl := List.mem_append_right tl (List.mem_cons_self (a := (_, W.listOf svs _)) (l := _))
      rw [← hf2] at hsl
      rw [Mine.bs_step hi, Mine.dueAll] at hres2
      refine Mine.my_enum (Mine.J3 _ fr2 own (Mine.stAt ((cs.getD (Int.toNat 0) 0).fmod 7) (cs.getD (Int.toNat 2) 0) (cs.getD (Int.toNat 3) 0)) svs.size i _ _ _) rfl F7 N7 (List.mem_cons_of_mem _ (List.mem_append_left _ hsl)) ⟨[], dvs, dk, log, rfl, fun _ _ _ => rfl, .nil, (fun q hq => Mine.ne_own hne2 hoff q hq), hd2, hres2⟩ ?turnC ?doneC
      case doneC =>
        intro m₂ nx2 h₂ tk₂ hJ3 F₂ N₂
        obtain ⟨tl3, dvs3, dk3, log3, rfl, hr3, hnw3, hne3, hd3, hres3⟩ := hJ3
        k_steps
        unfold Mine.Hold
        (rename News _ _ _ _ => N9)
        (rename Fr _ _ _ _ => F9)
        refine Mine.j2_next hf2 hnw2 hoff F9 N9 (fun _ h => h) hnw3 hne3 hd3 (Mine.row_end hres3) ?_
        intro z z1 z2 z3
        rw [hr3 z z2 z3]
        simp [z1, z2, z3]
      case turnC =>
        intro j v m₂ nx2 h₂ tk₂ own2 T tt hjv hoff2 hl2 hJ3 F₂ N₂ hT
        obtain ⟨tl3, dvs3, dk3, log3, rfl, hr3, hnw3, hne3, hd3, hres3⟩ := hJ3
        rw [Mine.frame_at hr3] at F₂
        change News _ _ _ (_ :: (tl3 ++ (fr2 ++ own) ++ own2)) at N₂
        obtain ⟨hj4, -⟩ := Array.getElem?_eq_some_iff.mp hjv
        obtain ⟨v', hv', sa, t1, t2, t3, hve, hm⟩ := hsts j (by omega)
        rw [hjv] at hv'
        obtain rfl := Option.some.inj hv'
        subst hve
        have hm2 := Mine.in_deep (tl3 := tl3) (own := own) (own2 := own2) hf2 hm
        cases hs4 : Mine.stAt ((cs.getD (Int.toNat 0) 0).fmod 7) (cs.getD (Int.toNat 2) 0) (cs.getD (Int.toNat 3) 0) j with
        | mk low high goes number =>
        rw [hs4] at hm2
        dsimp only at hm2
        obtain hneo := Mine.ne_own hne3 hoff2
        obtain hdl := Mine.due_bound hd3 hres3 (by omega) (by omega)
        cases goes
        all_goals k_steps
        all_goals (
          (rename News _ _ _ _ => N9)
          (rename Fr _ _ _ _ => F9)
          try unfold Mine.Hold
          (first
            | refine Mine.j2_next hf2 hnw2 hoff F9 N9 (Mine.cons_mono Mine.app_left) hnw3 hne3 hd3 (Mine.row_stop ?_ hres3) ?_
            | refine Mine.j3_next hoff2 hsl F9 N9 Mine.sub_swap hnw3 ?_ ?_ hne3 hd3 hj4 (Mine.yes_has hs4 (by assumption) (by assumption)) (Mine.val_t hs4) hres3 ?_
            | refine Mine.j3_next hoff2 hsl F9 N9 Mine.sub_swap hnw3 ?_ ?_ hne3 hd3 hj4 (Mine.yes_has hs4 (by assumption) (by assumption)) (Mine.val_f hs4) hres3 ?_
            | skip))
        all_goals first
          | (intro z z1 z2 z3; simp [z1, z2, z3])
          | (intro z z1 z2; simp [z1, z2])
          | exact Mine.no_has1 hs4 (by assumption)
          | exact Mine.no_has2 hs4 (by assumption)
          | ((rename _ < _ ∧ AllLt _ (_ ++ _) => l8); first | exact ltN l8.1 | exact tb_ltOf l8.2)
    case doneB =>
      intro m₁ nx h₁ tk₁ hJ F₁ N₁
      obtain ⟨tl, fr2, dvs, dk, log, hf2, rfl, hr2, hnw2, hne2, hd2, hres2⟩ := hJ
      rw [Mine.bs_end, Mine.dueAll, List.append_nil] at hres2
      rw [Mine.frame_3 hr2] at F₁
      k_steps
      unfold Mine.Hold
      (rename News _ _ _ _ => N9)
      (rename Fr _ _ _ _ => F9)
      obtain ⟨hc9, ht9, N8⟩ := Mine.host_gen N9
      (rename (_ == sysModules) = false => lo9)
      (rename Obj.IsDictOf (PySem.strKind _ _) _ _ => is9)
      (rename FlatPairs PyData.str _ _ => fl9)
      (rename ∀ p ∈ (_, W.listOf _ _) :: _, p.1 ≠ _ => hv9)
      (rename _ ∧ _ ∧ AllLt _ _ => lr9)
      (rename _ ∧ _ ∧ _ ∧ AllLt _ _ => ld9)
      (rename _ ∧ _ ∧ _ ∧ _ ∧ _ ∧ AllLt _ _ => ll9)
      (rename _ ∧ _ ∧ _ ∧ _ ∧ _ ∧ _ ∧ AllLt _ _ => lf9)
      (rename _ ∧ _ ∧ _ ∧ _ ∧ _ ∧ _ ∧ _ ∧ AllLt _ _ => lc9)
      have hk := Mine.size_x hX
      have hsl := Mine.head_mid hf2
      k_dflt (refine' Mine.match_plain_spec (c := hc9) (d := Mine.Nd.cat (Mine.ndAt (cs.getD (Int.toNat 2) 0) (cs.getD (Int.toNat 3) 0) (1 + (cs.getD (Int.toNat 1) 0).fmod 5 - 0).toNat) .fail) (log := []) ?B F9 ?X N8 ?T ?hk ?hd ?hu ?ap ?ok (fun _ h => h) ?hb ?hx ?nd (.tail _ (.tail _ (.head _))) ?rn ?rs; (case B => k_asm); (case X => k_asm); (case T => k_asm); (case hk => exact rfl); (case hd => ktr_room); (case hu => ktr_units))
      case ap => constructor <;> (refine neN ?_; omega)
      case ok =>
        refine ⟨((Mine.off_mk (fr := (_, W.listOf #[] 0) :: (_, W.listOf dvs _) :: fr2) ⟨ld9.1, ld9.2.2.1, ld9.2.2.2⟩ ⟨ll9.2.2.1, ll9.2.2.2.2.1, ll9.2.2.2.2.2⟩ (List.forall_mem_cons.mpr ⟨?o1, hv9⟩)).cons ?o2 ?o3 ?o4).cons ?o5 ?o6 ?o7, ⟨[], [], ⟨lo9, is9, fl9⟩, Nat.le_refl _⟩, .nil, Int.le_refl _, Int.le_refl _⟩ <;> (refine neN ?_; dsimp only; omega)
      case hb => rw [Mine.csize_ndf]; omega
      case hx => omega
      case nd => exact .cat (.head _) (hnd.mono (Mine.deep4 (Mine.tail_mid hf2))) (.fail (.tail _ (.head _)))
      case rs =>
        intro b e he
        rw [Mine.plain_fail hk] at he
        exact absurd he (by simp)
      case rn =>
        intro _ h' tk' steps' t' lv' ln' o' tl9 F8 N7 nw8 ok8 le8
        rw [Mine.plain_fail hk] at ok8
        k_steps
        clear N9
        obtain hnn : ((cs.getD (Int.toNat 0) 0).fmod 7 + 1 - 0).toNat = (Txt.mul (Str.ofString "x") ((cs.getD (Int.toNat 0) 0).fmod 7)).length + 1 := by omega
        rw [hsz, hnn] at hres2
        subst hres2
        unfold Mine.Hold
        refine Mine.log_same N7 (.tail _ (.tail _ (.head _))) ok8.log Mine.sub4 (Mine.sub4 _ (List.mem_append_right _ (.tail _ (.tail _ (.tail _ (.head _)))))) hd2 (fun p hp => Mine.sub4 _ (Mine.deep9 nw8 hp)) (Mine.dueAll_keys (by omega) _) ?hu ?_
        case hu => ktr_units
        obtain ⟨lv9, hlv9, sa, t1, t2, t3, hve, hm⟩ := hsts _ (Nat.le_refl _)
        subst hve
        rw [show (1 + (cs.getD (Int.toNat 1) 0).fmod 5 - 0).toNat = svs.size - 1 by omega] at hlv9
        have hm9 := Mine.deep9 nw8 (Mine.tail_mid hf2 _ hm)
        have hsl9 := Mine.deep9 nw8 hsl
        have hfin := Mine.plain_find (c2 := cs.getD (Int.toNat 2) 0) (c3 := cs.getD (Int.toNat 3) 0) hk (1 + (cs.getD (Int.toNat 1) 0).fmod 5 - 0).toNat
        cases hs4 : Mine.stAt ((cs.getD (Int.toNat 0) 0).fmod 7) (cs.getD (Int.toNat 2) 0) (cs.getD (Int.toNat 3) 0) (1 + (cs.getD (Int.toNat 1) 0).fmod 5 - 0).toNat with
        | mk low high goes number =>
        rw [hs4] at hm9 hfin
        dsimp only at hm9 hfin
        cases goes
        all_goals k_steps
        · unfold Mine.Hold
          (rename News _ _ _ _ => N3)
          (rename Fr _ _ _ _ => F3)
          obtain ⟨hc3, ht3, N4⟩ := Mine.host_gen0 N3
          (rename _ < _ ∧ _ => ll3)
          revert ll3
          (rename _ < _ ∧ _ => ld3)
          revert ld3
          (rename _ < _ ∧ _ => lr3)
          intro ld3 ll3
          (rename _ < _ => lx3)
          (rename (_ == sysModules) = false => lo3)
          (rename Obj.IsDictOf (PySem.strKind _ _) _ _ => is3)
          (rename FlatPairs PyData.str _ _ => fl3)
          (rename ∀ p ∈ (_ : List (Addr × Obj)), p.1 ≠ _ => hv3)
          k_dflt (refine' Mine.match_plain_spec (c := hc3) (d := Mine.ndAt (cs.getD (Int.toNat 2) 0) (cs.getD (Int.toNat 3) 0) (1 + (cs.getD (Int.toNat 1) 0).fmod 5 - 0).toNat) (log := []) ?B1 F3 ?X1 N4 ?T1 ?hk1 ?hd1 ?hu1 ?ap1 ?ok1 (fun _ h => h) ?hb1 ?hx1 ?nd1 (.head _) ?rn1 ?rs1; (case B1 => k_asm); (case X1 => k_asm); (case T1 => k_asm); (case hk1 => exact rfl); (case hd1 => ktr_room); (case hu1 => ktr_units))
          case ap1 => constructor <;> (refine neN ?_; omega)
          case ok1 =>
            refine ⟨Mine.off_mk ⟨ld3.1, ld3.2.2⟩ ⟨ll3.2.2.1, ll3.2.2.2.2⟩ (List.forall_mem_cons.mpr ⟨?oo1, hv3⟩), ⟨[], [], ⟨lo3, is3, fl3⟩, Nat.le_refl _⟩, .nil, Int.le_refl _, Int.le_refl _⟩
            (refine neN ?_; dsimp only; omega)
          case hb1 => rw [Mine.csize_nd]; omega
          case hx1 => omega
          case nd1 => exact hnd.mono fun p hp => .tail _ (.tail _ (.tail _ (Mine.sub4 _ (Mine.deep9 nw8 (Mine.tail_mid hf2 _ hp)))))
          case rn1 =>
            intro he
            rw [hfin, if_pos (by assumption)] at he
            exact absurd he (by simp)
          case rs1 =>
            intro b e he h5 tk5 steps5 t5 lv5 ln5 o5 tl5 y5 z5 tb5 te5 nz5 F5 N5 nw5 ok5 le5 m5 m6
            rw [hfin, if_pos (by assumption)] at he
            obtain ⟨hb1, hb2⟩ := Prod.mk.inj (Option.some.inj he)
            rw [← hb1, ← hb2] at m5
            clear N3 N4
            k_steps
            unfold Mine.Hold
            (rename News _ _ _ _ => N6)
            refine Mine.found_same N6 (Mine.sub4 _ (List.mem_append_left _ m5)) (Mine.sub4 _ (List.mem_append_left _ m6)) (Mine.sub4 _ (List.mem_append_right _ (.tail _ (.head _)))) (Mine.sub4 _ (List.mem_append_right _ (.tail _ (.tail _ (.head _))))) ?hz1 ?_
            case hz1 => ktr_units
            k_steps
        · unfold Mine.Hold
          (rename News _ _ _ _ => N3)
          (rename Fr _ _ _ _ => F3)
          obtain ⟨hc3, ht3, N4⟩ := Mine.host_gen0 N3
          (rename _ < _ ∧ _ => ll3)
          revert ll3
          (rename _ < _ ∧ _ => ld3)
          revert ld3
          (rename _ < _ ∧ _ => lr3)
          intro ld3 ll3
          (rename _ < _ => lx3)
          (rename (_ == sysModules) = false => lo3)
          (rename Obj.IsDictOf (PySem.strKind _ _) _ _ => is3)
          (rename FlatPairs PyData.str _ _ => fl3)
          (rename ∀ p ∈ (_ : List (Addr × Obj)), p.1 ≠ _ => hv3)
          k_dflt (refine' Mine.match_plain_spec (c := hc3) (d := Mine.ndAt (cs.getD (Int.toNat 2) 0) (cs.getD (Int.toNat 3) 0) (1 + (cs.getD (Int.toNat 1) 0).fmod 5 - 0).toNat) (log := []) ?B2 F3 ?X2 N4 ?T2 ?hk2 ?hd2 ?hu2 ?ap2 ?ok2 (fun _ h => h) ?hb2 ?hx2 ?nd2 (.head _) ?rn2 ?rs2; (case B2 => k_asm); (case X2 => k_asm); (case T2 => k_asm); (case hk2 => exact rfl); (case hd2 => ktr_room); (case hu2 => ktr_units))
          case ap2 => constructor <;> (refine neN ?_; omega)
          case ok2 =>
            refine ⟨Mine.off_mk ⟨ld3.1, ld3.2.2⟩ ⟨ll3.2.2.1, ll3.2.2.2.2⟩ (List.forall_mem_cons.mpr ⟨?oo2, hv3⟩), ⟨[], [], ⟨lo3, is3, fl3⟩, Nat.le_refl _⟩, .nil, Int.le_refl _, Int.le_refl _⟩
            (refine neN ?_; dsimp only; omega)
          case hb2 => rw [Mine.csize_nd]; omega
          case hx2 => omega
          case nd2 => exact hnd.mono fun p hp => .tail _ (Mine.sub4 _ (Mine.deep9 nw8 (Mine.tail_mid hf2 _ hp)))
          case rs2 =>
            intro b e he
            rw [hfin, if_neg (by assumption)] at he
            exact absurd he (by simp)
          case rn2 =>
            intro he h5 tk5 steps5 t5 lv5 ln5 o5 tl5 F5 N5 nw5 ok5 le5
            clear N3 N4
            k_steps
        · unfold Mine.Hold
          (rename News _ _ _ _ => N3)
          (rename Fr _ _ _ _ => F3)
          obtain ⟨hc3, ht3, N4⟩ := Mine.host_gen0 N3
          (rename _ < _ ∧ _ => ll3)
          revert ll3
          (rename _ < _ ∧ _ => ld3)
          revert ld3
          (rename _ < _ ∧ _ => lr3)
          intro ld3 ll3
          (rename _ < _ => lx3)
          (rename (_ == sysModules) = false => lo3)
          (rename Obj.IsDictOf (PySem.strKind _ _) _ _ => is3)
          (rename FlatPairs PyData.str _ _ => fl3)
          (rename ∀ p ∈ (_ : List (Addr × Obj)), p.1 ≠ _ => hv3)
          k_dflt (refine' Mine.match_plain_spec (c := hc3) (d := Mine.ndAt (cs.getD (Int.toNat 2) 0) (cs.getD (Int.toNat 3) 0) (1 + (cs.getD (Int.toNat 1) 0).fmod 5 - 0).toNat) (log := []) ?B3 F3 ?X3 N4 ?T3 ?hk3 ?hd3 ?hu3 ?ap3 ?ok3 (fun _ h => h) ?hb3 ?hx3 ?nd3 (.head _) ?rn3 ?rs3; (case B3 => k_asm); (case X3 => k_asm); (case T3 => k_asm); (case hk3 => exact rfl); (case hd3 => ktr_room); (case hu3 => ktr_units))
          case ap3 => constructor <;> (refine neN ?_; omega)
          case ok3 =>
            refine ⟨Mine.off_mk ⟨ld3.1, ld3.2.2⟩ ⟨ll3.2.2.1, ll3.2.2.2.2⟩ (List.forall_mem_cons.mpr ⟨?oo3, hv3⟩), ⟨[], [], ⟨lo3, is3, fl3⟩, Nat.le_refl _⟩, .nil, Int.le_refl _, Int.le_refl _⟩
            (refine neN ?_; dsimp only; omega)
          case hb3 => rw [Mine.csize_nd]; omega
          case hx3 => omega
          case nd3 => exact hnd.mono fun p hp => .tail _ (.tail _ (.tail _ (Mine.sub4 _ (Mine.deep9 nw8 (Mine.tail_mid hf2 _ hp)))))
          case rn3 =>
            intro he
            rw [hfin, if_pos (by assumption)] at he
            exact absurd he (by simp)
          case rs3 =>
            intro b e he h5 tk5 steps5 t5 lv5 ln5 o5 tl5 y5 z5 tb5 te5 nz5 F5 N5 nw5 ok5 le5 m5 m6
            rw [hfin, if_pos (by assumption)] at he
            obtain ⟨hb1, hb2⟩ := Prod.mk.inj (Option.some.inj he)
            rw [← hb1, ← hb2] at m5
            clear N3 N4
            k_steps
            unfold Mine.Hold
            (rename News _ _ _ _ => N6)
            refine Mine.found_same N6 (Mine.sub4 _ (List.mem_append_left _ m5)) (Mine.sub4 _ (List.mem_append_left _ m6)) (Mine.sub4 _ (List.mem_append_right _ (.tail _ (.head _)))) (Mine.sub4 _ (List.mem_append_right _ (.tail _ (.tail _ (.head _))))) ?hz3 ?_
            case hz3 => ktr_units
            k_steps
        · unfold Mine.Hold
          (rename News _ _ _ _ => N3)
          (rename Fr _ _ _ _ => F3)
          obtain ⟨hc3, ht3, N4⟩ := Mine.host_gen0 N3
          (rename _ < _ ∧ _ => ll3)
          revert ll3
          (rename _ < _ ∧ _ => ld3)
          revert ld3
          (rename _ < _ ∧ _ => lr3)
          intro ld3 ll3
          (rename _ < _ => lx3)
          (rename (_ == sysModules) = false => lo3)
          (rename Obj.IsDictOf (PySem.strKind _ _) _ _ => is3)
          (rename FlatPairs PyData.str _ _ => fl3)
          (rename ∀ p ∈ (_ : List (Addr × Obj)), p.1 ≠ _ => hv3)
          k_dflt (refine' Mine.match_plain_spec (c := hc3) (d := Mine.ndAt (cs.getD (Int.toNat 2) 0) (cs.getD (Int.toNat 3) 0) (1 + (cs.getD (Int.toNat 1) 0).fmod 5 - 0).toNat) (log := []) ?B4 F3 ?X4 N4 ?T4 ?hk4 ?hd4 ?hu4 ?ap4 ?ok4 (fun _ h => h) ?hb4 ?hx4 ?nd4 (.head _) ?rn4 ?rs4; (case B4 => k_asm); (case X4 => k_asm); (case T4 => k_asm); (case hk4 => exact rfl); (case hd4 => ktr_room); (case hu4 => ktr_units))
          case ap4 => constructor <;> (refine neN ?_; omega)
          case ok4 =>
            refine ⟨Mine.off_mk ⟨ld3.1, ld3.2.2⟩ ⟨ll3.2.2.1, ll3.2.2.2.2⟩ (List.forall_mem_cons.mpr ⟨?oo4, hv3⟩), ⟨[], [], ⟨lo3, is3, fl3⟩, Nat.le_refl _⟩, .nil, Int.le_refl _, Int.le_refl _⟩
            (refine neN ?_; dsimp only; omega)
          case hb4 => rw [Mine.csize_nd]; omega
          case hx4 => omega
          case nd4 => exact hnd.mono fun p hp => .tail _ (Mine.sub4 _ (Mine.deep9 nw8 (Mine.tail_mid hf2 _ hp)))
          case rs4 =>
            intro b e he
            rw [hfin, if_neg (by assumption)] at he
            exact absurd he (by simp)
          case rn4 =>
            intro he h5 tk5 steps5 t5 lv5 ln5 o5 tl5 F5 N5 nw5 ok5 le5
            clear N3 N4
            k_steps)
