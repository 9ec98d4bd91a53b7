import PyProof.Rows.All
import Wide.All
import OpenK.AllK
import Wide.FinOn
import HandS.ForMost
import HandS.ForExc
import HandS.SetKeys
import KE.KeyNested
import KE.KDictKeyed
import HandS.Deep
import HandS.TupAny
import HandS.Star
import HandS.FStr
import HandS.Style
import HandS.IsInst
import HandS.RaiseMore
import HandS.Replace
import HandS.Defaults
import HandS.WordsExc
import HandS.Comp
import HandS.Dict
import HandS.Small
import KE.SortData
import PyProof.TupleOfSeq
import PyProof.ReprRoads
import PyProof.CallFns
import HandS.DictComp
import HandS.Ends
import HandS.Head0
import HandS.Head1
import HandS.Head2
import HandS.HeadEnd
import HandS.HeadHook1
import HandS.HeadHook2
import HandS.HeadHook3
import HandS.HeadHook4
import HandS.Iter
import HandS.Walk
import PyProof.Rows.TupDisplay
import PyProof.DictRoadsH
import PyProof.DictMoreH
import HandS.TupLen
import HandS.Zip
import HandS.Strs
import KE.GoesEnum
import KE.KDictPairs
import HandS.TryOnly
import PySem.Challenge.RW_hushsteps_k31_guests_and_tables_by_names

section
set_option Elab.async false
set_option linter.all false
set_option maxRecDepth 100000
set_option maxHeartbeats 4000000
namespace Hs
open PySem L2

/-- the program and the world, on which hashes lean -/
structure Wd where
  P : Program
  w : World
abbrev _root_.L2.Cx.wd (X : Cx) : Wd := ⟨X.prog, X.w⟩
/-- values, immutable things by value, mutable ones by number -/
inductive IV where
  | non | bl (b : Bool) | int (i : Int) | str (x : Str) | tup (xs : List IV) | lst (xs : List IV) | frl (xs : List IV) | obj (c : Str) (fs : List (Str × IV)) | st (ks : List Key) | ref (n : Nat)
abbrev Loc := List (Option IV)
inductive Ob where
  | lst (xs : List IV) | dct (kvs : List (Key × IV)) | ins (c : Str) (fs : List (Str × IV))
  | dcl (kvs : List (Key × IV)) | dcn (kvs : List (IV × IV)) | dnl (kvs : List (IV × IV))
abbrev Hv := List Ob
inductive R (A : Type) where
  | ok (a : A) (h : Hv) | exc (c : Str) (fs : List (Str × IV)) (h : Hv) | bad

/-- what never changes: a tracked thing that no number names, or a constant of the written part -/
def TupAt (K : PySem.W.Frag) (r : List Addr) (H : Hp) (a : Addr) (vs : List V) : Prop := (a ∉ r ∧ Rd H a (.tup vs)) ∨ SqT K (fun _ => none) a vs
def LstAt (K : PySem.W.Frag) (r : List Addr) (H : Hp) (a : Addr) (vs : List V) : Prop := (a ∉ r ∧ Rd H a (.lst vs)) ∨ SqL K (fun _ => none) a vs
def OwnAt (r : List Addr) (H : Hp) (a : Addr) (vs : List V) : Prop := a ∉ r ∧ H a = some (.lst vs)

mutual
def RV (wd : Wd) (K : PySem.W.Frag) (mg : Str → Option Value) (r : List Addr) (H : Hp) : IV → V → Prop
  | .non, v => v = .non
  | .bl b, v => v = .bl b
  | .int i, v => v = .int i
  | .str x, v => v = .str x
  | .tup xs, v => ∃ a vs, v = .ref a ∧ TupAt K r H a vs ∧ RVs wd K mg r H xs vs
  | .lst xs, v => ∃ a vs, v = .ref a ∧ OwnAt r H a vs ∧ RVs wd K mg r H xs vs
  | .frl xs, v => ∃ a vs, v = .ref a ∧ LstAt K r H a vs ∧ RVs wd K mg r H xs vs
  | .obj c fs, v => ∃ a C dx gs, v = .ref a ∧ mg c = some (.ref C) ∧ a ∉ r ∧ H a = some (.ins C dx gs) ∧ RVf wd K mg r H fs gs
  | .st ks, v => ∃ a S, v = .ref a ∧ a ∉ r ∧ H a = some (SetK wd.P wd.w a S ks.length) ∧ (∀ k, S k = ks.any fun j => decide (j = k)) ∧ ks.Nodup
  | .ref n, v => ∃ a, v = .ref a ∧ r[n]? = some a
def RVs (wd : Wd) (K : PySem.W.Frag) (mg : Str → Option Value) (r : List Addr) (H : Hp) : List IV → List V → Prop
  | [], vs => vs = []
  | x :: xs, vs => ∃ v t, vs = v :: t ∧ RV wd K mg r H x v ∧ RVs wd K mg r H xs t
def RVf (wd : Wd) (K : PySem.W.Frag) (mg : Str → Option Value) (r : List Addr) (H : Hp) : List (Str × IV) → List (Str × V) → Prop
  | [], vs => vs = []
  | (f, x) :: xs, vs => ∃ v t, vs = (f, v) :: t ∧ RV wd K mg r H x v ∧ RVf wd K mg r H xs t
end

structure Nxt (r : List Addr) (H : Hp) (r' : List Addr) (H' : Hp) : Prop where
  ext : ∃ more, r' = r ++ more ∧ ∀ a ∈ more, H a = none
  keep : ∀ a o, H a = some o → a ∉ r → H' a = some o
  live : ∀ a ∈ r', ∃ o, H' a = some o
  lock : ∀ a o u, H a = some (.frz o u) → H' a = some (.frz o u)

theorem Nxt.get {r r' : List Addr} {H H' : Hp} (n : Nxt r H r' H') {i : Nat} {a : Addr} (e : r[i]? = some a) : r'[i]? = some a := by
  obtain ⟨more, rfl, _⟩ := n.ext
  rw [List.getElem?_append_left (List.getElem?_eq_some_iff.mp e).1]; exact e
theorem Nxt.out {r r' : List Addr} {H H' : Hp} (n : Nxt r H r' H') {a : Addr} {o : HO} (e : H a = some o) (h : a ∉ r) : a ∉ r' := by
  obtain ⟨more, rfl, hm⟩ := n.ext
  intro hx
  rcases List.mem_append.mp hx with q | q
  · exact h q
  · rw [hm a q] at e; cases e
theorem Nxt.rd {r r' : List Addr} {H H' : Hp} (n : Nxt r H r' H') {a : Addr} {u : HO} (h : a ∉ r ∧ Rd H a u) : a ∉ r' ∧ Rd H' a u := by
  obtain ⟨h1, h2⟩ := h
  rcases h2 with e | ⟨o, e⟩
  · exact ⟨n.out e h1, .inl (n.keep _ _ e h1)⟩
  · exact ⟨n.out e h1, .inr ⟨o, n.keep _ _ e h1⟩⟩
theorem Nxt.tup {K : PySem.W.Frag} {r r' : List Addr} {H H' : Hp} (n : Nxt r H r' H') {a : Addr} {vs : List V} (h : TupAt K r H a vs) : TupAt K r' H' a vs := h.imp n.rd id
theorem Nxt.lst {K : PySem.W.Frag} {r r' : List Addr} {H H' : Hp} (n : Nxt r H r' H') {a : Addr} {vs : List V} (h : LstAt K r H a vs) : LstAt K r' H' a vs := h.imp n.rd id
mutual
theorem RV.mono {wd : Wd} {K : PySem.W.Frag} {mg : Str → Option Value} {r r' : List Addr} {H H' : Hp} (n : Nxt r H r' H') : ∀ (x : IV) (v : V), RV wd K mg r H x v → RV wd K mg r' H' x v
  | .non, v, h => by simpa [RV] using h
  | .bl _, v, h => by simpa [RV] using h
  | .int _, v, h => by simpa [RV] using h
  | .str _, v, h => by simpa [RV] using h
  | .tup xs, v, h => by
    simp only [RV] at h ⊢
    obtain ⟨a, vs, e, h1, h2⟩ := h
    exact ⟨a, vs, e, n.tup h1, RVs.mono n xs vs h2⟩
  | .lst xs, v, h => by
    simp only [RV] at h ⊢
    obtain ⟨a, vs, e, ⟨h1, h3⟩, h2⟩ := h
    exact ⟨a, vs, e, ⟨n.out h3 h1, n.keep _ _ h3 h1⟩, RVs.mono n xs vs h2⟩
  | .frl xs, v, h => by
    simp only [RV] at h ⊢
    obtain ⟨a, vs, e, h1, h2⟩ := h
    exact ⟨a, vs, e, n.lst h1, RVs.mono n xs vs h2⟩
  | .obj c fs, v, h => by
    simp only [RV] at h ⊢
    obtain ⟨a, C, dx, gs, e, h1, h2, h3, h4⟩ := h
    exact ⟨a, C, dx, gs, e, h1, n.out h3 h2, n.keep _ _ h3 h2, RVf.mono n fs gs h4⟩
  | .st ks, v, h => by
    simp only [RV] at h ⊢
    obtain ⟨a, S, e, h1, h2, h3⟩ := h
    exact ⟨a, S, e, n.out h2 h1, n.keep _ _ h2 h1, h3⟩
  | .ref i, v, h => by
    simp only [RV] at h ⊢
    obtain ⟨a, e, h1⟩ := h
    exact ⟨a, e, n.get h1⟩
theorem RVs.mono {wd : Wd} {K : PySem.W.Frag} {mg : Str → Option Value} {r r' : List Addr} {H H' : Hp} (n : Nxt r H r' H') : ∀ (xs : List IV) (vs : List V), RVs wd K mg r H xs vs → RVs wd K mg r' H' xs vs
  | [], vs, h => by simpa [RVs] using h
  | x :: xs, vs, h => by
    simp only [RVs] at h ⊢
    obtain ⟨v, t, e, h1, h2⟩ := h
    exact ⟨v, t, e, RV.mono n x v h1, RVs.mono n xs t h2⟩
theorem RVf.mono {wd : Wd} {K : PySem.W.Frag} {mg : Str → Option Value} {r r' : List Addr} {H H' : Hp} (n : Nxt r H r' H') : ∀ (fs : List (Str × IV)) (vs : List (Str × V)), RVf wd K mg r H fs vs → RVf wd K mg r' H' fs vs
  | [], vs, h => by simpa [RVf] using h
  | (f, x) :: xs, vs, h => by
    simp only [RVf] at h ⊢
    obtain ⟨v, t, e, h1, h2⟩ := h
    exact ⟨v, t, e, RV.mono n x v h1, RVf.mono n xs t h2⟩
end
end Hs
end

section
set_option Elab.async false
set_option linter.all false
set_option maxRecDepth 100000
set_option maxHeartbeats 4000000
namespace Hs
open PySem L2
section
variable {wd : Wd} {K : PySem.W.Frag} {mg : Str → Option Value} {r r' r1 r2 : List Addr} {H H' H1 H2 : Hp} {h h' : Hv} {a p : Addr} {o : HO}

theorem Nxt.trans (x : Nxt r H r1 H1) (y : Nxt r1 H1 r2 H2) : Nxt r H r2 H2 := by
  obtain ⟨m1, e1, f1⟩ := x.ext
  obtain ⟨m2, e2, f2⟩ := y.ext
  refine ⟨⟨m1 ++ m2, by rw [e2, e1, List.append_assoc], fun a ha => ?_⟩, fun a o e ha => ?_, y.live, fun a o u e => y.lock a o u (x.lock a o u e)⟩
  · rcases List.mem_append.mp ha with q | q
    · exact f1 a q
    · cases z : H a with
      | none => rfl
      | some o =>
        by_cases hr : a ∈ r
        · obtain ⟨o', e'⟩ := x.live a (by rw [e1]; exact List.mem_append_left _ hr)
          rw [f2 a q] at e'; cases e'
        · have := x.keep a o z hr
          rw [f2 a q] at this; cases this
  · exact y.keep a o (x.keep a o e ha) (x.out e ha)

mutual
/-- a value as a key of a dict of nested keys -/
def nk : IV → Option NestedKey
  | .non => some .none
  | .bl b => some (.num (if b then 1 else 0))
  | .int i => some (.num i)
  | .str x => some (.text x)
  | .tup xs => (nks xs).map .tup
  | _ => none
def nks : List IV → Option (List NestedKey)
  | [] => some []
  | x :: xs => match nk x, nks xs with | some k, some ks => some (k :: ks) | _, _ => none
end
/-- a dict whose keys are nested tuples -/
def DNp (w : World) (a : Addr) (ws : List (NestedKey × Addr × V)) (h : Heap) : Prop :=
  (a == sysModules) = false ∧ ws.length ≤ sizeLine ∧ (ws.map (·.1)).Nodup ∧ ∃ xs : List (NestedKey × Addr × Value), Paired (fun p q => p.1 = q.1 ∧ p.2.1 = q.2.1 ∧ RelV p.2.2 q.2.2) ws xs ∧
    ∃ o es ep, h.get? a = some o ∧ o.ExactDict ∧ o.data = .dict es ep ∧ es.toList = xs.map fun x => ⟨x.1.hash w, .ref x.2.1, x.2.2⟩
def DN (w : World) (a : Addr) (ws : List (NestedKey × Addr × V)) : HO := .ext (DNp w a ws)
def RKV (wd : Wd) (K : PySem.W.Frag) (mg : Str → Option Value) (r : List Addr) (H : Hp) (kvs : List (Key × IV)) (ws : List (Key × V)) : Prop :=
  kvs.map (·.1) = ws.map (·.1) ∧ RVs wd K mg r H (kvs.map (·.2)) (ws.map (·.2))
def RNV (wd : Wd) (K : PySem.W.Frag) (mg : Str → Option Value) (r : List Addr) (H : Hp) (kvs : List (IV × IV)) (ws : List (NestedKey × Addr × V)) : Prop :=
  kvs.map (fun kv => nk kv.1) = ws.map (fun x => some x.1) ∧ (∀ x ∈ ws, x.1.depth ≤ 8) ∧ RVs wd K mg r H (kvs.map (·.1)) (ws.map fun x => .ref x.2.1) ∧ RVs wd K mg r H (kvs.map (·.2)) (ws.map fun x => x.2.2)
theorem RKV.mono {kvs : List (Key × IV)} {ws : List (Key × V)} (n : Nxt r H r' H') (h : RKV wd K mg r H kvs ws) : RKV wd K mg r' H' kvs ws := ⟨h.1, RVs.mono n _ _ h.2⟩
theorem RNV.mono {kvs : List (IV × IV)} {ws : List (NestedKey × Addr × V)} (n : Nxt r H r' H') (h : RNV wd K mg r H kvs ws) : RNV wd K mg r' H' kvs ws := ⟨h.1, h.2.1, RVs.mono n _ _ h.2.2.1, RVs.mono n _ _ h.2.2.2⟩
def RO (wd : Wd) (K : PySem.W.Frag) (mg : Str → Option Value) (r : List Addr) (H : Hp) (a : Addr) : Ob → Prop
  | .lst xs => ∃ vs, H a = some (.lst vs) ∧ RVs wd K mg r H xs vs
  | .dct kvs => ∃ ws, H a = some (.dK ws) ∧ kvs.map (·.1) = ws.map (·.1) ∧ RVs wd K mg r H (kvs.map (·.2)) (ws.map (·.2))
  | .dcl kvs => ∃ o ws, H a = some (.frz o (.dK ws)) ∧ RKV wd K mg r H kvs ws
  | .dcn kvs => ∃ ws, H a = some (DN wd.w a ws) ∧ RNV wd K mg r H kvs ws
  | .dnl kvs => ∃ o ws, H a = some (.frz o (DN wd.w a ws)) ∧ RNV wd K mg r H kvs ws
  | .ins c fs => ∃ C dx gs, mg c = some (.ref C) ∧ H a = some (.ins C dx gs) ∧ RVf wd K mg r H fs gs
theorem RO.live {ob : Ob} (h : RO wd K mg r H a ob) : ∃ o, H a = some o := by
  cases ob with
  | lst xs => obtain ⟨vs, e, _⟩ := h; exact ⟨_, e⟩
  | dct xs => obtain ⟨vs, e, _⟩ := h; exact ⟨_, e⟩
  | dcl xs => obtain ⟨o, vs, e, _⟩ := h; exact ⟨_, e⟩
  | dcn xs => obtain ⟨vs, e, _⟩ := h; exact ⟨_, e⟩
  | dnl xs => obtain ⟨o, vs, e, _⟩ := h; exact ⟨_, e⟩
  | ins c fs => obtain ⟨C, dx, gs, _, e, _⟩ := h; exact ⟨_, e⟩
theorem RO.mono {ob : Ob} (n : Nxt r H r' H') (h : RO wd K mg r H a ob) (e : H' a = H a) : RO wd K mg r' H' a ob := by
  cases ob with
  | lst xs => obtain ⟨vs, q, z⟩ := h; exact ⟨vs, e.trans q, RVs.mono n _ _ z⟩
  | dct xs => obtain ⟨vs, q, k, z⟩ := h; exact ⟨vs, e.trans q, k, RVs.mono n _ _ z⟩
  | dcl xs => obtain ⟨o, vs, q, z⟩ := h; exact ⟨o, vs, e.trans q, z.mono n⟩
  | dcn xs => obtain ⟨vs, q, z⟩ := h; exact ⟨vs, e.trans q, z.mono n⟩
  | dnl xs => obtain ⟨o, vs, q, z⟩ := h; exact ⟨o, vs, e.trans q, z.mono n⟩
  | ins c fs => obtain ⟨C, dx, gs, c1, q, z⟩ := h; exact ⟨C, dx, gs, c1, e.trans q, RVf.mono n _ _ z⟩
/-- what can be written -/
def wrO : Ob → Prop
  | .dcl _ => False
  | .dnl _ => False
  | _ => True
theorem RO.nofrz {ob : Ob} (h : RO wd K mg r H a ob) (w : wrO ob) : ∀ o u, H a ≠ some (.frz o u) := by
  intro o u z
  cases ob with
  | lst xs => obtain ⟨vs, e, _⟩ := h; rw [e] at z; cases z
  | dct xs => obtain ⟨vs, e, _⟩ := h; rw [e] at z; cases z
  | dcl xs => exact w
  | dcn xs => obtain ⟨vs, e, _⟩ := h; rw [e] at z; cases z
  | dnl xs => exact w
  | ins c fs => obtain ⟨C, dx, gs, _, e, _⟩ := h; rw [e] at z; cases z

theorem nf_of {H : Hp} {a : Addr} {u : HO} (e : H a = some u) (n : ∀ o v, u ≠ .frz o v := by intro _ _ z; cases z) : ∀ o v, H a ≠ some (.frz o v) := fun o v z => by
  rw [e] at z; exact n o v (Option.some.inj z)
structure HSim (wd : Wd) (K : PySem.W.Frag) (mg : Str → Option Value) (r : List Addr) (h : Hv) (H : Hp) : Prop where
  len : r.length = h.length
  nd : r.Nodup
  at_ : ∀ (n : Nat) (o : Ob) (a : Addr), h[n]? = some o → r[n]? = some a → RO wd K mg r H a o

theorem HSim.get (S : HSim wd K mg r h H) {n : Nat} {a : Addr} (e : r[n]? = some a) : ∃ o, h[n]? = some o ∧ RO wd K mg r H a o := by
  have hn : n < h.length := by rw [← S.len]; exact (List.getElem?_eq_some_iff.mp e).1
  exact ⟨_, List.getElem?_eq_getElem hn, S.at_ _ _ _ (List.getElem?_eq_getElem hn) e⟩
theorem HSim.live (S : HSim wd K mg r h H) : ∀ a ∈ r, ∃ o, H a = some o := fun a ha => by
  obtain ⟨n, e⟩ := List.mem_iff_getElem?.mp ha
  obtain ⟨o, _, q⟩ := S.get e
  exact q.live
theorem HSim.addr (S : HSim wd K mg r h H) {n : Nat} {o : Ob} (e : h[n]? = some o) : ∃ a, r[n]? = some a ∧ RO wd K mg r H a o := by
  have hn : n < r.length := by rw [S.len]; exact (List.getElem?_eq_some_iff.mp e).1
  exact ⟨_, List.getElem?_eq_getElem hn, S.at_ _ _ _ e (List.getElem?_eq_getElem hn)⟩
theorem Nxt.refl (S : HSim wd K mg r h H) : Nxt r H r H := ⟨⟨[], by simp, by simp⟩, fun _ _ e _ => e, S.live, fun _ _ _ e => e⟩
/-- a new thing that no number names -/
theorem HSim.grow (S : HSim wd K mg r h H) (hp : H p = none) : Nxt r H r (upd H p o) ∧ HSim wd K mg r h (upd H p o) := by
  have hne : ∀ a u, H a = some u → a ≠ p := fun a u e => ne_of_none e hp
  have n : Nxt r H r (upd H p o) := ⟨⟨[], by simp, by simp⟩, fun a u e _ => by rw [upd_ne (hne a u e)]; exact e, fun a ha => by
    obtain ⟨u, e⟩ := S.live a ha
    exact ⟨u, by rw [upd_ne (hne a u e)]; exact e⟩, fun a o' u e => by rw [upd_ne (hne a _ e)]; exact e⟩
  refine ⟨n, S.len, S.nd, fun i ob a h1 h2 => ?_⟩
  have q := S.at_ i ob a h1 h2
  obtain ⟨u, e⟩ := q.live
  exact q.mono n (upd_ne (hne a u e))
theorem HSim.fresh (S : HSim wd K mg r h H) (hp : H p = none) : p ∉ r := fun z => by
  obtain ⟨u, e⟩ := S.live p z
  rw [hp] at e; cases e
/-- a new thing with a number -/
theorem HSim.alloc (S : HSim wd K mg r h H) (hp : H p = none) {ob : Ob} (ho : RO wd K mg (r ++ [p]) (upd H p o) p ob) : Nxt r H (r ++ [p]) (upd H p o) ∧ HSim wd K mg (r ++ [p]) (h ++ [ob]) (upd H p o) := by
  have hne : ∀ a u, H a = some u → a ≠ p := fun a u e => ne_of_none e hp
  have n : Nxt r H (r ++ [p]) (upd H p o) := ⟨⟨[p], rfl, by simp [hp]⟩, fun a u e _ => by rw [upd_ne (hne a u e)]; exact e, fun a ha => by
    rcases List.mem_append.mp ha with q | q
    · obtain ⟨u, e⟩ := S.live a q
      exact ⟨u, by rw [upd_ne (hne a u e)]; exact e⟩
    · have : a = p := by simpa using q
      subst this; exact ⟨o, upd_same⟩, fun a o' u e => by rw [upd_ne (hne a _ e)]; exact e⟩
  refine ⟨n, by simp [S.len], ?_, fun i ob' a h1 h2 => ?_⟩
  · rw [List.nodup_append]
    refine ⟨S.nd, by simp, fun a ha b hb => ?_⟩
    have : b = p := by simpa using hb
    subst this
    intro e; subst e; exact S.fresh hp ha
  · by_cases hi : i < r.length
    · rw [List.getElem?_append_left hi] at h2
      rw [List.getElem?_append_left (by rw [← S.len]; exact hi)] at h1
      have q := S.at_ i ob' a h1 h2
      obtain ⟨u, e⟩ := q.live
      exact q.mono n (upd_ne (hne a u e))
    · have hi' : i = r.length := by
        have := (List.getElem?_eq_some_iff.mp h2).1
        simp at this; omega
      subst hi'
      rw [List.getElem?_append_right (Nat.le_refl _)] at h2
      rw [List.getElem?_append_right (by rw [S.len]; exact Nat.le_refl _)] at h1
      simp [S.len] at h1 h2
      subst h1; subst h2
      exact ho
/-- a thing with a number changes -/
theorem HSim.set (S : HSim wd K mg r h H) {n : Nat} (e : r[n]? = some a) (nf : ∀ o u, H a ≠ some (.frz o u)) {ob : Ob} (hn : Nxt r H r (upd H a o) → RO wd K mg r (upd H a o) a ob) : Nxt r H r (upd H a o) ∧ HSim wd K mg r (h.set n ob) (upd H a o) := by
  have ha : a ∈ r := List.mem_of_getElem? e
  have n' : Nxt r H r (upd H a o) := ⟨⟨[], by simp, by simp⟩, fun b u eb hb => by
      rw [upd_ne (fun z => hb (by rw [z]; exact ha))]; exact eb, fun b hb => by
    by_cases z : b = a
    · subst z; exact ⟨o, upd_same⟩
    · obtain ⟨u, eb⟩ := S.live b hb
      exact ⟨u, by rw [upd_ne z]; exact eb⟩, fun b o' u eb => by
    rw [upd_ne (fun (z : b = a) => nf o' u (by rw [← z]; exact eb))]; exact eb⟩
  refine ⟨n', by simp [S.len], S.nd, fun i ob' b h1 h2 => ?_⟩
  by_cases hi : i = n
  · subst hi
    rw [e] at h2; cases h2
    have hl : i < h.length := by rw [← S.len]; exact (List.getElem?_eq_some_iff.mp e).1
    rw [List.getElem?_set_self hl] at h1
    cases h1
    exact hn n'
  · rw [List.getElem?_set_ne (Ne.symm hi)] at h1
    have hb : b ≠ a := fun z => hi (nodup_ix' S.nd h2 (z ▸ e))
    exact (S.at_ i ob' b h1 h2).mono n' (upd_ne hb)
where
  nodup_ix' {l : List Addr} (hN : l.Nodup) {i j : Nat} {x : Addr} (a : l[i]? = some x) (b : l[j]? = some x) : i = j := by
    obtain ⟨h1, e1⟩ := List.getElem?_eq_some_iff.mp a
    obtain ⟨h2, e2⟩ := List.getElem?_eq_some_iff.mp b
    exact (List.getElem_inj hN).mp (e1.trans e2.symm)
end

/-! ### locals -/
def RL (wd : Wd) (K : PySem.W.Frag) (mg : Str → Option Value) (r : List Addr) (H : Hp) (l : Loc) (s : L2.St) : Prop :=
  l.length = s.length ∧ ∀ (i : Nat) x, l[i]? = some (some x) → ∃ v, s[i]? = some (some v) ∧ RV wd K mg r H x v
structure Sim (X : Cx) (r : List Addr) (l : Loc) (h : Hv) (s : L2.St) (H : Hp) : Prop where
  hs : HSim X.wd X.K X.mg r h H
  lo : RL X.wd X.K X.mg r H l s
section
variable {wd : Wd} {K : PySem.W.Frag} {mg : Str → Option Value} {X : Cx} {r r' : List Addr} {H H' : Hp} {h h' : Hv} {l : Loc} {s : L2.St}
theorem RL.mono (n : Nxt r H r' H') (x : RL wd K mg r H l s) : RL wd K mg r' H' l s := ⟨x.1, fun i y e => by
  obtain ⟨v, e1, e2⟩ := x.2 i y e
  exact ⟨v, e1, RV.mono n _ _ e2⟩⟩
theorem RL.set (x : RL wd K mg r H l s) {i : Nat} {y : IV} {v : V} (q : RV wd K mg r H y v) : RL wd K mg r H (l.set i (some y)) (s.set i (some v)) := by
  refine ⟨by simp [x.1], fun j z e => ?_⟩
  by_cases hj : i = j
  · subst hj
    have hi : i < l.length := by
      have := (List.getElem?_eq_some_iff.mp e).1
      simpa using this
    rw [List.getElem?_set_self hi] at e
    cases e
    exact ⟨v, List.getElem?_set_self (by rw [← x.1]; exact hi), q⟩
  · rw [List.getElem?_set_ne hj] at e
    obtain ⟨w, e1, e2⟩ := x.2 j z e
    exact ⟨w, by rw [List.getElem?_set_ne hj]; exact e1, e2⟩
theorem RL.drop (x : RL wd K mg r H l s) (i : Nat) (v : Option V) : RL wd K mg r H (l.set i none) (s.set i v) := by
  refine ⟨by simp [x.1], fun j z e => ?_⟩
  by_cases hj : i = j
  · subst hj
    have hi : i < l.length := by
      have := (List.getElem?_eq_some_iff.mp e).1
      simpa using this
    rw [List.getElem?_set_self hi] at e
    cases e
  · rw [List.getElem?_set_ne hj] at e
    obtain ⟨w, e1, e2⟩ := x.2 j z e
    exact ⟨w, by rw [List.getElem?_set_ne hj]; exact e1, e2⟩
theorem Sim.next (S : Sim X r l h s H) (n : Nxt r H r' H') (hs : HSim X.wd X.K X.mg r' h' H') : Sim X r' l h' s H' := ⟨hs, S.lo.mono n⟩
end

/-! ### what is wanted behind -/
def ExcAt (wd : Wd) (K : PySem.W.Frag) (mg : Str → Option Value) (r : List Addr) (H : Hp) (c : Str) (fs : List (Str × IV)) (cls : Value) (d : Option Addr) : Prop :=
  ∃ C, mg c = some (.ref C) ∧ cls = .ref C ∧ ((fs = [] ∧ d = none) ∨ ∃ dx gs, d = some dx ∧ dx ∉ r ∧ H dx = some (.xd gs) ∧ RVf wd K mg r H fs gs)
def Pst {A B : Type} (wd : Wd) (K : PySem.W.Frag) (mg : Str → Option Value) (L : List Addr → Hp → A → B → Prop) (r : List Addr) (H : Hp) (res : R A) (Q : B → Hp → Prop) (W : XK) : Prop :=
  match res with
  | .ok x h' => ∀ r' H' v, Nxt r H r' H' → HSim wd K mg r' h' H' → L r' H' x v → Q v H'
  | .exc c fs h' => ∀ r' H' cls d, Nxt r H r' H' → HSim wd K mg r' h' H' → ExcAt wd K mg r' H' c fs cls d → W cls d H'
  | .bad => False
abbrev LB : List Addr → Hp → Bool → Bool → Prop := fun _ _ a b => a = b
theorem Pst.mono {A B : Type} {wd : Wd} {K : PySem.W.Frag} {mg : Str → Option Value} {L : List Addr → Hp → A → B → Prop} {r r1 : List Addr} {H H1 : Hp} {res : R A} {Q : B → Hp → Prop} {W : XK} (p : Pst wd K mg L r H res Q W) (n : Nxt r H r1 H1) : Pst wd K mg L r1 H1 res Q W := by
  cases res with
  | ok x h' => exact fun r' H' v n' => p r' H' v (n.trans n')
  | exc c fs h' => exact fun r' H' cls d n' => p r' H' cls d (n.trans n')
  | bad => exact p
def bindR {A B : Type} (x : R A) (k : A → Hv → R B) : R B :=
  match x with
  | .ok a h => k a h
  | .exc c fs h => .exc c fs h
  | .bad => .bad
theorem Pst.bind {A B C D : Type} {wd : Wd} {K : PySem.W.Frag} {mg : Str → Option Value} {L : List Addr → Hp → A → B → Prop} {M : List Addr → Hp → C → D → Prop} {r : List Addr} {H : Hp} {res : R A} {k : A → Hv → R C} {Q : D → Hp → Prop} {Q' : B → Hp → Prop} {W : XK}
    (p : Pst wd K mg M r H (bindR res k) Q W) (hk : ∀ x h1 r1 H1 v, Nxt r H r1 H1 → HSim wd K mg r1 h1 H1 → L r1 H1 x v → Pst wd K mg M r1 H1 (k x h1) Q W → Q' v H1) : Pst wd K mg L r H res Q' W := by
  cases res with
  | ok x h' => exact fun r' H' v n' S q => hk x h' r' H' v n' S q (Pst.mono (res := k x h') p n')
  | exc c fs h' => exact p
  | bad => exact p
end Hs
end

section
set_option Elab.async false
set_option linter.all false
set_option maxRecDepth 100000
set_option maxHeartbeats 4000000
namespace Hs
open PySem L2

/-! ### reading values: seen as lists, tuples, data -/
section
variable {wd : Wd} {K : PySem.W.Frag} {mg : Str → Option Value} {r : List Addr} {H : Hp} {h : Hv} {x y : IV} {v u : V} {xs ys : List IV} {vs us : List V}
@[simp] theorem RV_non : RV wd K mg r H .non v ↔ v = .non := by simp [RV]
@[simp] theorem RV_bl {b : Bool} : RV wd K mg r H (.bl b) v ↔ v = .bl b := by simp [RV]
@[simp] theorem RV_int {i : Int} : RV wd K mg r H (.int i) v ↔ v = .int i := by simp [RV]
@[simp] theorem RV_str {s : Str} : RV wd K mg r H (.str s) v ↔ v = .str s := by simp [RV]
theorem RV_tup : RV wd K mg r H (.tup xs) v ↔ ∃ a vs, v = .ref a ∧ TupAt K r H a vs ∧ RVs wd K mg r H xs vs := by simp [RV]
theorem RV_lst : RV wd K mg r H (.lst xs) v ↔ ∃ a vs, v = .ref a ∧ OwnAt r H a vs ∧ RVs wd K mg r H xs vs := by simp [RV]
theorem RV_frl : RV wd K mg r H (.frl xs) v ↔ ∃ a vs, v = .ref a ∧ LstAt K r H a vs ∧ RVs wd K mg r H xs vs := by simp [RV]
theorem RV_obj {c : Str} {fs : List (Str × IV)} : RV wd K mg r H (.obj c fs) v ↔ ∃ a C dx gs, v = .ref a ∧ mg c = some (.ref C) ∧ a ∉ r ∧ H a = some (.ins C dx gs) ∧ RVf wd K mg r H fs gs := by simp [RV]
theorem RV_st {ks : List Key} : RV wd K mg r H (.st ks) v ↔ ∃ a S, v = .ref a ∧ a ∉ r ∧ H a = some (SetK wd.P wd.w a S ks.length) ∧ (∀ k, S k = ks.any fun j => decide (j = k)) ∧ ks.Nodup := by simp [RV]
theorem RV_ref {n : Nat} : RV wd K mg r H (.ref n) v ↔ ∃ a, v = .ref a ∧ r[n]? = some a := by simp [RV]
@[simp] theorem RVs_nil : RVs wd K mg r H [] vs ↔ vs = [] := by simp [RVs]
theorem RVs_cons : RVs wd K mg r H (x :: xs) vs ↔ ∃ v t, vs = v :: t ∧ RV wd K mg r H x v ∧ RVs wd K mg r H xs t := by simp [RVs]
theorem RVs.length : ∀ {xs : List IV} {vs : List V}, RVs wd K mg r H xs vs → xs.length = vs.length
  | [], _, q => by rw [RVs_nil] at q; subst q; rfl
  | x :: xs, _, q => by
    obtain ⟨v, t, rfl, _, q2⟩ := RVs_cons.mp q
    simp [q2.length]
theorem RVs.get : ∀ {xs : List IV} {vs : List V} {i : Nat} {x : IV}, RVs wd K mg r H xs vs → xs[i]? = some x → ∃ v, vs[i]? = some v ∧ RV wd K mg r H x v
  | [], _, _, _, _, e => by simp at e
  | y :: xs, _, 0, x, q, e => by
    obtain ⟨v, t, rfl, q1, _⟩ := RVs_cons.mp q
    simp at e; subst e; exact ⟨v, rfl, q1⟩
  | y :: xs, _, i + 1, x, q, e => by
    obtain ⟨v, t, rfl, _, q2⟩ := RVs_cons.mp q
    obtain ⟨w, e1, e2⟩ := q2.get (i := i) (x := x) (by simpa using e)
    exact ⟨w, by simpa using e1, e2⟩
theorem RVs.append : ∀ {xs ys : List IV} {vs us : List V}, RVs wd K mg r H xs vs → RVs wd K mg r H ys us → RVs wd K mg r H (xs ++ ys) (vs ++ us)
  | [], _, _, _, q, p => by rw [RVs_nil] at q; subst q; exact p
  | x :: xs, ys, _, us, q, p => by
    obtain ⟨v, t, rfl, q1, q2⟩ := RVs_cons.mp q
    exact RVs_cons.mpr ⟨v, t ++ us, rfl, q1, q2.append p⟩
theorem RVs.drop : ∀ (n : Nat) {xs : List IV} {vs : List V}, RVs wd K mg r H xs vs → RVs wd K mg r H (xs.drop n) (vs.drop n)
  | 0, _, _, q => q
  | n + 1, [], _, q => by rw [RVs_nil] at q; subst q; simp
  | n + 1, x :: xs, _, q => by
    obtain ⟨v, t, rfl, _, q2⟩ := RVs_cons.mp q
    exact q2.drop n
theorem RVs.take : ∀ (n : Nat) {xs : List IV} {vs : List V}, RVs wd K mg r H xs vs → RVs wd K mg r H (xs.take n) (vs.take n)
  | 0, _, _, q => by simp
  | n + 1, [], _, q => by rw [RVs_nil] at q; subst q; simp
  | n + 1, x :: xs, _, q => by
    obtain ⟨v, t, rfl, q1, q2⟩ := RVs_cons.mp q
    exact RVs_cons.mpr ⟨v, t.take n, rfl, q1, q2.take n⟩
theorem RVs.set : ∀ {xs : List IV} {vs : List V} (i : Nat), RVs wd K mg r H xs vs → RV wd K mg r H y u → RVs wd K mg r H (xs.set i y) (vs.set i u)
  | [], _, _, q, _ => by rw [RVs_nil] at q; subst q; simp
  | x :: xs, _, 0, q, p => by
    obtain ⟨v, t, rfl, q1, q2⟩ := RVs_cons.mp q
    exact RVs_cons.mpr ⟨u, t, rfl, p, q2⟩
  | x :: xs, _, i + 1, q, p => by
    obtain ⟨v, t, rfl, q1, q2⟩ := RVs_cons.mp q
    exact RVs_cons.mpr ⟨v, t.set i u, rfl, q1, q2.set i p⟩
theorem RVs.eraseIdx : ∀ {xs : List IV} {vs : List V} (i : Nat), RVs wd K mg r H xs vs → RVs wd K mg r H (xs.eraseIdx i) (vs.eraseIdx i)
  | [], _, _, q => by rw [RVs_nil] at q; subst q; simp
  | x :: xs, _, 0, q => by
    obtain ⟨v, t, rfl, q1, q2⟩ := RVs_cons.mp q
    exact q2
  | x :: xs, _, i + 1, q => by
    obtain ⟨v, t, rfl, q1, q2⟩ := RVs_cons.mp q
    exact RVs_cons.mpr ⟨v, t.eraseIdx i, rfl, q1, q2.eraseIdx i⟩
theorem RVs.snoc (q : RVs wd K mg r H xs vs) (p : RV wd K mg r H y u) : RVs wd K mg r H (xs ++ [y]) (vs ++ [u]) := q.append (RVs_cons.mpr ⟨u, [], rfl, p, by simp⟩)
theorem RVs.reverse : ∀ {xs : List IV} {vs : List V}, RVs wd K mg r H xs vs → RVs wd K mg r H xs.reverse vs.reverse
  | [], _, q => by rw [RVs_nil] at q; subst q; simp
  | x :: xs, _, q => by
    obtain ⟨v, t, rfl, q1, q2⟩ := RVs_cons.mp q
    rw [List.reverse_cons, List.reverse_cons]
    exact q2.reverse.snoc q1
theorem RVs.ints : ∀ {ns : List Int} {vs : List V}, RVs wd K mg r H (ns.map IV.int) vs → vs = ns.map V.int
  | [], _, q => by simpa using q
  | n :: ns, _, q => by
    obtain ⟨v, t, rfl, q1, q2⟩ := RVs_cons.mp q
    rw [RV_int] at q1
    rw [q1, q2.ints]; rfl
theorem RVs.of_ints : ∀ {ns : List Int}, RVs wd K mg r H (ns.map IV.int) (ns.map V.int)
  | [] => by simp
  | n :: ns => RVs_cons.mpr ⟨_, _, rfl, by simp, RVs.of_ints⟩
theorem RVs.strs : ∀ {ns : List Str} {vs : List V}, RVs wd K mg r H (ns.map IV.str) vs → vs = ns.map V.str
  | [], _, q => by simpa using q
  | n :: ns, _, q => by
    obtain ⟨v, t, rfl, q1, q2⟩ := RVs_cons.mp q
    rw [RV_str] at q1
    rw [q1, q2.strs]; rfl
theorem RVs.of_strs : ∀ {ns : List Str}, RVs wd K mg r H (ns.map IV.str) (ns.map V.str)
  | [] => by simp
  | n :: ns => RVs_cons.mpr ⟨_, _, rfl, by simp, RVs.of_strs⟩
theorem RVs.bls : ∀ {ns : List Bool} {vs : List V}, RVs wd K mg r H (ns.map IV.bl) vs → vs = ns.map V.bl
  | [], _, q => by simpa using q
  | n :: ns, _, q => by
    obtain ⟨v, t, rfl, q1, q2⟩ := RVs_cons.mp q
    rw [RV_bl] at q1
    rw [q1, q2.bls]; rfl
theorem TupAt.sq {a : Addr} (q : TupAt K r H a vs) : SqT K H a vs := by
  rcases q with ⟨_, q⟩ | q
  · exact .inl q
  · rcases q with q | q
    · rcases q with q | ⟨_, q⟩ <;> cases q
    · exact .inr q
theorem LstAt.sq {a : Addr} (q : LstAt K r H a vs) : SqL K H a vs := by
  rcases q with ⟨_, q⟩ | q
  · exact .inl q
  · rcases q with q | q
    · rcases q with q | ⟨_, q⟩ <;> cases q
    · exact .inr q
theorem OwnAt.sq {a : Addr} (q : OwnAt r H a vs) : SqL K H a vs := SqL.of q.2

/-- a value seen as a list or a tuple -/
def lstOf (h : Hv) : IV → Option (List IV)
  | .lst xs => some xs
  | .frl xs => some xs
  | .ref n => match h[n]? with | some (.lst xs) => some xs | _ => none
  | _ => none
def tupOf : IV → Option (List IV)
  | .tup xs => some xs
  | _ => none
/-- a list proper, not one that is locked -/
def ownOf (h : Hv) : IV → Option (List IV)
  | .lst xs => some xs
  | .ref n => match h[n]? with | some (.lst xs) => some xs | _ => none
  | _ => none
theorem lstOf_ok (S : HSim wd K mg r h H) (e : lstOf h x = some xs) (q : RV wd K mg r H x v) : ∃ a vs, v = .ref a ∧ SqL K H a vs ∧ RVs wd K mg r H xs vs := by
  cases x with
  | lst ys =>
    cases e
    obtain ⟨a, vs, e1, e2, e3⟩ := RV_lst.mp q
    exact ⟨a, vs, e1, e2.sq, e3⟩
  | frl ys =>
    cases e
    obtain ⟨a, vs, e1, e2, e3⟩ := RV_frl.mp q
    exact ⟨a, vs, e1, e2.sq, e3⟩
  | ref n =>
    obtain ⟨a, e1, e2⟩ := RV_ref.mp q
    obtain ⟨o, e3, e4⟩ := S.get e2
    simp only [lstOf, e3] at e
    cases o with
    | lst ys =>
      cases e
      obtain ⟨vs, e5, e6⟩ := e4
      exact ⟨a, vs, e1, SqL.of e5, e6⟩
    | _ => cases e
  | _ => cases e
theorem tupOf_ok (e : tupOf x = some xs) (q : RV wd K mg r H x v) : ∃ a vs, v = .ref a ∧ SqT K H a vs ∧ TupAt K r H a vs ∧ RVs wd K mg r H xs vs := by
  cases x with
  | tup ys =>
    cases e
    obtain ⟨a, vs, e1, e2, e3⟩ := RV_tup.mp q
    exact ⟨a, vs, e1, e2.sq, e2, e3⟩
  | _ => cases e
theorem ownOf_ok (S : HSim wd K mg r h H) (e : ownOf h x = some xs) (q : RV wd K mg r H x v) : ∃ a vs, v = .ref a ∧ H a = some (.lst vs) ∧ RVs wd K mg r H xs vs := by
  cases x with
  | lst ys =>
    cases e
    obtain ⟨a, vs, e1, e2, e3⟩ := RV_lst.mp q
    exact ⟨a, vs, e1, e2.2, e3⟩
  | ref n =>
    obtain ⟨a, e1, e2⟩ := RV_ref.mp q
    obtain ⟨o, e3, e4⟩ := S.get e2
    simp only [ownOf, e3] at e
    cases o with
    | lst ys =>
      cases e
      obtain ⟨vs, e5, e6⟩ := e4
      exact ⟨a, vs, e1, e5, e6⟩
    | _ => cases e
  | _ => cases e

/-- as plain data -/
def toD (h : Hv) : Nat → IV → Option PyData
  | 0, _ => none
  | _ + 1, .non => some .none
  | _ + 1, .bl b => some (.bool b)
  | _ + 1, .int i => some (.int i)
  | _ + 1, .str s => some (.str s)
  | n + 1, .tup xs => (xs.mapM (toD h n)).map .tuple
  | n + 1, x => match lstOf h x with
    | some xs => (xs.mapM (toD h n)).map .list
    | none => none
theorem toD_all {n : Nat} (ih : ∀ (x : IV) (v : V) (d : PyData), toD h n x = some d → RV wd K mg r H x v → Dp K H v d) : ∀ (xs : List IV) (vs : List V) (ds : List PyData), xs.mapM (toD h n) = some ds → RVs wd K mg r H xs vs → DpAll K H vs ds
  | [], vs, ds, e, q => by
    rw [RVs_nil] at q; subst q
    simp at e; subst e; exact .nil
  | x :: xs, vs, ds, e, q => by
    obtain ⟨v, t, rfl, q1, q2⟩ := RVs_cons.mp q
    simp only [List.mapM_cons, Option.bind_eq_bind, Option.bind_eq_some_iff] at e
    obtain ⟨d, e1, ds', e2, e3⟩ := e
    simp at e3
    subst e3
    exact .cons (ih x v d e1 q1) (toD_all ih xs t ds' e2 q2)
theorem toD_ok (S : HSim wd K mg r h H) : ∀ (n : Nat) (x : IV) (v : V) (d : PyData), toD h n x = some d → RV wd K mg r H x v → Dp K H v d
  | 0, _, _, _, e, _ => by simp [toD] at e
  | n + 1, .non, v, d, e, q => by rw [RV_non] at q; subst q; simp [toD] at e; subst e; exact .non
  | n + 1, .bl b, v, d, e, q => by rw [RV_bl] at q; subst q; simp [toD] at e; subst e; exact .bl b
  | n + 1, .int i, v, d, e, q => by rw [RV_int] at q; subst q; simp [toD] at e; subst e; exact .int i
  | n + 1, .str s, v, d, e, q => by rw [RV_str] at q; subst q; simp [toD] at e; subst e; exact .str s
  | n + 1, .tup xs, v, d, e, q => by
    obtain ⟨a, vs, rfl, e1, e2⟩ := RV_tup.mp q
    simp only [toD, Option.map_eq_some_iff] at e
    obtain ⟨ds, e3, rfl⟩ := e
    exact .tup e1.sq (toD_all (toD_ok S n) xs vs ds e3 e2)
  | n + 1, .lst ys, v, d, e, q => fin S n (.lst ys) v d (by simpa only [toD] using e) q (toD_ok S n)
  | n + 1, .frl ys, v, d, e, q => fin S n (.frl ys) v d (by simpa only [toD] using e) q (toD_ok S n)
  | n + 1, .ref i, v, d, e, q => fin S n (.ref i) v d (by simpa only [toD] using e) q (toD_ok S n)
  | n + 1, .obj c fs, v, d, e, q => fin S n (.obj c fs) v d (by simpa only [toD] using e) q (toD_ok S n)
where
  fin (S : HSim wd K mg r h H) (n : Nat) (x : IV) (v : V) (d : PyData) (e : (match lstOf h x with | some xs => (xs.mapM (toD h n)).map PyData.list | none => none) = some d) (q : RV wd K mg r H x v)
    (ih : ∀ (x : IV) (v : V) (d : PyData), toD h n x = some d → RV wd K mg r H x v → Dp K H v d) : Dp K H v d := by
    cases z : lstOf h x with
    | none => rw [z] at e; cases e
    | some xs =>
      rw [z] at e
      simp only [Option.map_eq_some_iff] at e
      obtain ⟨ds, e3, rfl⟩ := e
      obtain ⟨a, vs, rfl, e1, e2⟩ := lstOf_ok S z q
      exact .lst e1 (toD_all ih xs vs ds e3 e2)
end
end Hs
end

section
set_option Elab.async false
set_option linter.all false
set_option maxRecDepth 100000
set_option maxHeartbeats 4000000
namespace Hs
open PySem L2

/-! ### judgements at their best -/
section
variable {X : Cx} {e : Expr} {es : List Expr} {st : Stmt} {sts : List Stmt} {s : L2.St} {H : Hp}
def bE (X : Cx) (e : Expr) : TE := fun s H Q => ∀ pins sh, Inv X pins s H sh → wpAny (model X.prog X.w) X.A (eval e X.env) (EP X pins s Q) X.xe sh
def bT (X : Cx) (e : Expr) : TT := fun s H Q => ∀ pins sh, Inv X pins s H sh → wpAny (model X.prog X.w) X.A (isTrue e X.env (eval e X.env)) (TP X pins s Q) X.xe sh
def bW (X : Cx) (e : Expr) : TT := fun s H Q => ∀ whole pins sh, Inv X pins s H sh → wpAny (model X.prog X.w) X.A (isTrue e X.env whole) (TP X pins s Q) X.xe sh
def bA (X : Cx) (es : List Expr) : TA := fun s H Q => ∀ pos pins sh, Inv X pins s H sh → wpAny (model X.prog X.w) X.A (spliced (backTo pos (starEach es X.env))) (AP X pins s Q) X.xe sh
def bS (X : Cx) (st : Stmt) : TS := fun D s H => ∀ pins sh, Inv X pins s H sh → wpAny (model X.prog X.w) X.A (exec st X.env) (SP X pins D) X.xe sh
def bSs (X : Cx) (st : List Stmt) : TS := fun D s H => ∀ pins sh, Inv X pins s H sh → wpAny (model X.prog X.w) X.A (execs st X.env) (SP X pins D) X.xe sh
theorem pbE : PE X e (bE X e) := ⟨fun pins sh s H Q I h => h pins sh I⟩
theorem pbT : PT X e (bT X e) := ⟨fun pins sh s H Q I h => h pins sh I⟩
theorem pbW : PW X e (bW X e) := ⟨fun wh pins sh s H Q I h => h wh pins sh I⟩
theorem pbA : PA X es (bA X es) := ⟨fun pos pins sh s H Q I h => h pos pins sh I⟩
theorem pbS : PS X st (bS X st) := ⟨fun pins sh s H D I h => h pins sh I⟩
theorem pbSs : PSs X sts (bSs X sts) := ⟨fun pins sh s H D I h => h pins sh I⟩
theorem toE {t : TE} {Q : VK} (p : PE X e t) (h : t s H Q) : bE X e s H Q := fun pins sh I => p.run pins sh s H Q I h
theorem toT {t : TT} {Q : Bool → Hp → Prop} (p : PT X e t) (h : t s H Q) : bT X e s H Q := fun pins sh I => p.run pins sh s H Q I h
theorem toW {t : TT} {Q : Bool → Hp → Prop} (p : PW X e t) (h : t s H Q) : bW X e s H Q := fun wh pins sh I => p.run wh pins sh s H Q I h
theorem toA {t : TA} {Q : List V → Hp → Prop} (p : PA X es t) (h : t s H Q) : bA X es s H Q := fun pos pins sh I => p.run pos pins sh s H Q I h
theorem toS {t : TS} {D : Ends} (p : PS X st t) (h : t D s H) : bS X st D s H := fun pins sh I => p.run pins sh s H D I h
theorem toSs {t : TS} {D : Ends} (p : PSs X sts t) (h : t D s H) : bSs X sts D s H := fun pins sh I => p.run pins sh s H D I h
end

/-- the context: nothing is handled, no repr runs, exceptions pass, W is what is wanted of them -/
structure Cok (X : Cx) (W : WX) : Prop where
  calm : X.calm = true
  gd : X.A.guards = some []
  po : PassesOwn (model X.prog X.w) X.A X.env X.xe
  nd : X.N.Nodup
  un : X.A.units + 200 < cLine
  tk : Takes X W

abbrev ME := Loc → Hv → R IV
abbrev MB := Loc → Hv → R Bool
abbrev MA := Loc → Hv → R (List IV)
structure SimE (X : Cx) (W : WX) (e : Expr) (m : ME) : Prop where
  run : ∀ r l h s H Q, Sim X r l h s H → Pst X.wd X.K X.mg (RV X.wd X.K X.mg) r H (m l h) Q (fun c d H' => W c d s H') → bE X e s H Q
instance {X : Cx} {W : WX} {e : Expr} {m : ME} : CoeFun (SimE X W e m) (fun _ => ∀ r l h s H Q, Sim X r l h s H → Pst X.wd X.K X.mg (RV X.wd X.K X.mg) r H (m l h) Q (fun c d H' => W c d s H') → bE X e s H Q) := ⟨fun q => q.run⟩
structure SimT (X : Cx) (W : WX) (e : Expr) (m : MB) : Prop where
  run : ∀ r l h s H Q, Sim X r l h s H → Pst X.wd X.K X.mg LB r H (m l h) Q (fun c d H' => W c d s H') → bT X e s H Q
instance {X : Cx} {W : WX} {e : Expr} {m : MB} : CoeFun (SimT X W e m) (fun _ => ∀ r l h s H Q, Sim X r l h s H → Pst X.wd X.K X.mg LB r H (m l h) Q (fun c d H' => W c d s H') → bT X e s H Q) := ⟨fun q => q.run⟩
structure SimW (X : Cx) (W : WX) (e : Expr) (m : MB) : Prop where
  run : ∀ r l h s H Q, Sim X r l h s H → Pst X.wd X.K X.mg LB r H (m l h) Q (fun c d H' => W c d s H') → bW X e s H Q
instance {X : Cx} {W : WX} {e : Expr} {m : MB} : CoeFun (SimW X W e m) (fun _ => ∀ r l h s H Q, Sim X r l h s H → Pst X.wd X.K X.mg LB r H (m l h) Q (fun c d H' => W c d s H') → bW X e s H Q) := ⟨fun q => q.run⟩
structure SimA (X : Cx) (W : WX) (es : List Expr) (m : MA) : Prop where
  run : ∀ r l h s H Q, Sim X r l h s H → Pst X.wd X.K X.mg (RVs X.wd X.K X.mg) r H (m l h) Q (fun c d H' => W c d s H') → bA X es s H Q
instance {X : Cx} {W : WX} {es : List Expr} {m : MA} : CoeFun (SimA X W es m) (fun _ => ∀ r l h s H Q, Sim X r l h s H → Pst X.wd X.K X.mg (RVs X.wd X.K X.mg) r H (m l h) Q (fun c d H' => W c d s H') → bA X es s H Q) := ⟨fun q => q.run⟩

section
variable {X : Cx} {W : WX} {e a b c : Expr} {es : List Expr} {m ma mb mc : ME} {pos : Pos} {r : List Addr} {l : Loc} {h : Hv} {s : L2.St} {H : Hp}
variable {A B C D : Type} {M : List Addr → Hp → C → D → Prop}
theorem Pst.bind' {wd : Wd} {K : PySem.W.Frag} {mg : Str → Option Value} {L : List Addr → Hp → A → B → Prop} {res : R A} {k : A → Hv → R C} {Q : D → Hp → Prop} {Q' : B → Hp → Prop} {W : XK}
    (p : Pst wd K mg M r H (bindR res k) Q W) (hk : ∀ x h1 r1 H1 v, res = .ok x h1 → Nxt r H r1 H1 → HSim wd K mg r1 h1 H1 → L r1 H1 x v → Pst wd K mg M r1 H1 (k x h1) Q W → Q' v H1) : Pst wd K mg L r H res Q' W := by
  cases res with
  | ok x h' => exact fun r' H' v n' S q => hk x h' r' H' v rfl n' S q (Pst.mono (res := k x h') p n')
  | exc c fs h' => exact p
  | bad => exact p
theorem SimE.thn (q : SimE X W e m) (S : Sim X r l h s H) {k : IV → Hv → R C} {Q : D → Hp → Prop} {Q' : VK} (p : Pst X.wd X.K X.mg M r H (bindR (m l h) k) Q (fun c d H' => W c d s H'))
    (hk : ∀ x h1 r1 H1 v, m l h = .ok x h1 → Sim X r1 l h1 s H1 → Nxt r H r1 H1 → RV X.wd X.K X.mg r1 H1 x v → Pst X.wd X.K X.mg M r1 H1 (k x h1) Q (fun c d H' => W c d s H') → Q' v H1) : bE X e s H Q' :=
  q r l h s H Q' S (p.bind' fun x h1 r1 H1 v e1 n1 S1 q1 p1 => hk x h1 r1 H1 v e1 (S.next n1 S1) n1 q1 p1)
theorem SimT.thn {m : MB} (q : SimT X W e m) (S : Sim X r l h s H) {k : Bool → Hv → R C} {Q : D → Hp → Prop} {Q' : Bool → Hp → Prop} (p : Pst X.wd X.K X.mg M r H (bindR (m l h) k) Q (fun c d H' => W c d s H'))
    (hk : ∀ x h1 r1 H1, m l h = .ok x h1 → Sim X r1 l h1 s H1 → Nxt r H r1 H1 → Pst X.wd X.K X.mg M r1 H1 (k x h1) Q (fun c d H' => W c d s H') → Q' x H1) : bT X e s H Q' :=
  q r l h s H Q' S (p.bind' fun x h1 r1 H1 v e1 n1 S1 q1 p1 => by cases q1; exact hk x h1 r1 H1 e1 (S.next n1 S1) n1 p1)
theorem SimA.thn {m : MA} (q : SimA X W es m) (S : Sim X r l h s H) {k : List IV → Hv → R C} {Q : D → Hp → Prop} {Q' : List V → Hp → Prop} (p : Pst X.wd X.K X.mg M r H (bindR (m l h) k) Q (fun c d H' => W c d s H'))
    (hk : ∀ x h1 r1 H1 v, m l h = .ok x h1 → Sim X r1 l h1 s H1 → Nxt r H r1 H1 → RVs X.wd X.K X.mg r1 H1 x v → Pst X.wd X.K X.mg M r1 H1 (k x h1) Q (fun c d H' => W c d s H') → Q' v H1) : bA X es s H Q' :=
  q r l h s H Q' S (p.bind' fun x h1 r1 H1 v e1 n1 S1 q1 p1 => hk x h1 r1 H1 v e1 (S.next n1 S1) n1 q1 p1)
end

/-! ### ends of single steps -/
section
variable {wd : Wd} {K : PySem.W.Frag} {mg : Str → Option Value} {r : List Addr} {h : Hv} {H : Hp} {x : IV} {v : V} {xs : List IV} {vs : List V} {Q : VK} {W : XK} {p : Addr} {o : HO}
theorem nxt_alloc (S : HSim wd K mg r h H) (hp : H p = none) : Nxt r H (r ++ [p]) (upd H p o) := by
  have hne : ∀ a u, H a = some u → a ≠ p := fun a u e => ne_of_none e hp
  refine ⟨⟨[p], rfl, by simp [hp]⟩, fun a u e _ => by rw [upd_ne (hne a u e)]; exact e, fun a ha => ?_, fun a o' u e => by rw [upd_ne (hne a _ e)]; exact e⟩
  rcases List.mem_append.mp ha with q | q
  · obtain ⟨u, e⟩ := S.live a q
    exact ⟨u, by rw [upd_ne (hne a u e)]; exact e⟩
  · have : a = p := by simpa using q
    subst this; exact ⟨o, upd_same⟩
theorem Pst.done (q : Pst wd K mg (RV wd K mg) r H (.ok x h) Q W) (S : HSim wd K mg r h H) (e : RV wd K mg r H x v) : Q v H := q r H v (Nxt.refl S) S e
theorem Pst.newT (q : Pst wd K mg (RV wd K mg) r H (.ok (.tup xs) h) Q W) (S : HSim wd K mg r h H) (e : RVs wd K mg r H xs vs) (hp : H p = none) : Q (.ref p) (upd H p (.tup vs)) := by
  obtain ⟨n, S'⟩ := S.grow (o := .tup vs) hp
  exact q r _ _ n S' (RV_tup.mpr ⟨p, vs, rfl, .inl ⟨S.fresh hp, .inl upd_same⟩, RVs.mono n _ _ e⟩)
theorem Pst.newL (q : Pst wd K mg (RV wd K mg) r H (.ok (.ref h.length) (h ++ [.lst xs])) Q W) (S : HSim wd K mg r h H) (e : RVs wd K mg r H xs vs) (hp : H p = none) : Q (.ref p) (upd H p (.lst vs)) := by
  have n := nxt_alloc (o := .lst vs) S hp
  obtain ⟨_, S'⟩ := S.alloc (o := .lst vs) (ob := .lst xs) hp ⟨vs, upd_same, RVs.mono n _ _ e⟩
  exact q _ _ _ n S' (RV_ref.mpr ⟨p, rfl, by rw [← S.len]; simp⟩)
theorem Pst.newD {kvs : List (Key × IV)} {ws : List (Key × V)} (q : Pst wd K mg (RV wd K mg) r H (.ok (.ref h.length) (h ++ [.dct kvs])) Q W) (S : HSim wd K mg r h H) (e1 : kvs.map (·.1) = ws.map (·.1)) (e : RVs wd K mg r H (kvs.map (·.2)) (ws.map (·.2))) (hp : H p = none) : Q (.ref p) (upd H p (.dK ws)) := by
  have n := nxt_alloc (o := .dK ws) S hp
  obtain ⟨_, S'⟩ := S.alloc (o := .dK ws) (ob := .dct kvs) hp ⟨ws, upd_same, e1, RVs.mono n _ _ e⟩
  exact q _ _ _ n S' (RV_ref.mpr ⟨p, rfl, by rw [← S.len]; simp⟩)
end

/-! ### names, constants -/
section
variable {X : Cx} {W : WX} {pos : Pos}
def cM (x : IV) : ME := fun _ h => .ok x h
def varM (i : Nat) : ME := fun l h => match l[i]? with | some (some x) => .ok x h | _ => .bad
theorem sim_var (i : Nat) {x : Str} (hN : X.N[i]? = some x := by rfl) (hv : Vis X.env.scope x := by first | exact Or.inl rfl | exact Or.inr (Or.inl rfl) | exact Or.inr (Or.inr rfl)) (hd : (x == ("__debug__" : Str)) = false := by decide +kernel)
    (hcd : (x == ("__classdict__" : Str)) = false := by decide +kernel) : SimE X W (.Name x pos) (varM i) := by
  refine ⟨fun r l h s H Q S p => ?_⟩
  refine toE (pe_var hN hv hd hcd) ?_
  cases e : l[i]? with
  | none => simp [varM, e, Pst] at p
  | some o =>
    cases o with
    | none => simp [varM, e, Pst] at p
    | some x =>
      simp only [varM, e] at p
      obtain ⟨v, e1, e2⟩ := S.lo.2 i x e
      exact ⟨v, e1, p.done S.hs e2⟩
theorem sim_int {i : Int} {j : Nat} : SimE X W (.Constant (.int i) j pos) (cM (.int i)) := ⟨fun r l h s H Q S p => toE pe_int (p.done S.hs (by simp))⟩
theorem sim_bl {i : Bool} {j : Nat} : SimE X W (.Constant (.bool i) j pos) (cM (.bl i)) := ⟨fun r l h s H Q S p => toE pe_bl (p.done S.hs (by simp))⟩
theorem sim_non {j : Nat} : SimE X W (.Constant .none j pos) (cM .non) := ⟨fun r l h s H Q S p => toE pe_non (p.done S.hs (by simp))⟩
theorem sim_str {i : Str} {j : Nat} : SimE X W (.Constant (.str i) j pos) (cM (.str i)) := ⟨fun r l h s H Q S p => toE pe_str (p.done S.hs (by simp))⟩
/-- a global constant -/
def GC (wd : Wd) (K : PySem.W.Frag) (mg : Str → Option Value) (x : Str) (y : IV) : Prop := ∃ u v, mg x = some u ∧ RelV v u ∧ ∀ r H, RV wd K mg r H y v
theorem sim_glob {x : Str} {y : IV} (g : GC X.wd X.K X.mg x y) (hg : Gl X x := by rfl) (hd : (x == ("__debug__" : Str)) = false := by decide +kernel) : SimE X W (.Name x pos) (cM y) := by
  obtain ⟨u, v, e1, e2, e3⟩ := g
  exact ⟨fun r l h s H Q S p => toE (pe_glob hg e1 e2 hd) (p.done S.hs (e3 r H))⟩
end

/-! ### two operands -/
def bin (g : IV → IV → Hv → R IV) (ma mb : ME) : ME := fun l h => bindR (ma l h) fun x h1 => bindR (mb l h1) fun y h2 => g x y h2
structure OpS (X : Cx) (r2 : R2) (g : IV → IV → Hv → R IV) : Prop where
  run : ∀ r h H x y v u Q W, HSim X.wd X.K X.mg r h H → RV X.wd X.K X.mg r H x v → RV X.wd X.K X.mg r H y u → Pst X.wd X.K X.mg (RV X.wd X.K X.mg) r H (g x y h) Q W → r2 v u H Q
instance {X : Cx} {r2 : R2} {g : IV → IV → Hv → R IV} : CoeFun (OpS X r2 g) (fun _ => ∀ r h H x y v u Q W, HSim X.wd X.K X.mg r h H → RV X.wd X.K X.mg r H x v → RV X.wd X.K X.mg r H y u → Pst X.wd X.K X.mg (RV X.wd X.K X.mg) r H (g x y h) Q W → r2 v u H Q) := ⟨fun q => q.run⟩
section
variable {X : Cx} {W : WX} {a b c : Expr} {ma mb mc : ME} {pos : Pos} {r2 r3 : R2} {g g' : IV → IV → Hv → R IV}
theorem op_go (hg : OpS X r2 g) (ha : SimE X W a ma) (hb : SimE X W b mb) {r : List Addr} {l : Loc} {h : Hv} {s : L2.St} {H : Hp} {Q : VK} (S : Sim X r l h s H)
    (p : Pst X.wd X.K X.mg (RV X.wd X.K X.mg) r H (bin g ma mb l h) Q (fun c d H' => W c d s H')) : tOp r2 (bE X a) (bE X b) s H Q := by
  refine ha.thn S p fun x h1 r1 H1 v _ S1 n1 q1 p1 => ?_
  refine hb.thn S1 p1 fun y h2 r2 H2 u _ S2 n2 q2 p2 => ?_
  exact hg _ _ _ _ _ _ _ _ _ S2.hs (RV.mono n2 _ _ q1) q2 p2
theorem sim_op {op : Operator} (ho : OpR X (binaryOp op) r2) (hg : OpS X r2 g) (ha : SimE X W a ma) (hb : SimE X W b mb) : SimE X W (.BinOp a op b pos) (bin g ma mb) :=
  ⟨fun _ _ _ _ _ _ S p => toE (pe_op ho pbE pbE) (op_go hg ha hb S p)⟩
theorem sim_cmp {op : CmpOp} (ho : OpR X (compareOp op) r2) (hg : OpS X r2 g) (ha : SimE X W a ma) (hb : SimE X W b mb) (hm : behindInMarks op b = false := by first | exact nomark _ | rfl) : SimE X W (.Compare a [op] [b] pos) (bin g ma mb) :=
  ⟨fun _ _ _ _ _ _ S p => toE (pe_cmpR ho pbE pbE hm) (op_go hg ha hb S p)⟩
/-- a value that is a bool -/
def asB (x : IV) (h : Hv) : R Bool := match x with | .bl k => .ok k h | _ => .bad
def tst (m : ME) : MB := fun l h => bindR (m l h) asB
theorem asB_go {wd : Wd} {K : PySem.W.Frag} {mg : Str → Option Value} {r : List Addr} {H : Hp} {h : Hv} {x : IV} {v : V} {Q : Bool → Hp → Prop} {W : XK} (S : HSim wd K mg r h H) (q : RV wd K mg r H x v) (p : Pst wd K mg LB r H (asB x h) Q W) : ∃ k, v = .bl k ∧ Q k H := by
  cases x with
  | bl k => exact ⟨k, by simpa using q, p r H k (Nxt.refl S) S rfl⟩
  | _ => exact p.elim
theorem simt_cmp {op : CmpOp} (ho : OpR X (compareOp op) r2) (hg : OpS X r2 g) (ha : SimE X W a ma) (hb : SimE X W b mb) (hm : behindInMarks op b = false := by first | exact nomark _ | rfl) : SimT X W (.Compare a [op] [b] pos) (tst (bin g ma mb)) := by
  refine ⟨fun r l h s H Q S p => ?_⟩
  refine toT (pt_cmpR ho pbE pbE hm) ?_
  refine op_go hg ha hb S (Pst.bind' p fun x h1 r1 H1 v _ n1 S1 q1 p1 => ?_)
  exact asB_go S1 q1 p1
/-- a < b < c -/
def chain (g g' : IV → IV → Hv → R IV) (ma mb mc : ME) : ME := fun l h => bindR (ma l h) fun x h1 => bindR (mb l h1) fun y h2 => bindR (g x y h2) fun z h3 => bindR (asB z h3) fun k h4 =>
  if k = true then bindR (mc l h4) fun w h5 => g' y w h5 else .ok (.bl false) h4
theorem chain_go (hg : OpS X r2 g) (hg' : OpS X r3 g') (ha : SimE X W a ma) (hb : SimE X W b mb) (hc : SimE X W c mc) {r : List Addr} {l : Loc} {h : Hv} {s : L2.St} {H : Hp} {Q : VK} (S : Sim X r l h s H)
    (p : Pst X.wd X.K X.mg (RV X.wd X.K X.mg) r H (chain g g' ma mb mc l h) Q (fun c d H' => W c d s H')) : tChain r2 r3 (bE X a) (bE X b) (bE X c) s H Q := by
  refine ha.thn S p fun x h1 z1 H1 v _ S1 n1 q1 p1 => ?_
  refine hb.thn S1 p1 fun y h2 z2 H2 u _ S2 n2 q2 p2 => ?_
  refine hg _ _ _ _ _ _ _ _ _ S2.hs (RV.mono n2 _ _ q1) q2 (p2.bind' fun z h3 z3 H3 w _ n3 S3 q3 p3 => ?_)
  refine asB_go (Q := fun k H3 => if k = true then bE X c s H3 fun w' H4 => r3 u w' H4 Q else Q (V.bl false) H3) S3 q3 (p3.bind' fun k h4 z4 H4 k' _ n4 S4 q4 p4 => ?_)
  cases q4
  cases k with
  | true =>
    rw [if_pos rfl] at p4 ⊢
    refine hc.thn (S2.next (n3.trans n4) S4) p4 fun w h5 z5 H5 w' _ S5 n5 q5 p5 => ?_
    exact hg' _ _ _ _ _ _ _ _ _ S5.hs (RV.mono ((n3.trans n4).trans n5) _ _ q2) q5 p5
  | false =>
    rw [if_neg Bool.false_ne_true] at p4 ⊢
    exact p4.done S4 (by simp)
theorem sim_chain {op op' : CmpOp} (ho : OpR X (compareOp op) r2) (ho' : OpR X (compareOp op') r3) (hg : OpS X r2 g) (hg' : OpS X r3 g') (ha : SimE X W a ma) (hb : SimE X W b mb) (hc : SimE X W c mc)
    (hm : lastMarks [op, op'] [b, c] = false := by with_unfolding_all rfl) : SimE X W (.Compare a [op, op'] [b, c] pos) (chain g g' ma mb mc) :=
  ⟨fun _ _ _ _ _ _ S p => toE (pe_chain ho ho' pbE pbE pbE hm) (chain_go hg hg' ha hb hc S p)⟩
theorem simt_chain {op op' : CmpOp} (ho : OpR X (compareOp op) r2) (ho' : OpR X (compareOp op') r3) (hg : OpS X r2 g) (hg' : OpS X r3 g') (ha : SimE X W a ma) (hb : SimE X W b mb) (hc : SimE X W c mc)
    (hm : lastMarks [op, op'] [b, c] = false := by with_unfolding_all rfl) : SimT X W (.Compare a [op, op'] [b, c] pos) (tst (chain g g' ma mb mc)) := by
  refine ⟨fun r l h s H Q S p => ?_⟩
  refine toT (pt_chain ho ho' pbE pbE pbE hm) ?_
  refine chain_go hg hg' ha hb hc S (Pst.bind' p fun x h1 r1 H1 v _ n1 S1 q1 p1 => ?_)
  exact asB_go S1 q1 p1
end
/-! ### and, or, not, if -/
section
variable {X : Cx} {W : WX} {a b c : Expr} {rest : List Expr} {ma mb mc : ME} {ta tb tc : MB} {pos : Pos}
def andT (t u : MB) : MB := fun l h => bindR (t l h) fun k h1 => if k = true then u l h1 else .ok false h1
def orT (t u : MB) : MB := fun l h => bindR (t l h) fun k h1 => if k = true then .ok true h1 else u l h1
def notT (t : MB) : MB := fun l h => bindR (t l h) fun k h1 => .ok (!k) h1
def ifM (t : MB) (m n : ME) : ME := fun l h => bindR (t l h) fun k h1 => if k = true then m l h1 else n l h1
def bM (t : MB) : ME := fun l h => bindR (t l h) fun k h1 => .ok (.bl k) h1
theorem doneB {wd : Wd} {K : PySem.W.Frag} {mg : Str → Option Value} {r : List Addr} {H : Hp} {h : Hv} {k : Bool} {Q : Bool → Hp → Prop} {W : XK} (p : Pst wd K mg LB r H (.ok k h) Q W) (S : HSim wd K mg r h H) : Q k H := p r H k (Nxt.refl S) S rfl
theorem simw_and1 (ha : SimT X W a ta) : SimW X W (.BoolOp .And [a] pos) ta := ⟨fun r l h s H Q S p => toW (pw_and1 pbT) (ha r l h s H Q S p)⟩
theorem simw_or1 (ha : SimT X W a ta) : SimW X W (.BoolOp .Or [a] pos) ta := ⟨fun r l h s H Q S p => toW (pw_or1 pbT) (ha r l h s H Q S p)⟩
theorem simw_and (ha : SimT X W a ta) (hb : SimW X W (.BoolOp .And (b :: rest) pos) tb) : SimW X W (.BoolOp .And (a :: b :: rest) pos) (andT ta tb) := by
  refine ⟨fun r l h s H Q S p => ?_⟩
  refine toW (pw_and pbT pbW) ?_
  refine ha.thn S p fun k h1 r1 H1 _ S1 n1 p1 => ?_
  cases k with
  | true => rw [if_pos rfl] at p1 ⊢; exact hb _ _ _ _ _ _ S1 p1
  | false => rw [if_neg Bool.false_ne_true] at p1 ⊢; exact doneB p1 S1.hs
theorem simw_or (ha : SimT X W a ta) (hb : SimW X W (.BoolOp .Or (b :: rest) pos) tb) : SimW X W (.BoolOp .Or (a :: b :: rest) pos) (orT ta tb) := by
  refine ⟨fun r l h s H Q S p => ?_⟩
  refine toW (pw_or pbT pbW) ?_
  refine ha.thn S p fun k h1 r1 H1 _ S1 n1 p1 => ?_
  cases k with
  | true => rw [if_pos rfl] at p1 ⊢; exact doneB p1 S1.hs
  | false => rw [if_neg Bool.false_ne_true] at p1 ⊢; exact hb _ _ _ _ _ _ S1 p1
theorem SimW.t (q : SimW X W a ta) : SimT X W a ta := ⟨fun r l h s H Q S p pins sh I => q r l h s H Q S p _ pins sh I⟩
theorem simt_not (ha : SimT X W a ta) : SimT X W (.UnaryOp .Not a pos) (notT ta) := by
  refine ⟨fun r l h s H Q S p => ?_⟩
  refine toT (pt_not pbT) ?_
  exact ha.thn S p fun k h1 r1 H1 _ S1 n1 p1 => doneB p1 S1.hs
theorem sim_if {c : Expr} (hc : SimT X W c tc) (ha : SimE X W a ma) (hb : SimE X W b mb) : SimE X W (.IfExp c a b pos) (ifM tc ma mb) := by
  refine ⟨fun r l h s H Q S p => ?_⟩
  refine toE (pe_ifExp pbT pbE pbE) ?_
  refine hc.thn S p fun k h1 r1 H1 _ S1 n1 p1 => ?_
  cases k with
  | true => rw [if_pos rfl] at p1 ⊢; exact ha _ _ _ _ _ _ S1 p1
  | false => rw [if_neg Bool.false_ne_true] at p1 ⊢; exact hb _ _ _ _ _ _ S1 p1
/-- as values: all but the last give bools -/
def andM (m n : ME) : ME := fun l h => bindR (m l h) fun x h1 => bindR (asB x h1) fun k h2 => if k = true then n l h2 else .ok (.bl false) h2
def orM (m n : ME) : ME := fun l h => bindR (m l h) fun x h1 => bindR (asB x h1) fun k h2 => if k = true then .ok (.bl true) h2 else n l h2
def notM (m : ME) : ME := fun l h => bindR (m l h) fun x h1 => bindR (asB x h1) fun k h2 => .ok (.bl (!k)) h2
theorem sim_one {op : BoolOp} (ha : SimE X W a ma) : SimE X W (.BoolOp op [a] pos) ma := ⟨fun r l h s H Q S p => toE (pe_one pbE) (ha _ _ _ _ _ _ S p)⟩
theorem sim_and (ha : SimE X W a ma) (hb : SimE X W (.BoolOp .And (b :: rest) pos) mb) : SimE X W (.BoolOp .And (a :: b :: rest) pos) (andM ma mb) := by
  refine ⟨fun r l h s H Q S p => ?_⟩
  refine toE (pe_and pbE pbE) ?_
  refine ha.thn S p fun x h1 r1 H1 v _ S1 n1 q1 p1 => ?_
  refine asB_go (Q := fun k H1 => if k = true then bE X (.BoolOp .And (b :: rest) pos) s H1 Q else Q (V.bl false) H1) S1.hs q1 (p1.bind' fun k h2 r2 H2 k' _ n2 S2 q2 p2 => ?_)
  cases q2
  cases k with
  | true => rw [if_pos rfl] at p2 ⊢; exact hb _ _ _ _ _ _ (S1.next n2 S2) p2
  | false => rw [if_neg Bool.false_ne_true] at p2 ⊢; exact p2.done S2 (by simp)
theorem sim_or (ha : SimE X W a ma) (hb : SimE X W (.BoolOp .Or (b :: rest) pos) mb) : SimE X W (.BoolOp .Or (a :: b :: rest) pos) (orM ma mb) := by
  refine ⟨fun r l h s H Q S p => ?_⟩
  refine toE (pe_or pbE pbE) ?_
  refine ha.thn S p fun x h1 r1 H1 v _ S1 n1 q1 p1 => ?_
  refine asB_go (Q := fun k H1 => if k = true then Q (V.bl true) H1 else bE X (.BoolOp .Or (b :: rest) pos) s H1 Q) S1.hs q1 (p1.bind' fun k h2 r2 H2 k' _ n2 S2 q2 p2 => ?_)
  cases q2
  cases k with
  | true => rw [if_pos rfl] at p2 ⊢; exact p2.done S2 (by simp)
  | false => rw [if_neg Bool.false_ne_true] at p2 ⊢; exact hb _ _ _ _ _ _ (S1.next n2 S2) p2
theorem sim_not (ha : SimE X W a ma) : SimE X W (.UnaryOp .Not a pos) (notM ma) := by
  refine ⟨fun r l h s H Q S p => ?_⟩
  refine toE (pe_not pbE) ?_
  refine ha.thn S p fun x h1 r1 H1 v _ S1 n1 q1 p1 => ?_
  refine asB_go S1.hs q1 (p1.bind' fun k h2 r2 H2 k' _ n2 S2 q2 p2 => ?_)
  cases q2
  exact p2.done S2 (by simp)
/-- truth of a value -/
def truI (x : IV) (h : Hv) : R Bool := match x with
  | .non => .ok false h
  | .bl k => .ok k h
  | .int i => .ok (i != 0) h
  | .str y => if y.length ≤ sizeLine then .ok ((y.length : Int) != 0) h else .bad
  | .tup xs => .ok (!xs.isEmpty) h
  | x => match lstOf h x with | some xs => .ok (!xs.isEmpty) h | none => .bad
def truM (m : ME) : MB := fun l h => bindR (m l h) truI
theorem isEmpty_len {A B : Type} {xs : List A} {ys : List B} (h : xs.length = ys.length) : xs.isEmpty = ys.isEmpty := by
  cases xs <;> cases ys <;> simp_all
theorem truI_go {wd : Wd} {K : PySem.W.Frag} {mg : Str → Option Value} {r : List Addr} {H : Hp} {h : Hv} {x : IV} {v : V} {Q : Bool → Hp → Prop} {W : XK} (S : HSim wd K mg r h H) (q : RV wd K mg r H x v) (p : Pst wd K mg LB r H (truI x h) Q W) : ∃ k, TruV K v H k ∧ Q k H := by
  have fin : ∀ (p : Pst wd K mg LB r H (match lstOf h x with | some xs => .ok (!xs.isEmpty) h | none => .bad) Q W), ∃ k, TruV K v H k ∧ Q k H := fun p => by
    cases e : lstOf h x with
    | none => rw [e] at p; exact p.elim
    | some xs =>
      rw [e] at p
      obtain ⟨a, vs, rfl, e1, e2⟩ := lstOf_ok S e q
      exact ⟨_, .inl ⟨vs, e1, by rw [isEmpty_len e2.length]⟩, doneB p S⟩
  cases x with
  | non => rw [RV_non] at q; subst q; exact ⟨false, rfl, doneB p S⟩
  | bl k => rw [RV_bl] at q; subst q; exact ⟨k, rfl, doneB p S⟩
  | int i => rw [RV_int] at q; subst q; exact ⟨_, rfl, doneB p S⟩
  | str y =>
    rw [RV_str] at q; subst q
    simp only [truI] at p
    split at p
    · rename_i hy; exact ⟨_, ⟨hy, rfl⟩, doneB p S⟩
    · exact p.elim
  | tup xs =>
    obtain ⟨a, vs, rfl, e1, e2⟩ := RV_tup.mp q
    exact ⟨_, .inr (.inl ⟨vs, e1.sq, by rw [isEmpty_len e2.length]⟩), doneB p S⟩
  | lst xs => exact fin p
  | frl xs => exact fin p
  | obj c fs => exact fin p
  | st ks => exact fin p
  | ref n => exact fin p
theorem simt_tru (ha : SimE X W a ma) (he : ∀ whole, isTrue a X.env whole = (do let v ← whole; standAt a.pos; holding [v] (truthy v)) := by intro _; rfl) : SimT X W a (truM ma) := by
  refine ⟨fun r l h s H Q S p => ?_⟩
  refine toT (pt_truth pbE he) ?_
  exact ha.thn S p fun x h1 r1 H1 v _ S1 n1 q1 p1 => truI_go S1.hs q1 p1
end
end Hs
end

section
set_option Elab.async false
set_option linter.all false
set_option maxRecDepth 100000
set_option maxHeartbeats 4000000
namespace Hs
open PySem L2

/-! ### operators on values -/
def addI (x y : IV) (h : Hv) : R IV :=
  match x, y with
  | .int i, .int j => .ok (.int (i + j)) h
  | .str a, .str b => if a.length + b.length ≤ sizeLine then .ok (.str (a ++ b)) h else .bad
  | .tup xs, .tup ys => if xs.length + ys.length ≤ sizeLine then .ok (.tup (xs ++ ys)) h else .bad
  | x, y => match ownOf h x, ownOf h y with
    | some xs, some ys => if xs.length + ys.length ≤ sizeLine then .ok (.ref h.length) (h ++ [.lst (xs ++ ys)]) else .bad
    | _, _ => .bad
def subI (x y : IV) (h : Hv) : R IV := match x, y with | .int i, .int j => .ok (.int (i - j)) h | _, _ => .bad
def mulI (x y : IV) (h : Hv) : R IV :=
  match x, y with
  | .int i, .int j => if (-(2 ^ 64) < i ∧ i < 2 ^ 64) ∨ (-(2 ^ 64) < j ∧ j < 2 ^ 64) then .ok (.int (i * j)) h else .bad
  | x, .int k => match ownOf h x with
    | some xs => if -(2 ^ 63) ≤ k ∧ k < 2 ^ 63 ∧ xs.length * k.toNat ≤ sizeLine then .ok (.ref h.length) (h ++ [.lst (List.replicate k.toNat xs).flatten]) else .bad
    | none => .bad
  | _, _ => .bad
def fdivI (x y : IV) (h : Hv) : R IV := match x, y with | .int i, .int j => if 0 < j ∧ j < 1073741824 then .ok (.int (i / j)) h else .bad | _, _ => .bad
def modI (x y : IV) (h : Hv) : R IV := match x, y with | .int i, .int j => if 0 < j then .ok (.int (i % j)) h else .bad | _, _ => .bad
def powI (x y : IV) (h : Hv) : R IV := match x, y with | .int i, .int j => if 0 ≤ j ∧ j ≤ 1000000 ∧ i.natAbs < 2 ^ 64 then .ok (.int (i ^ j.toNat)) h else .bad | _, _ => .bad
def ltI (x y : IV) (h : Hv) : R IV := match x, y with | .int i, .int j => .ok (.bl (decide (i < j))) h | _, _ => .bad
def leI (x y : IV) (h : Hv) : R IV := match x, y with | .int i, .int j => .ok (.bl (decide (i ≤ j))) h | _, _ => .bad
def gtI (x y : IV) (h : Hv) : R IV := match x, y with | .int i, .int j => .ok (.bl (decide (j < i))) h | _, _ => .bad
def geI (x y : IV) (h : Hv) : R IV := match x, y with | .int i, .int j => .ok (.bl (decide (j ≤ i))) h | _, _ => .bad
def isNon : IV → Bool | .non => true | _ => false
def isI (x y : IV) (h : Hv) : R IV := if isNon y then .ok (.bl (isNon x)) h else .bad
def isNotI (x y : IV) (h : Hv) : R IV := if isNon y then .ok (.bl (!isNon x)) h else .bad
/-- plain data compared -/
def eqI (x y : IV) (h : Hv) : R IV := match toD h 16 x, toD h 16 y with
  | some d, some e => if SeqAt.shaped d && SeqAt.shaped e then .ok (.bl (PyData.eqv d e)) h else .bad
  | _, _ => .bad
def neI (x y : IV) (h : Hv) : R IV := match toD h 16 x, toD h 16 y with
  | some d, some e => if SeqAt.shaped d && SeqAt.shaped e then .ok (.bl (!PyData.eqv d e)) h else .bad
  | _, _ => .bad
def flatI : IV → Bool | .non => true | .bl _ => true | .int _ => true | .str _ => true | _ => false
def eqF : IV → IV → Bool
  | .non, .non => true
  | .bl a, .bl b => a == b
  | .bl a, .int b => (if a then 1 else 0) == b
  | .int a, .bl b => a == (if b then 1 else 0)
  | .int a, .int b => a == b
  | .str a, .str b => a == b
  | _, _ => false
def seqOf (h : Hv) (x : IV) : Option (List IV) := match tupOf x with | some xs => some xs | none => lstOf h x
def keyOf : IV → Option Key | .int i => some (.inl i) | .str s => some (.inr s) | _ => none
def dctOf (h : Hv) : IV → Option (List (Key × IV)) | .ref n => (match h[n]? with | some (.dct kvs) => some kvs | some (.dcl kvs) => some kvs | _ => none) | _ => none
def getK (kvs : List (Key × IV)) (k : Key) : Option IV := (kvs.find? fun kv => decide (kv.1 = k)).map (·.2)
def strIn (a b : Str) : Bool := match a.cps.toList with | [c] => decide (c ∈ b.cps.toList) | _ => !(Builtin.Str.occurrences b a 0 b.length 1).isEmpty
def inB (x y : IV) (h : Hv) : Option Bool :=
  match x, y with
  | .str a, .str b => some (strIn a b)
  | x, y => match seqOf h y with
    | some ys => if flatI x && ys.all flatI then some (ys.any fun z => eqF z x)
      else match toD h 16 x, lstOf h y, toD h 16 y with
        | some d, some _, some (.list ds) => if SeqAt.shaped d && SeqAt.shaped (.list ds) then some (ds.any fun z => PyData.eqv z d) else none
        | _, _, _ => none
    | none => match dctOf h y, keyOf x with
      | some kvs, some k => some (getK kvs k).isSome
      | _, _ => none
def inI (x y : IV) (h : Hv) : R IV := match inB x y h with | some k => .ok (.bl k) h | none => .bad
def notInI (x y : IV) (h : Hv) : R IV := match inB x y h with | some k => .ok (.bl (!k)) h | none => .bad

section
variable {wd : Wd} {K : PySem.W.Frag} {mg : Str → Option Value} {r : List Addr} {H : Hp} {h : Hv} {x y : IV} {v u : V} {xs ys : List IV} {vs us : List V}
theorem flat_ok (f : flatI x = true) (q : RV wd K mg r H x v) : flatV v = true := by
  cases x <;> first | (simp [flatI] at f; done) | (simp at q; subst q; rfl)
theorem flats_ok : ∀ {xs : List IV} {vs : List V}, xs.all flatI = true → RVs wd K mg r H xs vs → vs.all flatV = true
  | [], _, _, q => by rw [RVs_nil] at q; subst q; rfl
  | x :: xs, _, f, q => by
    obtain ⟨v, t, rfl, q1, q2⟩ := RVs_cons.mp q
    rw [List.all_cons, Bool.and_eq_true] at f ⊢
    exact ⟨flat_ok f.1 q1, flats_ok f.2 q2⟩
theorem eqF_ok (fx : flatI x = true) (fy : flatI y = true) (q : RV wd K mg r H x v) (p : RV wd K mg r H y u) : eqV v u = eqF x y := by
  cases x <;> first | (simp [flatI] at fx; done) | (simp at q; subst q; cases y <;> first | (simp [flatI] at fy; done) | (simp at p; subst p; rfl))
theorem inV_ok (fx : flatI x = true) (q : RV wd K mg r H x v) : ∀ {ys : List IV} {us : List V}, ys.all flatI = true → RVs wd K mg r H ys us → inV v us = ys.any fun z => eqF z x
  | [], _, _, p => by rw [RVs_nil] at p; subst p; rfl
  | y :: ys, _, f, p => by
    obtain ⟨u, t, rfl, p1, p2⟩ := RVs_cons.mp p
    rw [List.all_cons, Bool.and_eq_true] at f
    have ih := inV_ok fx q f.2 p2
    show ((eqV u v) || inV v t) = _
    rw [ih, eqF_ok f.1 fx p1 q]; rfl
theorem non_ok (q : RV wd K mg r H x v) : decide (v = V.non) = isNon x := by
  cases x with
  | non => rw [RV_non] at q; subst q; rfl
  | bl b => rw [RV_bl] at q; subst q; rfl
  | int i => rw [RV_int] at q; subst q; rfl
  | str s => rw [RV_str] at q; subst q; rfl
  | tup xs => obtain ⟨a, _, rfl, _⟩ := RV_tup.mp q; rfl
  | lst xs => obtain ⟨a, _, rfl, _⟩ := RV_lst.mp q; rfl
  | frl xs => obtain ⟨a, _, rfl, _⟩ := RV_frl.mp q; rfl
  | obj c fs => obtain ⟨a, _, _, _, rfl, _⟩ := RV_obj.mp q; rfl
  | st ks => obtain ⟨a, _, rfl, _⟩ := RV_st.mp q; rfl
  | ref n => obtain ⟨a, rfl, _⟩ := RV_ref.mp q; rfl
theorem isNon_iff : isNon x = true ↔ x = .non := by cases x <;> simp [isNon]
theorem key_ok {k : Key} (e : keyOf x = some k) (q : RV wd K mg r H x v) : v = kV k := by
  cases x with
  | int i => cases e; rw [RV_int] at q; exact q
  | str s => cases e; rw [RV_str] at q; exact q
  | _ => cases e
theorem dctOf_ok {kvs : List (Key × IV)} (S : HSim wd K mg r h H) (e : dctOf h x = some kvs) (q : RV wd K mg r H x v) : ∃ n a ws, x = .ref n ∧ r[n]? = some a ∧ v = .ref a ∧ lstOf h x = none ∧ Rd H a (.dK ws) ∧ kvs.map (·.1) = ws.map (·.1) ∧ RVs wd K mg r H (kvs.map (·.2)) (ws.map (·.2)) := by
  cases x with
  | ref n =>
    obtain ⟨a, e1, e2⟩ := RV_ref.mp q
    obtain ⟨o, e3, e4⟩ := S.get e2
    simp only [dctOf, e3] at e
    cases o with
    | dct ks =>
      cases e
      obtain ⟨ws, e5, e6, e7⟩ := e4
      exact ⟨n, a, ws, rfl, e2, e1, by simp only [lstOf, e3], .inl e5, e6, e7⟩
    | dcl ks =>
      cases e
      obtain ⟨o, ws, e5, e6, e7⟩ := e4
      exact ⟨n, a, ws, rfl, e2, e1, by simp only [lstOf, e3], .inr ⟨o, e5⟩, e6, e7⟩
    | _ => cases e
  | _ => cases e
theorem DGet.kr {H : Hp} {a : Addr} {kvs : List (Key × V)} {k : Key} (e : Rd H a (.dK kvs)) : DGet H a (kV k) (valV kvs k) := .inl ⟨kvs, k, e, rfl, rfl⟩
theorem getK_ok {k : Key} : ∀ {kvs : List (Key × IV)} {ws : List (Key × V)}, kvs.map (·.1) = ws.map (·.1) → RVs wd K mg r H (kvs.map (·.2)) (ws.map (·.2)) →
    (getK kvs k = none → valV ws k = none) ∧ ∀ x, getK kvs k = some x → ∃ v, valV ws k = some v ∧ RV wd K mg r H x v
  | [], [], _, _ => ⟨fun _ => rfl, fun x e => by cases e⟩
  | [], _ :: _, e, _ => by simp at e
  | _ :: _, [], e, _ => by simp at e
  | (k1, x1) :: kvs, (k2, v2) :: ws, e, q => by
    simp only [List.map_cons, List.cons.injEq] at e
    obtain ⟨e1, e2⟩ := e
    subst e1
    simp only [List.map_cons] at q
    obtain ⟨v, t, e3, q1, q2⟩ := RVs_cons.mp q
    simp only [List.cons.injEq] at e3
    obtain ⟨rfl, rfl⟩ := e3
    have ih := getK_ok (k := k) e2 q2
    by_cases hk : k1 = k
    · subst hk
      refine ⟨fun e => by simp [getK] at e, fun x e => ⟨v2, valV_pos rfl, ?_⟩⟩
      simp [getK] at e; subst e; exact q1
    · have e4 : getK ((k1, x1) :: kvs) k = getK kvs k := by simp [getK, List.find?_cons, hk]
      rw [e4, valV_neg (p := (k1, v2)) hk]
      exact ih
end

section
variable {X : Cx}
abbrev aAdd (K : PySem.W.Frag) : R2 := fun x y H Q => (rI0 fun i j => .int (i + j)) x y H Q ∨ (∃ i j, x = .str i ∧ y = .str j ∧ i.length + j.length ≤ sizeLine ∧ Q (.str (i ++ j)) H) ∨ rCatA K x y H Q ∨ rCat x y H Q
theorem r_add : OpR X (binaryOp .Add) (aAdd X.K) := op_add.or (op_add_str.or (op_catA.or op_cat))
theorem s_add : OpS X (aAdd X.K) addI := by
  refine ⟨fun r h H x y v u Q W S q1 q2 p => ?_⟩
  have fin : (Pst X.wd X.K X.mg (RV X.wd X.K X.mg) r H (match ownOf h x, ownOf h y with
      | some xs, some ys => if xs.length + ys.length ≤ sizeLine then .ok (.ref h.length) (h ++ [.lst (xs ++ ys)]) else .bad
      | _, _ => .bad) Q W) → rCat v u H Q := fun p => by
    cases e1 : ownOf h x with
    | none => rw [e1] at p; exact p.elim
    | some xs =>
      cases e2 : ownOf h y with
      | none => rw [e1, e2] at p; exact p.elim
      | some ys =>
        rw [e1, e2] at p
        simp only at p
        obtain ⟨a, vs, rfl, f1, g1⟩ := ownOf_ok S e1 q1
        obtain ⟨b, us, rfl, f2, g2⟩ := ownOf_ok S e2 q2
        split at p
        · rename_i hz
          refine ⟨a, b, vs, us, rfl, rfl, f1, f2, by rw [← g1.length, ← g2.length]; exact hz, fun z hz' => ?_⟩
          exact p.newL S (g1.append g2) hz'
        · exact p.elim
  unfold addI at p
  split at p
  · rw [RV_int] at q1 q2; subst q1 q2
    exact .inl ⟨_, _, rfl, rfl, p.done S (by simp)⟩
  · rw [RV_str] at q1 q2; subst q1 q2
    split at p
    · rename_i hz; exact .inr (.inl ⟨_, _, rfl, rfl, hz, p.done S (by simp)⟩)
    · exact p.elim
  · rename_i xs ys
    split at p
    · rename_i hz
      obtain ⟨a, vs, rfl, f1, g1⟩ := RV_tup.mp q1
      obtain ⟨b, us, rfl, f2, g2⟩ := RV_tup.mp q2
      have emp : ∀ {zs : List IV} {ws : List V}, RVs X.wd X.K X.mg r H zs ws → ws = [] → zs = [] := fun g e => by
        have := g.length
        rw [e] at this
        exact List.eq_nil_of_length_eq_zero this
      refine .inr (.inr (.inl ⟨a, b, vs, us, rfl, rfl, f1.sq, f2.sq, by rw [← g1.length, ← g2.length]; exact hz, fun e => ?_, fun _ e => ?_, fun _ _ z hz' => ?_⟩))
      · rw [emp g1 e, List.nil_append] at p
        exact p.done S q2
      · rw [emp g2 e, List.append_nil] at p
        exact p.done S q1
      · exact p.newT S (g1.append g2) hz'
    · exact p.elim
  · exact .inr (.inr (.inr (fin p)))
theorem s_ii {g : Int → Int → IV} {gv : Int → Int → V} {C : Int → Int → Prop} [∀ i j, Decidable (C i j)] (hg : ∀ wd K mg r H i j, RV wd K mg r H (g i j) (gv i j)) :
    OpS X (rI C gv) (fun x y h => match x, y with | .int i, .int j => if C i j then .ok (g i j) h else .bad | _, _ => .bad) := by
  refine ⟨fun r h H x y v u Q W S q1 q2 p => ?_⟩
  split at p
  · rw [RV_int] at q1 q2; subst q1 q2
    split at p
    · rename_i hc; exact ⟨_, _, rfl, rfl, hc, p.done S (hg ..)⟩
    · exact p.elim
  · exact p.elim
theorem s_i0 {g : Int → Int → IV} {gv : Int → Int → V} (hg : ∀ wd K mg r H i j, RV wd K mg r H (g i j) (gv i j)) :
    OpS X (rI0 gv) (fun x y h => match x, y with | .int i, .int j => .ok (g i j) h | _, _ => .bad) := by
  refine ⟨fun r h H x y v u Q W S q1 q2 p => ?_⟩
  split at p
  · rw [RV_int] at q1 q2; subst q1 q2
    exact ⟨_, _, rfl, rfl, p.done S (hg ..)⟩
  · exact p.elim
theorem s_sub : OpS X (rI0 fun i j => .int (i - j)) subI := s_i0 (g := fun i j => .int (i - j)) fun _ _ _ _ _ _ => by simp
theorem s_fdiv : OpS X (rI CDiv fun i j => .int (i / j)) fdivI := s_ii (C := fun i j => 0 < j ∧ j < 1073741824) (g := fun i j => .int (i / j)) fun _ _ _ _ _ _ => by simp
theorem s_mod : OpS X (rI (fun _ j => 0 < j) fun i j => .int (i % j)) modI := s_ii (C := fun i j => 0 < j) (g := fun i j => .int (i % j)) fun _ _ _ _ _ _ => by simp
theorem s_pow : OpS X (rI CPow fun i j => .int (i ^ j.toNat)) powI := s_ii (C := fun i j => 0 ≤ j ∧ j ≤ 1000000 ∧ i.natAbs < 2 ^ 64) (g := fun i j => .int (i ^ j.toNat)) fun _ _ _ _ _ _ => by simp
theorem s_lt : OpS X (rI0 fun i j => .bl (decide (i < j))) ltI := s_i0 (g := fun i j => .bl (decide (i < j))) fun _ _ _ _ _ _ => by simp
theorem s_le : OpS X (rI0 fun i j => .bl (decide (i ≤ j))) leI := s_i0 (g := fun i j => .bl (decide (i ≤ j))) fun _ _ _ _ _ _ => by simp
theorem s_gt : OpS X (rI0 fun i j => .bl (decide (j < i))) gtI := s_i0 (g := fun i j => .bl (decide (j < i))) fun _ _ _ _ _ _ => by simp
theorem s_ge : OpS X (rI0 fun i j => .bl (decide (j ≤ i))) geI := s_i0 (g := fun i j => .bl (decide (j ≤ i))) fun _ _ _ _ _ _ => by simp
abbrev aMul : R2 := fun x y H Q => (rI CMul fun i j => .int (i * j)) x y H Q ∨ rRep x y H Q
theorem r_mul : OpR X (binaryOp .Mult) aMul := op_mul.or op_rep
theorem s_mul : OpS X aMul mulI := by
  refine ⟨fun r h H x y v u Q W S q1 q2 p => ?_⟩
  unfold mulI at p
  split at p
  · rw [RV_int] at q1 q2; subst q1 q2
    split at p
    · rename_i hc; exact .inl ⟨_, _, rfl, rfl, hc, p.done S (by simp)⟩
    · exact p.elim
  · rename_i k _
    rw [RV_int] at q2; subst q2
    cases e1 : ownOf h x with
    | none => rw [e1] at p; exact p.elim
    | some xs =>
      rw [e1] at p
      simp only at p
      obtain ⟨a, vs, rfl, f1, g1⟩ := ownOf_ok S e1 q1
      split at p
      · rename_i hc
        have rep : ∀ n : Nat, RVs X.wd X.K X.mg r H (List.replicate n xs).flatten (List.replicate n vs).flatten := fun n => by
          induction n with
          | zero => simp
          | succ n ih => rw [List.replicate_succ, List.replicate_succ, List.flatten_cons, List.flatten_cons]; exact g1.append ih
        exact .inr ⟨a, k, vs, rfl, rfl, f1, hc.1, hc.2.1, by rw [← g1.length]; exact hc.2.2, fun z hz => p.newL S (rep _) hz⟩
      · exact p.elim
  · exact p.elim
abbrev aIs : R2 := fun x y H Q => y = .non ∧ Q (.bl (decide (x = .non))) H
abbrev aIsNot : R2 := fun x y H Q => y = .non ∧ Q (.bl (!decide (x = .non))) H
theorem r_is : OpR X (compareOp .Is) aIs := op_isN
theorem r_isNot : OpR X (compareOp .IsNot) aIsNot := op_notN
theorem s_is : OpS X aIs isI := by
  refine ⟨fun r h H x y v u Q W S q1 q2 p => ?_⟩
  unfold isI at p
  split at p
  · rename_i hy
    rw [isNon_iff] at hy; subst hy
    rw [RV_non] at q2; subst q2
    exact ⟨rfl, by rw [non_ok q1]; exact p.done S (by simp)⟩
  · exact p.elim
theorem s_isNot : OpS X aIsNot isNotI := by
  refine ⟨fun r h H x y v u Q W S q1 q2 p => ?_⟩
  unfold isNotI at p
  split at p
  · rename_i hy
    rw [isNon_iff] at hy; subst hy
    rw [RV_non] at q2; subst q2
    exact ⟨rfl, by rw [non_ok q1]; exact p.done S (by simp)⟩
  · exact p.elim
theorem s_eq : OpS X (rEqD X.K) eqI := by
  refine ⟨fun r h H x y v u Q W S q1 q2 p => ?_⟩
  unfold eqI at p
  split at p
  · rename_i d e e1 e2
    split at p
    · rename_i hc
      rw [Bool.and_eq_true] at hc
      exact ⟨d, e, toD_ok S _ _ _ _ e1 q1, toD_ok S _ _ _ _ e2 q2, hc.1, hc.2, p.done S (by simp)⟩
    · exact p.elim
  · exact p.elim
theorem s_ne : OpS X (rNeD X.K) neI := by
  refine ⟨fun r h H x y v u Q W S q1 q2 p => ?_⟩
  unfold neI at p
  split at p
  · rename_i d e e1 e2
    split at p
    · rename_i hc
      rw [Bool.and_eq_true] at hc
      exact ⟨d, e, toD_ok S _ _ _ _ e1 q1, toD_ok S _ _ _ _ e2 q2, hc.1, hc.2, p.done S (by simp)⟩
    · exact p.elim
  · exact p.elim
/-- in: each of the rules, with the answer k or its contrary -/
def aIn (K : PySem.W.Frag) (f : Bool → Bool) : R2 := fun x y H Q =>
  (∃ (c : Nat) (z : Str), x = .str ⟨#[c]⟩ ∧ y = .str z ∧ Q (.bl (f (decide (c ∈ z.cps.toList)))) H) ∨
  (∃ i j, x = .str i ∧ y = .str j ∧ Q (.bl (f (!(Builtin.Str.occurrences j i 0 j.length 1).isEmpty))) H) ∨
  (∃ p xs, y = .ref p ∧ (SqL K H p xs ∨ SqT K H p xs) ∧ flatV x = true ∧ xs.all flatV = true ∧ Q (.bl (f (inV x xs))) H) ∨
  (∃ d ds, Dp K H x d ∧ Dp K H y (.list ds) ∧ SeqAt.shaped d = true ∧ SeqAt.shaped (.list ds) = true ∧ Q (.bl (f (ds.any fun z => PyData.eqv z d))) H) ∨
  (∃ a o, y = .ref a ∧ DGet H a x o ∧ Q (.bl (f o.isSome)) H)
theorem r_in (hu : X.A.units + 200 < cLine) : OpR X (compareOp .In) (aIn X.K id) := by
  refine OpR.or op_in_sign (OpR.or op_in_str (OpR.or ?_ (OpR.or (op_inD (by omega)) ?_)))
  · intro pins sh s H x y v u Q I rx ry q
    exact op_in_seq pins sh s H x y v u Q I rx ry (by obtain ⟨p, xs, e1, e2, e3, e4, e5⟩ := q; exact ⟨p, xs, e1, e2, e3, e4, by simpa using e5⟩)
  · intro pins sh s H x y v u Q I rx ry q
    obtain ⟨a, o, rfl, g, q⟩ := q
    cases ry
    exact d_in (by omega) I g rx fun s' I' => ⟨.bl _, H, I', rfl, q⟩
theorem r_notIn (hu : X.A.units + 200 < cLine) : OpR X (compareOp .NotIn) (aIn X.K not) := by
  refine OpR.or op_notIn_sign (OpR.or op_notin_str (OpR.or ?_ (OpR.or (op_notInD (by omega)) ?_)))
  · intro pins sh s H x y v u Q I rx ry q
    exact op_notIn_seq pins sh s H x y v u Q I rx ry (by obtain ⟨p, xs, e1, e2, e3, e4, e5⟩ := q; exact ⟨p, xs, e1, e2, e3, e4, by simpa using e5⟩)
  · intro pins sh s H x y v u Q I rx ry q
    obtain ⟨a, o, rfl, g, q⟩ := q
    cases ry
    exact d_notIn (by omega) I g rx fun s' I' => ⟨.bl _, H, I', rfl, q⟩
theorem inB_go {f : Bool → Bool} {r : List Addr} {h : Hv} {H : Hp} {x y : IV} {v u : V} {Q : VK} {k : Bool} (S : HSim X.wd X.K X.mg r h H) (q1 : RV X.wd X.K X.mg r H x v) (q2 : RV X.wd X.K X.mg r H y u) (e : inB x y h = some k) (q : Q (.bl (f k)) H) : aIn X.K f v u H Q := by
  unfold inB at e
  split at e
  · rename_i a b
    rw [RV_str] at q1 q2; subst q1 q2
    simp only [strIn, Option.some.injEq] at e
    split at e
    · rename_i c hc
      have ea : a = ⟨#[c]⟩ := by
        obtain ⟨cps⟩ := a
        simp only at hc
        congr 1
        exact Array.toList_inj.mp hc
      subst ea e
      exact .inl ⟨c, b, rfl, rfl, q⟩
    · subst e
      exact .inr (.inl ⟨a, b, rfl, rfl, q⟩)
  · cases e1 : seqOf h y with
    | some ys =>
      rw [e1] at e
      simp only at e
      have sq : ∃ p us, u = .ref p ∧ (SqL X.K H p us ∨ SqT X.K H p us) ∧ RVs X.wd X.K X.mg r H ys us := by
        unfold seqOf at e1
        split at e1
        · rename_i zs ez
          cases e1
          obtain ⟨a, us, rfl, f1, _, f2⟩ := tupOf_ok ez q2
          exact ⟨a, us, rfl, .inr f1, f2⟩
        · obtain ⟨a, us, rfl, f1, f2⟩ := lstOf_ok S e1 q2
          exact ⟨a, us, rfl, .inl f1, f2⟩
      obtain ⟨p, us, rfl, sq1, sq2⟩ := sq
      split at e
      · rename_i hf
        rw [Bool.and_eq_true] at hf
        cases e
        exact .inr (.inr (.inl ⟨p, us, rfl, sq1, flat_ok hf.1 q1, flats_ok hf.2 sq2, by rw [inV_ok hf.1 q1 hf.2 sq2]; exact q⟩))
      · split at e
        · rename_i d _ ds e2 _ e3
          split at e
          · rename_i hc
            rw [Bool.and_eq_true] at hc
            cases e
            exact .inr (.inr (.inr (.inl ⟨d, ds, toD_ok S _ _ _ _ e2 q1, toD_ok S _ _ _ _ e3 q2, hc.1, hc.2, q⟩)))
          · cases e
        · cases e
    | none =>
      rw [e1] at e
      simp only at e
      split at e
      · rename_i kvs k' e2 e3
        cases e
        obtain ⟨n, a, ws, rfl, f1, rfl, f2, f3, f4, f5⟩ := dctOf_ok S e2 q2
        rw [key_ok e3 q1]
        have g := getK_ok (k := k') f4 f5
        refine .inr (.inr (.inr (.inr ⟨a, valV ws k', rfl, DGet.kr f3, ?_⟩)))
        cases z : getK kvs k' with
        | none => rw [z] at q; rw [g.1 z]; exact q
        | some x' =>
          rw [z] at q
          obtain ⟨v', e', _⟩ := g.2 x' z
          rw [e']; exact q
      · cases e
theorem s_in : OpS X (aIn X.K id) inI := by
  refine ⟨fun r h H x y v u Q W S q1 q2 p => ?_⟩
  unfold inI at p
  split at p
  · rename_i k e
    exact inB_go S q1 q2 e (p.done S (by simp))
  · exact p.elim
theorem s_notIn : OpS X (aIn X.K not) notInI := by
  refine ⟨fun r h H x y v u Q W S q1 q2 p => ?_⟩
  unfold notInI at p
  split at p
  · rename_i k e
    exact inB_go S q1 q2 e (p.done S (by simp))
  · exact p.elim
end
/-! ### the rules, ready -/
section
variable {X : Cx} {W : WX} {a b c : Expr} {ma mb mc : ME} {pos : Pos}
theorem sim_add (ha : SimE X W a ma) (hb : SimE X W b mb) : SimE X W (.BinOp a .Add b pos) (bin addI ma mb) := sim_op r_add s_add ha hb
theorem sim_sub (ha : SimE X W a ma) (hb : SimE X W b mb) : SimE X W (.BinOp a .Sub b pos) (bin subI ma mb) := sim_op op_sub s_sub ha hb
theorem sim_mul (ha : SimE X W a ma) (hb : SimE X W b mb) : SimE X W (.BinOp a .Mult b pos) (bin mulI ma mb) := sim_op r_mul s_mul ha hb
theorem sim_fdiv (ha : SimE X W a ma) (hb : SimE X W b mb) : SimE X W (.BinOp a .FloorDiv b pos) (bin fdivI ma mb) := sim_op op_fdiv s_fdiv ha hb
theorem sim_mod (ha : SimE X W a ma) (hb : SimE X W b mb) : SimE X W (.BinOp a .Mod b pos) (bin modI ma mb) := sim_op op_mod s_mod ha hb
theorem sim_pow (ha : SimE X W a ma) (hb : SimE X W b mb) : SimE X W (.BinOp a .Pow b pos) (bin powI ma mb) := sim_op op_pow s_pow ha hb
def negM (m : ME) : ME := fun l h => bindR (m l h) fun x h1 => match x with | .int i => .ok (.int (-i)) h1 | _ => .bad
theorem sim_neg (ha : SimE X W a ma) : SimE X W (.UnaryOp .USub a pos) (negM ma) := by
  refine ⟨fun r l h s H Q S p => ?_⟩
  refine toE (pe_un un_neg pbE) ?_
  refine ha.thn S p fun x h1 r1 H1 v _ S1 n1 q1 p1 => ?_
  split at p1
  · rw [RV_int] at q1; exact ⟨_, q1, p1.done S1.hs (by simp)⟩
  · exact p1.elim
end
end Hs
end

section
set_option Elab.async false
set_option linter.all false
set_option maxRecDepth 100000
set_option maxHeartbeats 4000000
namespace Hs
open PySem L2

/-! ### argument lists, displays -/
section
variable {X : Cx} {W : WX} {e : Expr} {es : List Expr} {m : ME} {ms : MA} {pos : Pos}
def nilA : MA := fun _ h => .ok [] h
def consA (m : ME) (ms : MA) : MA := fun l h => bindR (m l h) fun x h1 => bindR (ms l h1) fun xs h2 => .ok (x :: xs) h2
def starA (m : ME) (ms : MA) : MA := fun l h => bindR (m l h) fun x h1 => match seqOf h1 x with | some ys => bindR (ms l h1) fun xs h2 => .ok (ys ++ xs) h2 | none => .bad
theorem sima_nil : SimA X W [] nilA := ⟨fun r l h s H Q S p => toA pa_nil (p r H [] (Nxt.refl S.hs) S.hs (by simp))⟩
theorem doneA {wd : Wd} {K : PySem.W.Frag} {mg : Str → Option Value} {r : List Addr} {H : Hp} {h : Hv} {xs : List IV} {vs : List V} {Q : List V → Hp → Prop} {W : XK} (p : Pst wd K mg (RVs wd K mg) r H (.ok xs h) Q W) (S : HSim wd K mg r h H) (q : RVs wd K mg r H xs vs) : Q vs H := p r H vs (Nxt.refl S) S q
theorem sima_cons (ha : SimE X W e m) (hr : SimA X W es ms) (hs : starEach (e :: es) X.env = (false, eval e X.env) :: starEach es X.env := by rfl) : SimA X W (e :: es) (consA m ms) := by
  refine ⟨fun r l h s H Q S p => ?_⟩
  refine toA (pa_cons pbE pbA hs) ?_
  refine ha.thn S p fun x h1 r1 H1 v _ S1 n1 q1 p1 => ?_
  refine hr.thn S1 p1 fun xs h2 r2 H2 vs _ S2 n2 q2 p2 => ?_
  exact doneA p2 S2.hs (RVs_cons.mpr ⟨v, vs, rfl, RV.mono n2 _ _ q1, q2⟩)
theorem seqOf_ok {wd : Wd} {K : PySem.W.Frag} {mg : Str → Option Value} {r : List Addr} {H : Hp} {h : Hv} {x : IV} {v : V} {ys : List IV} (S : HSim wd K mg r h H) (e : seqOf h x = some ys) (q : RV wd K mg r H x v) : ∃ p us, v = .ref p ∧ (SqT K H p us ∨ SqL K H p us) ∧ RVs wd K mg r H ys us := by
  unfold seqOf at e
  split at e
  · rename_i zs ez
    cases e
    obtain ⟨a, us, rfl, f1, _, f2⟩ := tupOf_ok ez q
    exact ⟨a, us, rfl, .inl f1, f2⟩
  · obtain ⟨a, us, rfl, f1, f2⟩ := lstOf_ok S e q
    exact ⟨a, us, rfl, .inr f1, f2⟩
theorem sima_star {p0 : Pos} (ha : SimE X W e m) (hr : SimA X W es ms) (hs : starEach (.Starred e p0 :: es) X.env = (true, eval e X.env) :: starEach es X.env := by rfl) : SimA X W (.Starred e p0 :: es) (starA m ms) := by
  refine ⟨fun r l h s H Q S p => ?_⟩
  refine toA (StX.pa_star pbE pbA hs) ?_
  refine ha.thn S p fun x h1 r1 H1 v _ S1 n1 q1 p1 => ?_
  split at p1
  · rename_i ys e1
    obtain ⟨a, us, rfl, f1, f2⟩ := seqOf_ok S1.hs e1 q1
    refine ⟨a, us, rfl, f1, ?_⟩
    refine hr.thn S1 p1 fun xs h2 r2 H2 vs _ S2 n2 q2 p2 => ?_
    exact doneA p2 S2.hs ((RVs.mono n2 _ _ f2).append q2)
  · exact p1.elim
/-- (a, b, ..) and [a, b, ..] -/
def tupM (ms : MA) : ME := fun l h => bindR (ms l h) fun xs h1 => if xs.length ≤ sizeLine then .ok (.tup xs) h1 else .bad
def lstM (ms : MA) : ME := fun l h => bindR (ms l h) fun xs h1 => if xs.length ≤ sizeLine then .ok (.ref h1.length) (h1 ++ [.lst xs]) else .bad
theorem sim_tup {k : Nat} (ha : SimA X W es ms) : SimE X W (.Tuple es k pos) (tupM ms) := by
  refine ⟨fun r l h s H Q S p => ?_⟩
  refine toE (pe_tup pbA) ?_
  refine ha.thn S p fun xs h1 r1 H1 vs _ S1 n1 q1 p1 => ?_
  split at p1
  · rename_i hz
    exact ⟨by rw [← q1.length]; exact hz, fun a ha => p1.newT S1.hs q1 ha⟩
  · exact p1.elim
theorem sim_lst (ha : SimA X W es ms) : SimE X W (.List es pos) (lstM ms) := by
  refine ⟨fun r l h s H Q S p => ?_⟩
  refine toE (pe_lst pbA) ?_
  refine ha.thn S p fun xs h1 r1 H1 vs _ S1 n1 q1 p1 => ?_
  split at p1
  · rename_i hz
    exact ⟨by rw [← q1.length]; exact hz, fun a ha => p1.newL S1.hs q1 ha⟩
  · exact p1.elim
end

/-! ### subscripts, slices -/
def ixI (x y : IV) (h : Hv) : R IV :=
  match y with
  | .int i => match x with
    | .str z => if z.length ≤ sizeLine then (match atI z.cps.toList i with | some c => .ok (.str ⟨#[c]⟩) h | none => .bad) else .bad
    | x => match seqOf h x with
      | some xs => (match atI xs i with | some v => .ok v h | none => .bad)
      | none => (match dctOf h x with | some kvs => (match getK kvs (.inl i) with | some v => .ok v h | none => .bad) | none => .bad)
  | .str k => (match dctOf h x with | some kvs => (match getK kvs (.inr k) with | some v => .ok v h | none => .bad) | none => .bad)
  | _ => .bad
section
variable {X : Cx} {W : WX} {a b : Expr} {ma mb : ME} {pos : Pos}
theorem atI_ok {wd : Wd} {K : PySem.W.Frag} {mg : Str → Option Value} {r : List Addr} {H : Hp} {xs : List IV} {vs : List V} {i : Int} {x : IV} (q : RVs wd K mg r H xs vs) (e : atI xs i = some x) : ∃ v, atI vs i = some v ∧ RV wd K mg r H x v := by
  unfold atI at e ⊢
  rw [← q.length]
  cases z : ixN xs.length i with
  | none => rw [z] at e; cases e
  | some j =>
    rw [z] at e
    exact q.get e
theorem ix_dct {r : List Addr} {h : Hv} {H : Hp} {x : IV} {v : V} {k : Key} {Q : VK} {W : XK} (S : HSim X.wd X.K X.mg r h H) (q1 : RV X.wd X.K X.mg r H x v)
    (p : Pst X.wd X.K X.mg (RV X.wd X.K X.mg) r H (match dctOf h x with | some kvs => (match getK kvs k with | some v => .ok v h | none => .bad) | none => .bad) Q W) : ∃ a v', v = .ref a ∧ DGet H a (kV k) (some v') ∧ Q v' H := by
  cases e : dctOf h x with
  | none => rw [e] at p; exact p.elim
  | some kvs =>
    rw [e] at p
    simp only at p
    cases e2 : getK kvs k with
    | none => rw [e2] at p; exact p.elim
    | some y =>
      rw [e2] at p
      obtain ⟨n, a, ws, rfl, f1, rfl, f2, f3, f4, f5⟩ := dctOf_ok S e q1
      obtain ⟨v', e', q'⟩ := (getK_ok (k := k) f4 f5).2 y e2
      exact ⟨a, v', rfl, by rw [← e']; exact DGet.kr f3, p.done S q'⟩
theorem sim_sub_ix (un : X.A.units + 200 < cLine) (ha : SimE X W a ma) (hb : SimE X W b mb) (hs : PlainIx b := by exact fun _ _ => rfl) : SimE X W (.Subscript a b pos) (bin ixI ma mb) := by
  refine ⟨fun r l h s H Q S p => ?_⟩
  -- which rule: by what the first operand is
  have seq : ∀ (good : ∀ x h1 y h2, ma l h = .ok x h1 → mb l h1 = .ok y h2 → dctOf h2 x = none), bE X (.Subscript a b pos) s H Q := fun good => by
    refine toE (pe_ix ix_seq pbE pbE hs) ?_
    refine ha.thn S p fun x h1 r1 H1 v e1 S1 n1 q1 p1 => ?_
    refine hb.thn S1 p1 fun y h2 r2 H2 u e2 S2 n2 q2 p2 => ?_
    have nod := good x h1 y h2 e1 e2
    have q1' := RV.mono n2 _ _ q1
    unfold ixI at p2
    split at p2
    · rename_i i
      rw [RV_int] at q2; subst q2
      split at p2
      · rename_i z
        rw [RV_str] at q1'; subst q1'
        split at p2
        · rename_i hz
          split at p2
          · rename_i c hc
            exact .inr (.inr ⟨z, i, c, rfl, rfl, hz, hc, p2.done S2.hs (by simp)⟩)
          · exact p2.elim
        · exact p2.elim
      · split at p2
        · rename_i xs exs
          split at p2
          · rename_i v' hv'
            obtain ⟨a', us, rfl, f1, f2⟩ := seqOf_ok S2.hs exs q1'
            obtain ⟨w, e', q'⟩ := atI_ok f2 hv'
            rcases f1 with f1 | f1
            · exact .inr (.inl ⟨a', us, i, w, rfl, rfl, f1, e', p2.done S2.hs q'⟩)
            · exact .inl ⟨a', us, i, w, rfl, rfl, f1, e', p2.done S2.hs q'⟩
          · exact p2.elim
        · rw [nod] at p2; exact p2.elim
    · rw [nod] at p2; exact p2.elim
    · exact p2.elim
  cases e1 : ma l h with
  | bad => exact seq fun x h1 y h2 e => by rw [e1] at e; cases e
  | exc c fs h' => exact seq fun x h1 y h2 e => by rw [e1] at e; cases e
  | ok x h1 =>
    cases e2 : mb l h1 with
    | bad => exact seq fun x' h1' y h2 e e' => by rw [e1] at e; cases e; rw [e2] at e'; cases e'
    | exc c fs h' => exact seq fun x' h1' y h2 e e' => by rw [e1] at e; cases e; rw [e2] at e'; cases e'
    | ok y h2 =>
      cases e3 : dctOf h2 x with
      | none => exact seq fun x' h1' y' h2' e e' => by rw [e1] at e; cases e; rw [e2] at e'; cases e'; exact e3
      | some kvs =>
        refine toE (pe_dget (by omega) pbE pbE hs) ?_
        refine ha.thn S p fun x' h1' r1 H1 v e1' S1 n1 q1 p1 => ?_
        rw [e1] at e1'; cases e1'
        refine hb.thn S1 p1 fun y' h2' r2 H2 u e2' S2 n2 q2 p2 => ?_
        rw [e2] at e2'; cases e2'
        have q1' := RV.mono n2 _ _ q1
        have hx : ∃ n, x = .ref n ∧ tupOf x = none ∧ lstOf h2 x = none := by
          obtain ⟨n, a', ws, rfl, f1, _, f2, _⟩ := dctOf_ok S2.hs e3 q1'
          exact ⟨n, rfl, rfl, f2⟩
        obtain ⟨n, rfl, hx1, hx2⟩ := hx
        have sq : seqOf h2 (.ref n) = none := by unfold seqOf; rw [hx1]; exact hx2
        unfold ixI at p2
        cases y with
        | int i =>
          rw [RV_int] at q2; subst q2
          simp only [sq] at p2
          exact ix_dct (k := .inl i) S2.hs q1' p2
        | str k =>
          rw [RV_str] at q2; subst q2
          exact ix_dct (k := .inr k) S2.hs q1' p2
        | _ => exact p2.elim
/-- slices with two ends -/
abbrev MO := Loc → Hv → R (Option Int)
def noneO : MO := fun _ h => .ok none h
def someO (m : ME) : MO := fun l h => bindR (m l h) fun x h1 => match x with | .int i => .ok (some i) h1 | _ => .bad
def cutI (xs : List IV) (lo hi : Option Int) : List IV := (xs.drop (HT.sIx xs.length 0 lo)).take (HT.sIx xs.length xs.length hi - HT.sIx xs.length 0 lo)
def slI (x : IV) (lo hi : Option Int) (h : Hv) : R IV :=
  match x with
  | .str z => if z.length ≤ sizeLine then .ok (.str (cutS z lo hi)) h else .bad
  | .tup xs => .ok (.tup (cutI xs lo hi)) h
  | x => match lstOf h x with | some xs => .ok (.ref h.length) (h ++ [.lst (cutI xs lo hi)]) | none => .bad
def slM (m : ME) (mlo mhi : MO) : ME := fun l h => bindR (m l h) fun x h1 => bindR (mlo l h1) fun lo h2 => bindR (mhi l h2) fun hi h3 => slI x lo hi h3
def bO (X : Cx) (e : Option Expr) : TO := fun s H Q => ∀ pins sh, Inv X pins s H sh → wpAny (model X.prog X.w) X.A (evalPart e X.env) (fun u s' => ∃ o H', Inv X pins s H' s' ∧ IsPart u o ∧ Q o H') X.xe sh
theorem pbO {e : Option Expr} : PO X e (bO X e) := ⟨fun pins sh s H Q I h => h pins sh I⟩
abbrev LO : List Addr → Hp → Option Int → Option Int → Prop := fun _ _ a b => a = b
structure SimO (X : Cx) (W : WX) (e : Option Expr) (m : MO) : Prop where
  run : ∀ r l h s H Q, Sim X r l h s H → Pst X.wd X.K X.mg LO r H (m l h) Q (fun c d H' => W c d s H') → bO X e s H Q
instance {X : Cx} {W : WX} {e : Option Expr} {m : MO} : CoeFun (SimO X W e m) (fun _ => ∀ r l h s H Q, Sim X r l h s H → Pst X.wd X.K X.mg LO r H (m l h) Q (fun c d H' => W c d s H') → bO X e s H Q) := ⟨fun q => q.run⟩
theorem simo_none : SimO X W none noneO := ⟨fun r l h s H Q S p pins sh I => po_none.run pins sh s H Q I (p r H none (Nxt.refl S.hs) S.hs rfl)⟩
theorem simo_some (ha : SimE X W a ma) : SimO X W (some a) (someO ma) := by
  refine ⟨fun r l h s H Q S p => ?_⟩
  intro pins sh I
  refine (po_some pbE).run pins sh s H Q I ?_
  refine ha.thn S p fun x h1 r1 H1 v _ S1 n1 q1 p1 => ?_
  split at p1
  · rw [RV_int] at q1; exact ⟨_, q1, p1 r1 H1 _ (Nxt.refl S1.hs) S1.hs rfl⟩
  · exact p1.elim
theorem cutI_ok {wd : Wd} {K : PySem.W.Frag} {mg : Str → Option Value} {r : List Addr} {H : Hp} {xs : List IV} {vs : List V} {lo hi : Option Int} (q : RVs wd K mg r H xs vs) : RVs wd K mg r H (cutI xs lo hi) (cutV vs lo hi) := by
  unfold cutI cutV
  rw [← q.length]
  exact (q.drop _).take _
abbrev aSl (K : PySem.W.Frag) : V → Option Int → Option Int → Hp → VK → Prop := fun x lo hi H Q => rSlS x lo hi H Q ∨ rSlA K x lo hi H Q ∨ rSlL K x lo hi H Q
theorem r_sl : SlR X (aSl X.K) := SlR.or sl_str (SlR.or sl_tupA sl_list)
theorem sim_slice {p2 : Pos} {lo hi : Option Expr} {mlo mhi : MO} (ha : SimE X W a ma) (hl : SimO X W lo mlo) (hh : SimO X W hi mhi) : SimE X W (.Subscript a (.Slice lo hi none p2) pos) (slM ma mlo mhi) := by
  refine ⟨fun r l h s H Q S p => ?_⟩
  refine toE (pe_slice r_sl pbE pbO pbO) ?_
  refine ha.thn S p fun x h1 r1 H1 v ex S1 n1 q1 p1 => ?_
  refine hl r1 l h1 s H1 _ S1 (p1.bind' fun lo h2 r2 H2 lo' el n2 S2 q2 p2 => ?_)
  cases q2
  refine hh r2 l h2 s H2 _ (S1.next n2 S2) (p2.bind' fun hi h3 r3 H3 hi' eh n3 S3 q3 p3 => ?_)
  cases q3
  have q1' := RV.mono (n2.trans n3) _ _ q1
  unfold slI at p3
  split at p3
  · rw [RV_str] at q1'; subst q1'
    split at p3
    · rename_i hz; exact .inl ⟨_, rfl, hz, p3.done S3 (by simp)⟩
    · exact p3.elim
  · rename_i xs
    obtain ⟨a', vs, rfl, f1, f2⟩ := RV_tup.mp q1'
    refine .inr (.inl ⟨a', vs, rfl, f1.sq, fun e => ?_, fun _ z hz => p3.newT S3 (cutI_ok f2) hz⟩)
    have ec : cutI xs lo hi = xs := by
      unfold cutI
      rw [f2.length, e.1, e.2, List.drop_zero, Nat.sub_zero, ← f2.length, List.take_length]
    rw [ec] at p3
    exact p3.done S3 q1'
  · split at p3
    · rename_i xs e1
      obtain ⟨a', vs, rfl, f1, f2⟩ := lstOf_ok S3 e1 q1'
      exact .inr (.inr ⟨a', vs, rfl, f1, fun z hz => p3.newL S3 (cutI_ok f2) hz⟩)
    · exact p3.elim
/-- xs[::-1] -/
def revM (m : ME) : ME := fun l h => bindR (m l h) fun x h1 => match lstOf h1 x with | some xs => .ok (.ref h1.length) (h1 ++ [.lst xs.reverse]) | none => .bad
theorem sim_rev {k : Nat} {p1 p2 p3 : Pos} (ha : SimE X W a ma) : SimE X W (.Subscript a (.Slice none none (some (.UnaryOp .USub (.Constant (.int 1) k p1) p2)) p3) pos) (revM ma) := by
  refine ⟨fun r l h s H Q S p => ?_⟩
  refine toE (pe_revL pbE) ?_
  refine ha.thn S p fun x h1 r1 H1 v _ S1 n1 q1 p1 => ?_
  split at p1
  · rename_i xs e1
    obtain ⟨a', vs, rfl, f1, f2⟩ := lstOf_ok S1.hs e1 q1
    exact ⟨a', vs, rfl, f1, fun z hz => p1.newL S1.hs f2.reverse hz⟩
  · exact p1.elim
end

/-! ### built-in functions -/
def callM (g : List IV → Hv → R IV) (ms : MA) : ME := fun l h => bindR (ms l h) g
structure BuS (X : Cx) (rd : List V → Hp → VK → Prop) (g : List IV → Hv → R IV) : Prop where
  run : ∀ r h H xs vs Q W, HSim X.wd X.K X.mg r h H → RVs X.wd X.K X.mg r H xs vs → Pst X.wd X.K X.mg (RV X.wd X.K X.mg) r H (g xs h) Q W → rd vs H Q
instance {X : Cx} {rd : List V → Hp → VK → Prop} {g : List IV → Hv → R IV} : CoeFun (BuS X rd g) (fun _ => ∀ r h H xs vs Q W, HSim X.wd X.K X.mg r h H → RVs X.wd X.K X.mg r H xs vs → Pst X.wd X.K X.mg (RV X.wd X.K X.mg) r H (g xs h) Q W → rd vs H Q) := ⟨fun q => q.run⟩
section
variable {X : Cx} {W : WX} {x : Str} {p pos : Pos} {e : Expr} {es : List Expr} {ms : MA} {id T : String} {rd : List V → Hp → VK → Prop} {g : List IV → Hv → R IV}
theorem sim_callB (hc : CallR X (.builtin id) rd) (hgs : BuS X rd g) (hm : X.mg x = none) (hv : bootBuiltins x = some (.builtin id)) (ha : SimA X W (e :: es) ms) (hg : Gl X x := by rfl)
    (hn : x ≠ "__name__" := by decide +kernel) (hdb : (x == ("__debug__" : Str)) = false := by decide +kernel) (he : starEach (e :: es) X.env = (false, eval e X.env) :: starEach es X.env := by rfl)
    (hpl : (backTo pos (starEach es X.env)).any (·.1) = false := by rfl) : SimE X W (.Call (.Name x p) (e :: es) [] pos) (callM g ms) := by
  refine ⟨fun r l h s H Q S q => ?_⟩
  refine toE (pe_callB hc hg hm hv pbA hn hdb he hpl) ?_
  exact ha.thn S q fun xs h1 r1 H1 vs _ S1 n1 q1 p1 => hgs _ _ _ _ _ _ _ S1.hs q1 p1
theorem sim_callTy (hc : CallR X (.type T) rd) (hgs : BuS X rd g) (hm : X.mg x = none) (hv : bootBuiltins x = some (.type T)) (ha : SimA X W (e :: es) ms) (hg : Gl X x := by rfl)
    (hn : x ≠ "__name__" := by decide +kernel) (hdb : (x == ("__debug__" : Str)) = false := by decide +kernel) (he : starEach (e :: es) X.env = (false, eval e X.env) :: starEach es X.env := by rfl)
    (hpl : (backTo pos (starEach es X.env)).any (·.1) = false := by rfl) : SimE X W (.Call (.Name x p) (e :: es) [] pos) (callM g ms) := by
  refine ⟨fun r l h s H Q S q => ?_⟩
  refine toE (pe_callTy hc hg hm hv pbA hn hdb he hpl) ?_
  exact ha.thn S q fun xs h1 r1 H1 vs _ S1 n1 q1 p1 => hgs _ _ _ _ _ _ _ S1.hs q1 p1
end
end Hs
end

section
set_option Elab.async false
set_option linter.all false
set_option maxRecDepth 100000
set_option maxHeartbeats 4000000
namespace Hs
open PySem L2
def lenI (xs : List IV) (h : Hv) : R IV := match xs with
  | [.str z] => if z.length ≤ sizeLine then .ok (.int z.length) h else .bad
  | [x] => match seqOf h x with
    | some ys => .ok (.int ys.length) h
    | none => match dctOf h x with | some kvs => .ok (.int kvs.length) h | none => .bad
  | _ => .bad
def absI (xs : List IV) (h : Hv) : R IV := match xs with | [.int i] => .ok (.int (if i < 0 then -i else i)) h | _ => .bad
def max2I (xs : List IV) (h : Hv) : R IV := match xs with | [.int i, .int j] => .ok (.int (if j > i then j else i)) h | _ => .bad
def min2I (xs : List IV) (h : Hv) : R IV := match xs with | [.int i, .int j] => .ok (.int (if j < i then j else i)) h | _ => .bad
def intI (xs : List IV) (h : Hv) : R IV := match xs with
  | [.int i] => .ok (.int i) h
  | [.bl k] => .ok (.int (if k then 1 else 0)) h
  | [.str a] => (match PySem.intText? a with | some n => if a.length ≤ 640 then .ok (.int n) h else .bad | none => .bad)
  | _ => .bad
def strI (xs : List IV) (h : Hv) : R IV := match xs with
  | [.int i] => if i.natAbs.log2 < 1920 then .ok (.str (toString i)) h else .bad
  | [.str a] => .ok (.str a) h
  | _ => .bad
def blsOf : List IV → Option (List Bool)
  | [] => some []
  | .bl b :: r => (blsOf r).map (b :: ·)
  | _ => none
def allI (xs : List IV) (h : Hv) : R IV := match xs with | [x] => (match lstOf h x with | some ys => (match blsOf ys with | some bs => .ok (.bl (bs.all id)) h | none => .bad) | none => .bad) | _ => .bad
def anyI (xs : List IV) (h : Hv) : R IV := match xs with | [x] => (match lstOf h x with | some ys => (match blsOf ys with | some bs => .ok (.bl (bs.any id)) h | none => .bad) | none => .bad) | _ => .bad
def listI (xs : List IV) (h : Hv) : R IV := match xs with | [x] => (match seqOf h x with | some ys => .ok (.ref h.length) (h ++ [.lst ys]) | none => .bad) | _ => .bad
def tupleI (xs : List IV) (h : Hv) : R IV := match xs with
  | [.tup ys] => .ok (.tup ys) h
  | [x] => (match lstOf h x with | some ys => .ok (.tup ys) h | none => .bad)
  | _ => .bad
section
variable {wd : Wd} {K : PySem.W.Frag} {mg : Str → Option Value} {r : List Addr} {H : Hp} {xs : List IV} {vs : List V} {x y z : IV}
theorem RVs.one (q : RVs wd K mg r H [x] vs) : ∃ v, vs = [v] ∧ RV wd K mg r H x v := by
  obtain ⟨v, t, rfl, q1, q2⟩ := RVs_cons.mp q
  rw [RVs_nil] at q2; subst q2
  exact ⟨v, rfl, q1⟩
theorem RVs.two (q : RVs wd K mg r H [x, y] vs) : ∃ v u, vs = [v, u] ∧ RV wd K mg r H x v ∧ RV wd K mg r H y u := by
  obtain ⟨v, t, rfl, q1, q2⟩ := RVs_cons.mp q
  obtain ⟨u, rfl, q3⟩ := q2.one
  exact ⟨v, u, rfl, q1, q3⟩
theorem blsOf_eq : ∀ {xs : List IV} {bs : List Bool}, blsOf xs = some bs → xs = bs.map IV.bl
  | [], _, e => by simp [blsOf] at e; subst e; rfl
  | .bl b :: r, bs, e => by
    simp only [blsOf, Option.map_eq_some_iff] at e
    obtain ⟨cs, e1, rfl⟩ := e
    rw [blsOf_eq e1]; rfl
  | .non :: _, _, e => by simp [blsOf] at e
  | .int _ :: _, _, e => by simp [blsOf] at e
  | .str _ :: _, _, e => by simp [blsOf] at e
  | .tup _ :: _, _, e => by simp [blsOf] at e
  | .lst _ :: _, _, e => by simp [blsOf] at e
  | .frl _ :: _, _, e => by simp [blsOf] at e
  | .obj _ _ :: _, _, e => by simp [blsOf] at e
  | .ref _ :: _, _, e => by simp [blsOf] at e
end
section
variable {X : Cx}
abbrev aLen (K : PySem.W.Frag) : List V → Hp → VK → Prop := fun xs H Q => (∃ z, xs = [.str z] ∧ z.length ≤ sizeLine ∧ Q (.int z.length) H) ∨ (∃ p ys, xs = [.ref p] ∧ (SqL K H p ys ∨ SqT K H p ys) ∧ Q (.int ys.length) H) ∨ ∃ a kvs, xs = [V.ref a] ∧ Rd H a (.dK kvs) ∧ Q (.int kvs.length) H
theorem call_lenR : CallR X (.builtin "len") (fun xs H Q => ∃ a kvs, xs = [V.ref a] ∧ Rd H a (.dK kvs) ∧ Q (.int kvs.length) H) := by
  intro pins s σ H xs us Q I r h
  obtain ⟨a, kvs, rfl, ha, q⟩ := h
  obtain ⟨u, rfl, ru⟩ := vals1 r
  cases ru
  exact d_len I ha fun t s' I' => ⟨.int kvs.length, H, I', ⟨t, rfl⟩, q⟩
theorem c_len : CallR X (.builtin "len") (aLen X.K) := CallR.or call_len_str (CallR.or call_len_seq call_lenR)
theorem b_len : BuS X (aLen X.K) lenI := by
  refine ⟨fun r h H xs vs Q W S q p => ?_⟩
  unfold lenI at p
  split at p
  · obtain ⟨v, rfl, q1⟩ := q.one
    rw [RV_str] at q1; subst q1
    split at p
    · rename_i hz; exact .inl ⟨_, rfl, hz, p.done S (by simp)⟩
    · exact p.elim
  · obtain ⟨v, rfl, q1⟩ := q.one
    split at p
    · rename_i ys e
      obtain ⟨a, us, rfl, f1, f2⟩ := seqOf_ok S e q1
      exact .inr (.inl ⟨a, us, rfl, f1.symm, by rw [← f2.length]; exact p.done S (by simp)⟩)
    · split at p
      · rename_i kvs e
        obtain ⟨n, a, ws, rfl, f1, rfl, f2, f3, f4, f5⟩ := dctOf_ok S e q1
        have hl : kvs.length = ws.length := by have := congrArg List.length f4; simpa using this
        exact .inr (.inr ⟨a, ws, rfl, f3, by rw [← hl]; exact p.done S (by simp)⟩)
      · exact p.elim
  · exact p.elim
theorem b_abs : BuS X (fun xs H Q => ∃ i, xs = [.int i] ∧ Q (.int (if i < 0 then -i else i)) H) absI := by
  refine ⟨fun r h H xs vs Q W S q p => ?_⟩
  unfold absI at p
  split at p
  · obtain ⟨v, rfl, q1⟩ := q.one
    rw [RV_int] at q1; subst q1
    exact ⟨_, rfl, p.done S (by simp)⟩
  · exact p.elim
theorem b_max2 : BuS X (fun xs H Q => ∃ i j, xs = [.int i, .int j] ∧ Q (.int (if j > i then j else i)) H) max2I := by
  refine ⟨fun r h H xs vs Q W S q p => ?_⟩
  unfold max2I at p
  split at p
  · obtain ⟨v, u, rfl, q1, q2⟩ := q.two
    rw [RV_int] at q1 q2; subst q1 q2
    exact ⟨_, _, rfl, p.done S (by simp)⟩
  · exact p.elim
theorem b_min2 : BuS X (fun xs H Q => ∃ i j, xs = [.int i, .int j] ∧ Q (.int (if j < i then j else i)) H) min2I := by
  refine ⟨fun r h H xs vs Q W S q p => ?_⟩
  unfold min2I at p
  split at p
  · obtain ⟨v, u, rfl, q1, q2⟩ := q.two
    rw [RV_int] at q1 q2; subst q1 q2
    exact ⟨_, _, rfl, p.done S (by simp)⟩
  · exact p.elim
abbrev aInt : List V → Hp → VK → Prop := fun xs H Q => ((∃ i, xs = [.int i] ∧ Q (.int i) H) ∨ ∃ k, xs = [.bl k] ∧ Q (.int (if k then 1 else 0)) H) ∨ ∃ a n, xs = [.str a] ∧ PySem.intText? a = some n ∧ a.length ≤ 640 ∧ Q (.int n) H
theorem c_int : CallR X (.type "int") aInt := CallR.or call_int1 call_int_str
theorem b_int : BuS X aInt intI := by
  refine ⟨fun r h H xs vs Q W S q p => ?_⟩
  unfold intI at p
  split at p
  · obtain ⟨v, rfl, q1⟩ := q.one
    rw [RV_int] at q1; subst q1
    exact .inl (.inl ⟨_, rfl, p.done S (by simp)⟩)
  · obtain ⟨v, rfl, q1⟩ := q.one
    rw [RV_bl] at q1; subst q1
    exact .inl (.inr ⟨_, rfl, p.done S (by simp)⟩)
  · obtain ⟨v, rfl, q1⟩ := q.one
    rw [RV_str] at q1; subst q1
    split at p
    · rename_i n e
      split at p
      · rename_i hz; exact .inr ⟨_, n, rfl, e, hz, p.done S (by simp)⟩
      · exact p.elim
    · exact p.elim
  · exact p.elim
theorem b_all : BuS X (rAll X.K) allI := by
  refine ⟨fun r h H xs vs Q W S q p => ?_⟩
  unfold allI at p
  split at p
  · obtain ⟨v, rfl, q1⟩ := q.one
    split at p
    · rename_i ys e
      split at p
      · rename_i bs eb
        obtain ⟨a, us, rfl, f1, f2⟩ := lstOf_ok S e q1
        rw [blsOf_eq eb] at f2
        rw [f2.bls] at f1
        exact ⟨a, bs, rfl, f1, p.done S (by simp)⟩
      · exact p.elim
    · exact p.elim
  · exact p.elim
theorem b_any : BuS X (rAny X.K) anyI := by
  refine ⟨fun r h H xs vs Q W S q p => ?_⟩
  unfold anyI at p
  split at p
  · obtain ⟨v, rfl, q1⟩ := q.one
    split at p
    · rename_i ys e
      split at p
      · rename_i bs eb
        obtain ⟨a, us, rfl, f1, f2⟩ := lstOf_ok S e q1
        rw [blsOf_eq eb] at f2
        rw [f2.bls] at f1
        exact ⟨a, bs, rfl, f1, p.done S (by simp)⟩
      · exact p.elim
    · exact p.elim
  · exact p.elim
theorem b_list : BuS X (fun xs H Q => ∃ p ys, xs = [.ref p] ∧ (SqL X.K H p ys ∨ SqT X.K H p ys) ∧ ∀ l, H l = none → Q (.ref l) (upd H l (.lst ys))) listI := by
  refine ⟨fun r h H xs vs Q W S q p => ?_⟩
  unfold listI at p
  split at p
  · obtain ⟨v, rfl, q1⟩ := q.one
    split at p
    · rename_i ys e
      obtain ⟨a, us, rfl, f1, f2⟩ := seqOf_ok S e q1
      exact ⟨a, us, rfl, f1.symm, fun l hl => p.newL S f2 hl⟩
    · exact p.elim
  · exact p.elim
theorem b_tuple : BuS X (fun xs H Q => ∃ p ys, xs = [.ref p] ∧ ((SqL X.K H p ys ∧ ∀ l, H l = none → Q (.ref l) (upd H l (.tup ys))) ∨ (SqT X.K H p ys ∧ Q (.ref p) H))) tupleI := by
  refine ⟨fun r h H xs vs Q W S q p => ?_⟩
  unfold tupleI at p
  split at p
  · obtain ⟨v, rfl, q1⟩ := q.one
    have q1' := q1
    obtain ⟨a, us, rfl, f1, f2⟩ := RV_tup.mp q1
    exact ⟨a, us, rfl, .inr ⟨f1.sq, p.done S q1'⟩⟩
  · obtain ⟨v, rfl, q1⟩ := q.one
    split at p
    · rename_i ys e
      obtain ⟨a, us, rfl, f1, f2⟩ := lstOf_ok S e q1
      exact ⟨a, us, rfl, .inl ⟨f1, fun l hl => p.newT S f2 hl⟩⟩
    · exact p.elim
  · exact p.elim
end

/-! ### methods of built-in things -/
def dctW (h : Hv) : IV → Option (List (Key × IV)) | .ref n => (match h[n]? with | some (.dct kvs) => some kvs | _ => none) | _ => none
def tyI (T : String) (x : IV) (h : Hv) : Bool := match T with
  | "str" => (match x with | .str _ => true | _ => false)
  | "list" => (lstOf h x).isSome
  | "dict" => (dctW h x).isSome
  | _ => false
def metM (T : String) (g : IV → List IV → Hv → R IV) (mo : ME) (ms : MA) : ME := fun l h => bindR (mo l h) fun x h1 => if tyI T x h1 = true then bindR (ms l h1) fun xs h2 => g x xs h2 else .bad
structure MtS (X : Cx) (rd : V → List V → Hp → VK → Prop) (g : IV → List IV → Hv → R IV) : Prop where
  run : ∀ r h H x xs v vs Q W, HSim X.wd X.K X.mg r h H → RV X.wd X.K X.mg r H x v → RVs X.wd X.K X.mg r H xs vs → Pst X.wd X.K X.mg (RV X.wd X.K X.mg) r H (g x xs h) Q W → rd v vs H Q
instance {X : Cx} {rd : V → List V → Hp → VK → Prop} {g : IV → List IV → Hv → R IV} : CoeFun (MtS X rd g) (fun _ => ∀ r h H x xs v vs Q W, HSim X.wd X.K X.mg r h H → RV X.wd X.K X.mg r H x v → RVs X.wd X.K X.mg r H xs vs → Pst X.wd X.K X.mg (RV X.wd X.K X.mg) r H (g x xs h) Q W → rd v vs H Q) := ⟨fun q => q.run⟩
section
variable {X : Cx} {W : WX} {o e : Expr} {es : List Expr} {mo : ME} {ms : MA} {name : Str} {apos cpos : Pos} {T id : String} {rd : V → List V → Hp → VK → Prop} {g : IV → List IV → Hv → R IV}
theorem dctW_ok {wd : Wd} {K : PySem.W.Frag} {mg : Str → Option Value} {r : List Addr} {h : Hv} {H : Hp} {x : IV} {v : V} {kvs : List (Key × IV)} (S : HSim wd K mg r h H) (e : dctW h x = some kvs) (q : RV wd K mg r H x v) : ∃ n a ws, x = .ref n ∧ r[n]? = some a ∧ v = .ref a ∧ H a = some (.dK ws) ∧ kvs.map (·.1) = ws.map (·.1) ∧ RVs wd K mg r H (kvs.map (·.2)) (ws.map (·.2)) := by
  cases x with
  | ref n =>
    obtain ⟨a, e1, e2⟩ := RV_ref.mp q
    obtain ⟨o, e3, e4⟩ := S.get e2
    simp only [dctW, e3] at e
    cases o with
    | dct ks =>
      cases e
      obtain ⟨ws, e5, e6, e7⟩ := e4
      exact ⟨n, a, ws, rfl, e2, e1, e5, e6, e7⟩
    | _ => cases e
  | _ => cases e
theorem tyI_ok {r : List Addr} {h : Hv} {H : Hp} {x : IV} {v : V} (S : HSim X.wd X.K X.mg r h H) (q : RV X.wd X.K X.mg r H x v) (e : tyI T x h = true) : tyV X.K T v H := by
  unfold tyI at e
  split at e
  · split at e
    · rw [RV_str] at q; subst q; rfl
    · cases e
  · cases z : lstOf h x with
    | none => rw [z] at e; cases e
    | some xs =>
      obtain ⟨a, us, rfl, f1, _⟩ := lstOf_ok S z q
      exact .inl ⟨rfl, us, f1⟩
  · cases z : dctW h x with
    | none => rw [z] at e; cases e
    | some xs =>
      obtain ⟨n, a, ws, rfl, f1, rfl, f3, _⟩ := dctW_ok S z q
      exact .inr (.inr (.inl ⟨rfl, .inl ⟨ws, f3⟩⟩))
  · cases e
theorem sim_bm (hgs : MtS X rd g) (hm : MtR X id rd) (pa : PlainAttrs T) (slot : Slot T name id) (hty : typeOf (.builtin id) = pure (.type "method_descriptor")) (ho : SimE X W o mo) (ha : SimA X W (e :: es) ms)
    (hbase : attributeBase o name X.env (eval o X.env) = eval o X.env := by rfl) (hst : starEach (e :: es) X.env = (false, eval e X.env) :: starEach es X.env := by rfl)
    (hfew : ((backTo cpos (starEach (e :: es) X.env)).all (fun x => !x.1) && (backToKw cpos (keywordEach [] X.env)).all (fun x => x.1.isSome) && decide ((e :: es).length + ([] : List Keyword).length + (if ([] : List Keyword).isEmpty then 0 else 1) < 30)) = true := by rfl)
    (hline : (apos.endLine == cpos.line) = true := by rfl) (hpl : (backTo cpos (starEach es X.env)).any (·.1) = false := by rfl) : SimE X W (.Call (.Attribute o name apos) (e :: es) [] cpos) (metM T g mo ms) := by
  refine ⟨fun r l h s H Q S q => ?_⟩
  refine toE (pe_bm pa slot hty hm pbE pbA hbase hfew hline hst hpl) ?_
  refine ho.thn S q fun x h1 r1 H1 v _ S1 n1 q1 p1 => ?_
  split at p1
  · rename_i ht
    refine ⟨tyI_ok S1.hs q1 ht, ?_⟩
    exact ha.thn S1 p1 fun xs h2 r2 H2 vs _ S2 n2 q2 p2 => hgs _ _ _ _ _ _ _ _ _ S2.hs (RV.mono n2 _ _ q1) q2 p2
  · exact p1.elim
theorem sim_bm0 (hgs : MtS X rd g) (hm : MtR X id rd) (pa : PlainAttrs T) (slot : Slot T name id) (hty : typeOf (.builtin id) = pure (.type "method_descriptor")) (ho : SimE X W o mo)
    (hbase : attributeBase o name X.env (eval o X.env) = eval o X.env := by rfl) (hline : (apos.endLine == cpos.line) = true := by rfl) : SimE X W (.Call (.Attribute o name apos) [] [] cpos) (metM T g mo nilA) := by
  refine ⟨fun r l h s H Q S q => ?_⟩
  refine toE (pe_bm0 pa slot hty hm pbE hbase hline) ?_
  refine ho.thn S q fun x h1 r1 H1 v _ S1 n1 q1 p1 => ?_
  split at p1
  · rename_i ht
    exact ⟨tyI_ok S1.hs q1 ht, hgs _ _ _ _ _ _ _ _ _ S1.hs q1 (by simp) p1⟩
  · exact p1.elim
end
/-- a numbered list changes -/
theorem Pst.setL {wd : Wd} {K : PySem.W.Frag} {mg : Str → Option Value} {r : List Addr} {h : Hv} {H : Hp} {x : IV} {v : V} {n : Nat} {a : Addr} {xs : List IV} {vs : List V} {Q : VK} {W : XK} (p : Pst wd K mg (RV wd K mg) r H (.ok x (h.set n (.lst xs))) Q W) (S : HSim wd K mg r h H)
    (e : r[n]? = some a) (nf : ∀ o u, H a ≠ some (.frz o u)) (g : RVs wd K mg r H xs vs) (q : RV wd K mg r H x v) : Q v (upd H a (.lst vs)) := by
  obtain ⟨n1, S1⟩ := S.set (o := .lst vs) (ob := .lst xs) e nf fun n1 => ⟨vs, upd_same, RVs.mono n1 _ _ g⟩
  exact p r _ v n1 S1 (RV.mono n1 _ _ q)
theorem Pst.setD {wd : Wd} {K : PySem.W.Frag} {mg : Str → Option Value} {r : List Addr} {h : Hv} {H : Hp} {x : IV} {v : V} {n : Nat} {a : Addr} {xs : List (Key × IV)} {vs : List (Key × V)} {Q : VK} {W : XK} (p : Pst wd K mg (RV wd K mg) r H (.ok x (h.set n (.dct xs))) Q W) (S : HSim wd K mg r h H)
    (e : r[n]? = some a) (nf : ∀ o u, H a ≠ some (.frz o u)) (e1 : xs.map (·.1) = vs.map (·.1)) (g : RVs wd K mg r H (xs.map (·.2)) (vs.map (·.2))) (q : RV wd K mg r H x v) : Q v (upd H a (.dK vs)) := by
  obtain ⟨n1, S1⟩ := S.set (o := .dK vs) (ob := .dct xs) e nf fun n1 => ⟨vs, upd_same, e1, RVs.mono n1 _ _ g⟩
  exact p r _ v n1 S1 (RV.mono n1 _ _ q)
def refL (h : Hv) : IV → Option (Nat × List IV) | .ref n => (match h[n]? with | some (.lst xs) => some (n, xs) | _ => none) | _ => none
theorem refL_ok {wd : Wd} {K : PySem.W.Frag} {mg : Str → Option Value} {r : List Addr} {h : Hv} {H : Hp} {x : IV} {v : V} {n : Nat} {xs : List IV} (S : HSim wd K mg r h H) (e : refL h x = some (n, xs)) (q : RV wd K mg r H x v) : ∃ a vs, v = .ref a ∧ r[n]? = some a ∧ H a = some (.lst vs) ∧ RVs wd K mg r H xs vs := by
  cases x with
  | ref i =>
    obtain ⟨a, e1, e2⟩ := RV_ref.mp q
    obtain ⟨o, e3, e4⟩ := S.get e2
    simp only [refL, e3] at e
    cases o with
    | lst ys =>
      cases e
      obtain ⟨vs, e5, e6⟩ := e4
      exact ⟨a, vs, e1, e2, e5, e6⟩
    | _ => cases e
  | _ => cases e
def appendI (x : IV) (ys : List IV) (h : Hv) : R IV := match refL h x, ys with | some (n, xs), [y] => if xs.length < sizeLine then .ok .non (h.set n (.lst (xs ++ [y]))) else .bad | _, _ => .bad
def extendI (x : IV) (ys : List IV) (h : Hv) : R IV := match refL h x, ys with | some (n, xs), [y] => (match ownOf h y with | some zs => if xs.length + zs.length ≤ sizeLine then .ok .non (h.set n (.lst (xs ++ zs))) else .bad | none => .bad) | _, _ => .bad
def popI (x : IV) (ys : List IV) (h : Hv) : R IV := match refL h x, ys with
  | some (n, xs), [] => (match xs[xs.length - 1]? with | some y => .ok y (h.set n (.lst xs.dropLast)) | none => .bad)
  | some (n, xs), [.int i] => if -(2 ^ 63) ≤ i ∧ i < 2 ^ 63 then (match seqIndex? i xs.length with | some k => (match xs[k]? with | some y => .ok y (h.set n (.lst (xs.eraseIdx k))) | none => .bad) | none => .bad) else .bad
  | _, _ => .bad
def splitI (x : IV) (ys : List IV) (h : Hv) : R IV := match x, ys with
  | .str a, [.str b] => if (b.length == 0) = false ∧ a.length + 2 ≤ sizeLine then .ok (.ref h.length) (h ++ [.lst ((Txt.split a b).map IV.str)]) else .bad
  | _, _ => .bad
def strsOf : List IV → Option (List Str)
  | [] => some []
  | .str b :: r => (strsOf r).map (b :: ·)
  | _ => none
def joinI (x : IV) (ys : List IV) (h : Hv) : R IV := match x, ys with
  | .str a, [y] => (match seqOf h y with | some zs => (match strsOf zs with | some ss => if (ss.map (·.length)).sum + ss.length * a.length ≤ 16777216 then .ok (.str (Txt.join a ss)) h else .bad | none => .bad) | none => .bad)
  | _, _ => .bad
theorem strsOf_eq : ∀ {xs : List IV} {bs : List Str}, strsOf xs = some bs → xs = bs.map IV.str
  | [], _, e => by simp [strsOf] at e; subst e; rfl
  | .str b :: r, bs, e => by
    simp only [strsOf, Option.map_eq_some_iff] at e
    obtain ⟨cs, e1, rfl⟩ := e
    rw [strsOf_eq e1]; rfl
  | .non :: _, _, e => by simp [strsOf] at e
  | .int _ :: _, _, e => by simp [strsOf] at e
  | .bl _ :: _, _, e => by simp [strsOf] at e
  | .tup _ :: _, _, e => by simp [strsOf] at e
  | .lst _ :: _, _, e => by simp [strsOf] at e
  | .frl _ :: _, _, e => by simp [strsOf] at e
  | .obj _ _ :: _, _, e => by simp [strsOf] at e
  | .ref _ :: _, _, e => by simp [strsOf] at e
section
variable {X : Cx}
theorem m_append : MtS X rAppend appendI := by
  refine ⟨fun r h H x ys v vs Q W S q q2 p => ?_⟩
  unfold appendI at p
  split at p
  · rename_i n xs y e
    split at p
    · rename_i hz
      obtain ⟨a, us, rfl, f1, f2, f3⟩ := refL_ok S e q
      obtain ⟨u, rfl, q3⟩ := q2.one
      exact ⟨a, us, u, rfl, rfl, f2, by rw [← f3.length]; exact hz, p.setL S f1 (nf_of f2) (f3.snoc q3) (by simp)⟩
    · exact p.elim
  · exact p.elim
theorem m_extend : MtS X rExtend extendI := by
  refine ⟨fun r h H x ys v vs Q W S q q2 p => ?_⟩
  unfold extendI at p
  split at p
  · rename_i n xs y e
    split at p
    · rename_i zs e2
      split at p
      · rename_i hz
        obtain ⟨a, us, rfl, f1, f2, f3⟩ := refL_ok S e q
        obtain ⟨u, rfl, q3⟩ := q2.one
        obtain ⟨b, ws, rfl, g1, g2⟩ := ownOf_ok S e2 q3
        exact ⟨a, b, us, ws, rfl, rfl, f2, g1, by rw [← f3.length, ← g2.length]; exact hz, p.setL S f1 (nf_of f2) (f3.append g2) (by simp)⟩
      · exact p.elim
    · exact p.elim
  · exact p.elim
abbrev aPop : V → List V → Hp → VK → Prop := fun x xs H Q => rPop x xs H Q ∨ rPopAt x xs H Q
theorem mr_pop : MtR X "list.pop" aPop := MtR.or mt_pop mt_popAt
theorem m_pop : MtS X aPop popI := by
  refine ⟨fun r h H x ys v vs Q W S q q2 p => ?_⟩
  unfold popI at p
  split at p
  · rename_i n xs e
    split at p
    · rename_i y e2
      obtain ⟨a, us, rfl, f1, f2, f3⟩ := refL_ok S e q
      rw [RVs_nil] at q2; subst q2
      obtain ⟨u, g1, g2⟩ := f3.get e2
      have hd : RVs X.wd X.K X.mg r H xs.dropLast us.dropLast := by rw [List.dropLast_eq_take, List.dropLast_eq_take, ← f3.length]; exact f3.take _
      exact .inl ⟨a, us, u, rfl, rfl, f2, by rw [← f3.length]; exact g1, p.setL S f1 (nf_of f2) hd g2⟩
    · exact p.elim
  · rename_i n xs i e
    split at p
    · rename_i hz
      split at p
      · rename_i k e2
        split at p
        · rename_i y e3
          obtain ⟨a, us, rfl, f1, f2, f3⟩ := refL_ok S e q
          obtain ⟨w, rfl, q3⟩ := q2.one
          rw [RV_int] at q3; subst q3
          obtain ⟨u, g1, g2⟩ := f3.get e3
          exact .inr ⟨a, us, i, k, u, rfl, rfl, f2, hz.1, hz.2, by rw [← f3.length]; exact e2, g1, p.setL S f1 (nf_of f2) (f3.eraseIdx k) g2⟩
        · exact p.elim
      · exact p.elim
    · exact p.elim
  · exact p.elim
theorem m_split : MtS X (fun x xs H Q => ∃ a b, x = .str a ∧ xs = [.str b] ∧ (b.length == 0) = false ∧ a.length + 2 ≤ sizeLine ∧ rNewStrs (Txt.split a b) H Q) splitI := by
  refine ⟨fun r h H x ys v vs Q W S q q2 p => ?_⟩
  unfold splitI at p
  split at p
  · split at p
    · rename_i hz
      obtain ⟨u, rfl, q3⟩ := q2.one
      rw [RV_str] at q q3; subst q q3
      exact ⟨_, _, rfl, rfl, hz.1, hz.2, fun l hl => p.newL S RVs.of_strs hl⟩
    · exact p.elim
  · exact p.elim
theorem m_join : MtS X (fun x xs H Q => ∃ a p, ∃ ys : List Str, x = .str a ∧ xs = [.ref p] ∧ (SqL X.K H p (ys.map V.str) ∨ SqT X.K H p (ys.map V.str)) ∧
    (ys.map (·.length)).sum + ys.length * a.length ≤ 16777216 ∧ Q (.str (Txt.join a ys)) H) joinI := by
  refine ⟨fun r h H x ys v vs Q W S q q2 p => ?_⟩
  unfold joinI at p
  split at p
  · split at p
    · rename_i zs e
      split at p
      · rename_i ss e2
        split at p
        · rename_i hz
          obtain ⟨u, rfl, q3⟩ := q2.one
          rw [RV_str] at q; subst q
          obtain ⟨b, us, rfl, f1, f2⟩ := seqOf_ok S e q3
          rw [strsOf_eq e2] at f2
          rw [f2.strs] at f1
          exact ⟨_, b, ss, rfl, rfl, f1.symm, hz, p.done S (by simp)⟩
        · exact p.elim
      · exact p.elim
    · exact p.elim
  · exact p.elim
end
end Hs
end

section
set_option Elab.async false
set_option linter.all false
set_option maxRecDepth 100000
set_option maxHeartbeats 4000000
namespace Hs
open PySem L2

/-! ### statements -/
inductive Fl where
  | nx (l : Loc) | rt (x : IV) | bk (l : Loc) | ct (l : Loc)
inductive RS where
  | ok (f : Fl) (h : Hv) | exc (c : Str) (fs : List (Str × IV)) (l : Loc) (h : Hv) | bad
abbrev MS := Loc → Hv → RS
def PstS (X : Cx) (r : List Addr) (H : Hp) (res : RS) (D : Ends) (W : WX) : Prop :=
  match res with
  | .ok (.nx l') h' => ∀ r' H' s', Nxt r H r' H' → Sim X r' l' h' s' H' → D.nx s' H'
  | .ok (.rt x) h' => ∀ r' H' v, Nxt r H r' H' → HSim X.wd X.K X.mg r' h' H' → RV X.wd X.K X.mg r' H' x v → D.rt v H'
  | .ok (.bk l') h' => ∀ r' H' s', Nxt r H r' H' → Sim X r' l' h' s' H' → D.bk s' H'
  | .ok (.ct l') h' => ∀ r' H' s', Nxt r H r' H' → Sim X r' l' h' s' H' → D.ct s' H'
  | .exc c fs l' h' => ∀ r' H' s' cls d, Nxt r H r' H' → Sim X r' l' h' s' H' → ExcAt X.wd X.K X.mg r' H' c fs cls d → W cls d s' H'
  | .bad => False
theorem PstS.mono {X : Cx} {r r1 : List Addr} {H H1 : Hp} {res : RS} {D : Ends} {W : WX} (p : PstS X r H res D W) (n : Nxt r H r1 H1) : PstS X r1 H1 res D W := by
  cases res with
  | ok f h' =>
    cases f with
    | nx l' => exact fun r' H' s' n' => p r' H' s' (n.trans n')
    | rt x => exact fun r' H' s' n' => p r' H' s' (n.trans n')
    | bk l' => exact fun r' H' s' n' => p r' H' s' (n.trans n')
    | ct l' => exact fun r' H' s' n' => p r' H' s' (n.trans n')
  | exc c fs l' h' => exact fun r' H' s' cls d n' => p r' H' s' cls d (n.trans n')
  | bad => exact p
structure SimS (X : Cx) (W : WX) (st : Stmt) (m : MS) : Prop where
  run : ∀ r l h s H D, Sim X r l h s H → PstS X r H (m l h) D W → bS X st D s H
instance {X : Cx} {W : WX} {st : Stmt} {m : MS} : CoeFun (SimS X W st m) (fun _ => ∀ r l h s H D, Sim X r l h s H → PstS X r H (m l h) D W → bS X st D s H) := ⟨fun q => q.run⟩
structure SimSs (X : Cx) (W : WX) (st : List Stmt) (m : MS) : Prop where
  run : ∀ r l h s H D, Sim X r l h s H → PstS X r H (m l h) D W → bSs X st D s H
instance {X : Cx} {W : WX} {st : List Stmt} {m : MS} : CoeFun (SimSs X W st m) (fun _ => ∀ r l h s H D, Sim X r l h s H → PstS X r H (m l h) D W → bSs X st D s H) := ⟨fun q => q.run⟩
def bindS {A : Type} (x : R A) (l : Loc) (k : A → Hv → RS) : RS := match x with | .ok a h => k a h | .exc c fs h => .exc c fs l h | .bad => .bad
section
variable {X : Cx} {W : WX} {e a b c : Expr} {es : List Expr} {m ma mb mc : ME} {pos : Pos} {r : List Addr} {l : Loc} {h : Hv} {s : L2.St} {H : Hp} {D : Ends}
theorem PstS.bind {A B : Type} {L : List Addr → Hp → A → B → Prop} {res : R A} {k : A → Hv → RS} {Q' : B → Hp → Prop} (p : PstS X r H (bindS res l k) D W) (S : Sim X r l h s H)
    (hk : ∀ x h1 r1 H1 v, res = .ok x h1 → Sim X r1 l h1 s H1 → Nxt r H r1 H1 → L r1 H1 x v → PstS X r1 H1 (k x h1) D W → Q' v H1) : Pst X.wd X.K X.mg L r H res Q' (fun c d H' => W c d s H') := by
  cases res with
  | ok x h' => exact fun r' H' v n' S' q => hk x h' r' H' v rfl (S.next n' S') n' q (PstS.mono (res := k x h') p n')
  | exc c fs h' => exact fun r' H' cls d n' S' q => p r' H' s cls d n' (S.next n' S') q
  | bad => exact p
theorem SimE.thnS (q : SimE X W e m) (S : Sim X r l h s H) {k : IV → Hv → RS} {Q' : VK} (p : PstS X r H (bindS (m l h) l k) D W)
    (hk : ∀ x h1 r1 H1 v, m l h = .ok x h1 → Sim X r1 l h1 s H1 → Nxt r H r1 H1 → RV X.wd X.K X.mg r1 H1 x v → PstS X r1 H1 (k x h1) D W → Q' v H1) : bE X e s H Q' := q r l h s H Q' S (p.bind S hk)
theorem SimT.thnS {m : MB} (q : SimT X W e m) (S : Sim X r l h s H) {k : Bool → Hv → RS} {Q' : Bool → Hp → Prop} (p : PstS X r H (bindS (m l h) l k) D W)
    (hk : ∀ x h1 r1 H1, m l h = .ok x h1 → Sim X r1 l h1 s H1 → Nxt r H r1 H1 → PstS X r1 H1 (k x h1) D W → Q' x H1) : bT X e s H Q' :=
  q r l h s H Q' S (p.bind S fun x h1 r1 H1 v e1 S1 n1 q1 p1 => by cases q1; exact hk x h1 r1 H1 e1 S1 n1 p1)
theorem SimA.thnS {m : MA} (q : SimA X W es m) (S : Sim X r l h s H) {k : List IV → Hv → RS} {Q' : List V → Hp → Prop} (p : PstS X r H (bindS (m l h) l k) D W)
    (hk : ∀ x h1 r1 H1 v, m l h = .ok x h1 → Sim X r1 l h1 s H1 → Nxt r H r1 H1 → RVs X.wd X.K X.mg r1 H1 x v → PstS X r1 H1 (k x h1) D W → Q' v H1) : bA X es s H Q' := q r l h s H Q' S (p.bind S hk)
end
/-! ### blocks -/
section
variable {X : Cx} {W : WX} {e a b c o : Expr} {es : List Expr} {st : Stmt} {sts rest : List Stmt} {m ma mb mc mo : ME} {ms ns : MS} {tc : MB} {pos pos' : Pos}
def nilS : MS := fun l h => .ok (.nx l) h
def seqS (m n : MS) : MS := fun l h => match m l h with | .ok (.nx l1) h1 => n l1 h1 | x => x
theorem sims_nil : SimSs X W [] nilS := ⟨fun r l h s H D S p => toSs pss_nil (p r H s (Nxt.refl S.hs) S)⟩
theorem sims_cons (h1 : SimS X W st ms) (h2 : SimSs X W rest ns) : SimSs X W (st :: rest) (seqS ms ns) := by
  refine ⟨fun r l h s H D S p => ?_⟩
  refine toSs (pss_cons pbS pbSs) ?_
  refine h1 r l h s H { D with nx := bSs X rest D } S ?_
  unfold seqS at p
  cases e : ms l h with
  | ok f h' =>
    rw [e] at p
    cases f with
    | nx l' => exact fun r' H' s' n' S' => h2 r' l' h' s' H' D S' (PstS.mono (res := ns l' h') p n')
    | rt x => exact p
    | bk l' => exact p
    | ct l' => exact p
  | exc c fs l' h' => rw [e] at p; exact p
  | bad => rw [e] at p; exact p
theorem sims_one (h1 : SimS X W st ms) : SimSs X W [st] ms := ⟨fun r l h s H D S p => toSs (pss_one pbS) (h1 r l h s H D S p)⟩
def passS : MS := fun l h => .ok (.nx l) h
theorem sim_pass : SimS X W (.Pass pos) passS := ⟨fun r l h s H D S p => toS ps_pass (p r H s (Nxt.refl S.hs) S)⟩
theorem sim_break : SimS X W (.Break pos) (fun l h => .ok (.bk l) h) := ⟨fun r l h s H D S p => toS ps_break (p r H s (Nxt.refl S.hs) S)⟩
theorem sim_continue : SimS X W (.Continue pos) (fun l h => .ok (.ct l) h) := ⟨fun r l h s H D S p => toS ps_continue (p r H s (Nxt.refl S.hs) S)⟩
/-- what is never come to -/
def badS : MS := fun _ _ => .bad
theorem sim_never : SimS X W st badS := ⟨fun r l h s H D S p => p.elim⟩
theorem sime_never : SimE X W e (fun _ _ => .bad) := ⟨fun r l h s H D S p => p.elim⟩
def exprS (m : ME) : MS := fun l h => bindS (m l h) l fun _ h1 => .ok (.nx l) h1
theorem sim_expr (he : SimE X W e m) (hs : swapsWith e none pos.line X.env = pure false := by rfl) : SimS X W (.Expr e pos) (exprS m) := by
  refine ⟨fun r l h s H D S p => ?_⟩
  refine toS (ps_expr pbE hs) ?_
  exact he.thnS S p fun x h1 r1 H1 v _ S1 n1 q1 p1 => p1 r1 H1 s (Nxt.refl S1.hs) S1
def retS (m : ME) : MS := fun l h => bindS (m l h) l fun x h1 => .ok (.rt x) h1
theorem sim_ret (he : SimE X W e m) : SimS X W (.Return (some e) pos) (retS m) := by
  refine ⟨fun r l h s H D S p => ?_⟩
  refine toS (ps_ret pbE) ?_
  exact he.thnS S p fun x h1 r1 H1 v _ S1 n1 q1 p1 => p1 r1 H1 v (Nxt.refl S1.hs) S1.hs q1
theorem sim_retN : SimS X W (.Return none pos) (fun l h => .ok (.rt .non) h) := ⟨fun r l h s H D S p => toS ps_retN (p r H .non (Nxt.refl S.hs) S.hs (by simp))⟩
def ifS (t : MB) (m n : MS) : MS := fun l h => bindS (t l h) l fun k h1 => if k = true then m l h1 else n l h1
theorem sim_ifS {x y : List Stmt} (hc : SimT X W c tc) (ha : SimSs X W x ms) (hb : SimSs X W y ns) : SimS X W (.If c x y pos) (ifS tc ms ns) := by
  refine ⟨fun r l h s H D S p => ?_⟩
  refine toS (ps_if pbT pbSs pbSs) ?_
  refine hc.thnS S p fun k h1 r1 H1 _ S1 n1 p1 => ?_
  cases k with
  | true => rw [if_pos rfl] at p1 ⊢; exact ha _ _ _ _ _ _ S1 p1
  | false => rw [if_neg Bool.false_ne_true] at p1 ⊢; exact hb _ _ _ _ _ _ S1 p1
/-- x = e -/
def setS (i : Nat) (m : ME) : MS := fun l h => bindS (m l h) l fun x h1 => .ok (.nx (l.set i (some x))) h1
theorem sim_set (C : Cok X W) (i : Nat) {x : Str} (he : SimE X W e m) (hi : X.N[i]? = some x := by rfl) (hx : L2.Loc X.env.scope x := by first | exact Or.inl rfl | exact Or.inr rfl) (hs : swapsWith e (some (.Name x pos')) pos.line X.env = pure false := by rfl)
    (hf : X.fn x = true ∨ X.env.scope.names.lookup x = some .local := by first | exact .inl rfl | exact .inr rfl) : SimS X W (.Assign [.Name x pos'] e pos) (setS i m) := by
  refine ⟨fun r l h s H D S p => ?_⟩
  refine toS (ps_set C.nd hi hx pbE hs hf) ?_
  exact he.thnS S p fun y h1 r1 H1 v _ S1 n1 q1 p1 => p1 r1 H1 _ (Nxt.refl S1.hs) ⟨S1.hs, S1.lo.set q1⟩
end
end Hs
end

section
set_option Elab.async false
set_option linter.all false
set_option maxRecDepth 100000
set_option maxHeartbeats 4000000
namespace Hs
open PySem L2

/-! ### targets: names, tuples of targets -/
abbrev MG := IV → Loc → Option Loc
def bG (X : Cx) (t : Expr) : TG := fun v s H Q => ∀ pins sh u, Inv X pins s H sh → RelV v u → wpAny (model X.prog X.w) X.A (assign t X.env u) (fun _ s' => ∃ σ' H', Inv X pins σ' H' s' ∧ Q σ' H') X.xe sh
theorem pbG {X : Cx} {t : Expr} : PG X t (bG X t) := ⟨fun pins sh s H v u Q I r h => h pins sh u I r⟩
/-- only the slots sl are stored -/
def OnlyAt (sl : List Nat) (s s' : L2.St) : Prop := s'.length = s.length ∧ ∀ i, i ∉ sl → s'[i]? = s[i]?
structure SimG (X : Cx) (t : Expr) (g : MG) (sl : List Nat) : Prop where
  run : ∀ r l h s H x v l' Q, Sim X r l h s H → RV X.wd X.K X.mg r H x v → g x l = some l' → (∀ s', Sim X r l' h s' H → OnlyAt sl s s' → Q s' H) → bG X t v s H Q
instance {X : Cx} {t : Expr} {g : MG} {sl : List Nat} : CoeFun (SimG X t g sl) (fun _ => ∀ r l h s H x v l' Q, Sim X r l h s H → RV X.wd X.K X.mg r H x v → g x l = some l' → (∀ s', Sim X r l' h s' H → OnlyAt sl s s' → Q s' H) → bG X t v s H Q) := ⟨fun q => q.run⟩
def nameG (i : Nat) : MG := fun x l => some (l.set i (some x))
abbrev MGs := List IV → Loc → Option Loc
def bGs (X : Cx) (ts : List Expr) : TGs := fun vs s H Q => ∀ pins sh us, Inv X pins s H sh → Vals vs us → wpAny (model X.prog X.w) X.A (assignInOrder ((assignEach ts X.env).map (·.2)) us) (fun _ s' => ∃ σ' H', Inv X pins σ' H' s' ∧ Q σ' H') X.xe sh
theorem pbGs {X : Cx} {t : List Expr} : PGs X t (bGs X t) := ⟨fun pins sh s H v u Q I r h => h pins sh u I r⟩
structure SimGs (X : Cx) (t : List Expr) (g : MGs) (sl : List Nat) : Prop where
  run : ∀ r l h s H x v l' Q, Sim X r l h s H → RVs X.wd X.K X.mg r H x v → g x l = some l' → (∀ s', Sim X r l' h s' H → OnlyAt sl s s' → Q s' H) → bGs X t v s H Q
instance {X : Cx} {t : List Expr} {g : MGs} {sl : List Nat} : CoeFun (SimGs X t g sl) (fun _ => ∀ r l h s H x v l' Q, Sim X r l h s H → RVs X.wd X.K X.mg r H x v → g x l = some l' → (∀ s', Sim X r l' h s' H → OnlyAt sl s s' → Q s' H) → bGs X t v s H Q) := ⟨fun q => q.run⟩
def nilG : MGs := fun xs l => match xs with | [] => some l | _ => none
def consG (g : MG) (gs : MGs) : MGs := fun xs l => match xs with | x :: r => (g x l).bind (gs r) | [] => none
def tupG (n : Nat) (gs : MGs) : MG := fun x l => match tupOf x with | some xs => if xs.length = n then gs xs l else none | none => none
section
variable {X : Cx} {W : WX} {e : Expr} {es : List Expr} {g : MG} {gs : MGs} {sl sl' : List Nat} {pos : Pos}
theorem simg_name (nd : X.N.Nodup) (i : Nat) {x : Str} (hi : X.N[i]? = some x := by rfl) (hx : L2.Loc X.env.scope x := by first | exact Or.inl rfl | exact Or.inr rfl)
    (hf : X.fn x = true ∨ X.env.scope.names.lookup x = some .local := by first | exact .inl rfl | exact .inr rfl) : SimG X (.Name x pos) (nameG i) [i] := by
  refine ⟨fun r l h s H x v l' Q S q e k => ?_⟩
  intro pins sh u I ru
  cases e
  exact (pg_name nd hi hx hf).run pins sh s H v u Q I ru (k _ ⟨S.hs, S.lo.set q⟩ ⟨by simp, fun j hj => List.getElem?_set_ne (fun z => hj (by simp [z]))⟩)
theorem simg_nil : SimGs X [] nilG [] := by
  refine ⟨fun r l h s H x v l' Q S q e k => ?_⟩
  intro pins sh u I ru
  cases x with
  | nil =>
    cases e
    rw [RVs_nil] at q
    exact pgs_nil.run pins sh s H v u Q I ru ⟨q, k s S ⟨rfl, fun _ _ => rfl⟩⟩
  | cons _ _ => cases e
theorem simg_cons (h1 : SimG X e g sl) (h2 : SimGs X es gs sl') (hs : (assignEach (e :: es) X.env).map (·.2) = assign e X.env :: (assignEach es X.env).map (·.2) := by rfl) : SimGs X (e :: es) (consG g gs) (sl ++ sl') := by
  refine ⟨fun r l h s H x v l' Q S q e k => ?_⟩
  intro pins sh u I ru
  cases x with
  | nil => cases e
  | cons y ys =>
    obtain ⟨w, t, rfl, q1, q2⟩ := RVs_cons.mp q
    simp only [consG, Option.bind_eq_some_iff] at e
    obtain ⟨l1, e1, e2⟩ := e
    refine (pgs_cons pbG pbGs hs).run pins sh s H _ u Q I ru ⟨w, t, rfl, ?_⟩
    exact h1 r l h s H y w l1 _ S q1 e1 fun s1 S1 o1 => h2 r l1 h s1 H ys t l' Q S1 q2 e2 fun s2 S2 o2 => k s2 S2 ⟨o2.1.trans o1.1, fun i hi => (o2.2 i fun z => hi (List.mem_append_right _ z)).trans (o1.2 i fun z => hi (List.mem_append_left _ z))⟩
theorem simg_tup {k n : Nat} (hc : X.calm = true) (h1 : SimGs X es gs sl) (hn : (assignEach es X.env).length = n := by rfl) (hst : (assignEach es X.env).findIdx? (·.1) = none := by rfl) : SimG X (.Tuple es k pos) (tupG n gs) sl := by
  refine ⟨fun r l h s H x v l' Q S q e k' => ?_⟩
  intro pins sh u I ru
  simp only [tupG] at e
  split at e
  · rename_i xs e1
    split at e
    · rename_i hl
      obtain ⟨a, vs, rfl, f1, _, f2⟩ := tupOf_ok e1 q
      refine (pg_tup hc pbGs hn hst).run pins sh s H _ u Q I ru ⟨a, vs, rfl, f1, by rw [← f2.length]; exact hl, ?_⟩
      exact h1 r l h s H xs vs l' Q S f2 e k'
    · cases e
  · cases e
/-- target = e -/
def asgS (g : MG) (m : ME) : MS := fun l h => bindS (m l h) l fun x h1 => match g x l with | some l' => .ok (.nx l') h1 | none => .bad
theorem sim_asg {tg : Expr} {m : ME} (he : SimE X W e m) (hg : SimG X tg g sl) (hs : swapsWithSole [tg] e pos.line X.env = pure false := by rfl) (hw : swappedStores [tg] e X.env = pure none := by rfl)
    (h1 : (assignEach [tg] X.env).map (·.2) = [assign tg X.env] := by rfl) : SimS X W (.Assign [tg] e pos) (asgS g m) := by
  refine ⟨fun r l h s H D S p => ?_⟩
  refine toS (ps_asg pbE pbG hs hw h1) ?_
  refine he.thnS S p fun x h1 r1 H1 v _ S1 n1 q1 p1 => ?_
  split at p1
  · rename_i l' e1
    exact hg r1 l h1 s H1 x v l' _ S1 q1 e1 fun s' S' _ => p1 r1 H1 s' (Nxt.refl S1.hs) S'
  · exact p1.elim
/-- a, b = x, y ; a, b, c = x, y, z -/
def par2S (i j : Nat) (ms : MA) : MS := fun l h => bindS (ms l h) l fun xs h1 => match xs with | [x, y] => .ok (.nx ((l.set i (some x)).set j (some y))) h1 | _ => .bad
theorem sim_par2 (C : Cok X W) (i j : Nat) {x y : Str} {a b : Expr} {ms : MA} {px py pt pt2 : Pos} {kt k2 : Nat} (ha : SimA X W [a, b] ms) (hi : X.N[i]? = some x := by rfl) (hj : X.N[j]? = some y := by rfl) (hij : i ≠ j := by decide)
    (hx : X.env.scope.names.lookup x = some .local := by rfl) (hy : X.env.scope.names.lookup y = some .local := by rfl)
    (hw : swappedStores [.Tuple [.Name x px, .Name y py] kt pt] (.Tuple [a, b] k2 pt2) X.env = pure (some [x, y]) := by rfl)
    (hs : swapsWithSole [.Tuple [.Name x px, .Name y py] kt pt] (.Tuple [a, b] k2 pt2) pos.line X.env = pure false := by rfl) : SimS X W (.Assign [.Tuple [.Name x px, .Name y py] kt pt] (.Tuple [a, b] k2 pt2) pos) (par2S i j ms) := by
  refine ⟨fun r l h s H D S p => ?_⟩
  refine toS (ps_par C.calm C.nd hi hj hij hx hy pbA hw hs) ?_
  refine ha.thnS S p fun xs h1 r1 H1 vs _ S1 n1 q1 p1 => ?_
  split at p1
  · obtain ⟨v, u, rfl, q2, q3⟩ := q1.two
    exact ⟨v, u, rfl, p1 r1 H1 _ (Nxt.refl S1.hs) ⟨S1.hs, (S1.lo.set q2).set q3⟩⟩
  · exact p1.elim
theorem RVs.three {wd : Wd} {K : PySem.W.Frag} {mg : Str → Option Value} {r : List Addr} {H : Hp} {x y z : IV} {vs : List V} (q : RVs wd K mg r H [x, y, z] vs) : ∃ v u w, vs = [v, u, w] ∧ RV wd K mg r H x v ∧ RV wd K mg r H y u ∧ RV wd K mg r H z w := by
  obtain ⟨v, t, rfl, q1, q2⟩ := RVs_cons.mp q
  obtain ⟨u, w, rfl, q3, q4⟩ := q2.two
  exact ⟨v, u, w, rfl, q1, q3, q4⟩
def par3S (i j k : Nat) (ms : MA) : MS := fun l h => bindS (ms l h) l fun xs h1 => match xs with | [x, y, z] => .ok (.nx (((l.set i (some x)).set j (some y)).set k (some z))) h1 | _ => .bad
theorem sim_par3 (C : Cok X W) (i j k : Nat) {x y z : Str} {a b c : Expr} {ms : MA} {px py pz pt pt2 : Pos} {kt k2 : Nat} (ha : SimA X W [a, b, c] ms) (hi : X.N[i]? = some x := by rfl) (hj : X.N[j]? = some y := by rfl) (hk : X.N[k]? = some z := by rfl)
    (hij : i ≠ j := by decide) (hik : i ≠ k := by decide) (hjk : j ≠ k := by decide)
    (hx : X.env.scope.names.lookup x = some .local := by rfl) (hy : X.env.scope.names.lookup y = some .local := by rfl) (hz : X.env.scope.names.lookup z = some .local := by rfl)
    (hw : swappedStores [.Tuple [.Name x px, .Name y py, .Name z pz] kt pt] (.Tuple [a, b, c] k2 pt2) X.env = pure (some [x, y, z]) := by rfl)
    (hs : swapsWithSole [.Tuple [.Name x px, .Name y py, .Name z pz] kt pt] (.Tuple [a, b, c] k2 pt2) pos.line X.env = pure false := by rfl) :
    SimS X W (.Assign [.Tuple [.Name x px, .Name y py, .Name z pz] kt pt] (.Tuple [a, b, c] k2 pt2) pos) (par3S i j k ms) := by
  refine ⟨fun r l h s H D S p => ?_⟩
  refine toS (ps_par3 C.calm C.nd hi hj hk hij hik hjk hx hy hz pbA hw hs) ?_
  refine ha.thnS S p fun xs h1 r1 H1 vs _ S1 n1 q1 p1 => ?_
  split at p1
  · obtain ⟨v, u, w, rfl, q2, q3, q4⟩ := q1.three
    exact ⟨v, u, w, rfl, p1 r1 H1 _ (Nxt.refl S1.hs) ⟨S1.hs, ((S1.lo.set q2).set q3).set q4⟩⟩
  · exact p1.elim
end

/-! ### what is walked -/
inductive Src where
  | seq (x : IV) | enm (x : IV) | zip (x y : IV) | its (xs : List IV)
def itemAt : Src → Hv → Nat → Option (Option IV)
  | .seq x, h, i => (seqOf h x).map fun xs => xs[i]?
  | .enm x, h, i => (lstOf h x).map fun xs => xs[i]?.map fun y => .tup [.int i, y]
  | .zip x y, h, i => match lstOf h x, lstOf h y with
    | some xs, some ys => some (match xs[i]?, ys[i]? with | some a, some b => some (.tup [a, b]) | _, _ => none)
    | _, _ => none
  | .its xs, _, i => some xs[i]?
def srcLen : Src → Hv → Nat
  | .seq x, h => match seqOf h x with | some xs => xs.length | none => 0
  | .enm x, h => match lstOf h x with | some xs => xs.length | none => 0
  | .zip x _, h => match lstOf h x with | some xs => xs.length | none => 0
  | .its xs, _ => xs.length
/-- the iterator J goes as the source says, from (r0, H0) on -/
def JSim (X : Cx) (r0 : List Addr) (H0 : Hp) (J : It) (src : Src) : Prop := ∀ r h H i, Nxt r0 H0 r H → HSim X.wd X.K X.mg r h H →
  match itemAt src h i with
  | some none => J.stop i H
  | some (some x) => J.go i H ∧ ∀ v H', J.yld i H v H' → Nxt r H r H' ∧ HSim X.wd X.K X.mg r h H' ∧ RV X.wd X.K X.mg r H' x v
  | none => True
abbrev MI := Loc → Hv → R Src
def bI (X : Cx) (tg e : Expr) : TI := fun s H Rr => ∀ pins sh, Inv X pins s H sh → wpAny (model X.prog X.w) X.A (eval e X.env) (fun v s1 => wpAny (model X.prog X.w) X.A (pyIter v) (PIE X pins s tg Rr) X.xe s1) X.xe sh
theorem pbI {X : Cx} {tg e : Expr} : PI X tg e (bI X tg e) := ⟨fun pins sh s H Q I h => h pins sh I⟩
theorem toI {X : Cx} {tg e : Expr} {t : TI} {s : L2.St} {H : Hp} {Q : It → Hp → Prop} (p : PI X tg e t) (h : t s H Q) : bI X tg e s H Q := fun pins sh I => p.run pins sh s H Q I h
structure SimI (X : Cx) (W : WX) (tg e : Expr) (m : MI) : Prop where
  run : ∀ r l h s H Q, Sim X r l h s H → Pst X.wd X.K X.mg (fun r' H' x J => JSim X r' H' J x) r H (m l h) Q (fun c d H' => W c d s H') → bI X tg e s H Q
instance {X : Cx} {W : WX} {tg e : Expr} {m : MI} : CoeFun (SimI X W tg e m) (fun _ => ∀ r l h s H Q, Sim X r l h s H → Pst X.wd X.K X.mg (fun r' H' x J => JSim X r' H' J x) r H (m l h) Q (fun c d H' => W c d s H') → bI X tg e s H Q) := ⟨fun q => q.run⟩
section
variable {X : Cx} {W : WX} {tg e e2 : Expr} {m : ME} {ms : MA} {p pos : Pos}
def seqI (m : ME) : MI := fun l h => bindR (m l h) fun x h1 => match x with
  | .str z => .ok (.its (z.cps.toList.map fun c => .str ⟨#[c]⟩)) h1
  | x => match seqOf h1 x with | some _ => .ok (.seq x) h1 | none => .bad
theorem SqL.fun_ {K : PySem.W.Frag} {H : Hp} {a : Addr} {xs ys : List V} (h1 : SqL K H a xs) (h2 : SqL K H a ys) : True := trivial
theorem jsim_list {r0 : List Addr} {H0 : Hp} {x : IV} {a : Addr} (q : RV X.wd X.K X.mg r0 H0 x (.ref a)) (ht : tupOf x = none) : JSim X r0 H0 (Itl X.K a) (.seq x) := by
  intro r h H i n S
  have q' := RV.mono n _ _ q
  simp only [itemAt, seqOf, ht]
  cases e : lstOf h x with
  | none => trivial
  | some xs =>
    simp only [Option.map_some]
    obtain ⟨b, vs, eb, f1, f2⟩ := lstOf_ok S e q'
    cases eb
    cases e2 : xs[i]? with
    | none => exact ⟨vs, f1, by rw [← f2.length]; exact List.getElem?_eq_none_iff.mp e2⟩
    | some y =>
      obtain ⟨v, e3, q3⟩ := f2.get e2
      refine ⟨⟨vs, v, f1, e3⟩, fun v' H' hy => ?_⟩
      obtain ⟨rfl, hy⟩ := hy
      have := hy vs f1
      rw [e3] at this; cases this
      exact ⟨Nxt.refl S, S, q3⟩
theorem jsim_tup {r0 : List Addr} {H0 : Hp} {x : IV} {a : Addr} {xs : List IV} (q : RV X.wd X.K X.mg r0 H0 x (.ref a)) (ht : tupOf x = some xs) : JSim X r0 H0 (Itt X.K a) (.seq x) := by
  intro r h H i n S
  have q' := RV.mono n _ _ q
  simp only [itemAt, seqOf, ht, Option.map_some]
  obtain ⟨b, vs, eb, f1, _, f2⟩ := tupOf_ok ht q'
  cases eb
  cases e2 : xs[i]? with
  | none => exact ⟨vs, f1, by rw [← f2.length]; exact List.getElem?_eq_none_iff.mp e2⟩
  | some y =>
    obtain ⟨v, e3, q3⟩ := f2.get e2
    refine ⟨⟨vs, v, f1, e3⟩, fun v' H' hy => ?_⟩
    obtain ⟨rfl, hy⟩ := hy
    have := hy vs f1
    rw [e3] at this; cases this
    exact ⟨Nxt.refl S, S, q3⟩
theorem jsim_its {r0 : List Addr} {H0 : Hp} {J : It} {xs : List IV} {vs : List V} (len : xs.length = vs.length) (rel : ∀ (r : List Addr) (H : Hp) (i : Nat) (x : IV) (v : V), xs[i]? = some x → vs[i]? = some v → RV X.wd X.K X.mg r H x v)
    (stop : ∀ i H, vs.length ≤ i → J.stop i H) (go : ∀ i H, i < vs.length → J.go i H) (yld : ∀ i H v H', i < vs.length → J.yld i H v H' → H' = H ∧ vs[i]? = some v) : JSim X r0 H0 J (.its xs) := by
  intro r h H i n S
  simp only [itemAt]
  cases e : xs[i]? with
  | none => exact stop i H (by rw [← len]; exact List.getElem?_eq_none_iff.mp e)
  | some x =>
    have hl : i < vs.length := by rw [← len]; exact (List.getElem?_eq_some_iff.mp e).1
    refine ⟨go i H hl, fun v H' hy => ?_⟩
    obtain ⟨e1, e2⟩ := yld i H v H' hl hy
    subst e1
    exact ⟨Nxt.refl S, S, rel r H' i x v e e2⟩
theorem simi_seq (he : SimE X W e m) : SimI X W tg e (seqI m) := by
  refine ⟨fun r l h s H Q S q => ?_⟩
  cases e1 : m l h with
  | bad => simp only [seqI, e1, bindR] at q; exact q.elim
  | exc c fs h' => exact toI (pi_list pbE) (he.thn S q fun x h1 r1 H1 v e2 => by rw [e1] at e2; cases e2)
  | ok x h1 =>
    cases x with
    | str z =>
      refine toI (pi_str pbE) (he.thn S q fun x h1 r1 H1 v e2 S1 n1 q1 p1 => ?_)
      rw [e1] at e2; cases e2
      rw [RV_str] at q1; subst q1
      refine ⟨z, rfl, p1 r1 H1 _ (Nxt.refl S1.hs) S1.hs ?_⟩
      refine jsim_its (vs := z.cps.toList.map fun c => V.str ⟨#[c]⟩) (by simp) (fun r H i x v h1 h2 => ?_) (fun i H h => ?_) (fun i H h => ?_) (fun i H v H' _ h => ?_)
      · rw [List.getElem?_map] at h1 h2
        cases ez : z.cps.toList[i]? with
        | none => rw [ez] at h1; cases h1
        | some c => rw [ez] at h1 h2; cases h1; cases h2; simp
      · simpa [Its] using h
      · simpa [Its] using h
      · obtain ⟨rfl, c, e, rfl⟩ := h
        refine ⟨rfl, ?_⟩
        rw [List.getElem?_map, Array.getElem?_toList, e]; rfl
    | tup xs =>
      refine toI (pi_tup pbE) (he.thn S q fun x h1 r1 H1 v e2 S1 n1 q1 p1 => ?_)
      rw [e1] at e2; cases e2
      have q1' := q1
      obtain ⟨a, vs, rfl, f1, f2⟩ := RV_tup.mp q1
      exact ⟨a, rfl, ⟨vs, f1.sq⟩, p1 r1 H1 _ (Nxt.refl S1.hs) S1.hs (jsim_tup q1' rfl)⟩
    | _ =>
      refine toI (pi_list pbE) (he.thn S q fun x h1 r1 H1 v e2 S1 n1 q1 p1 => ?_)
      rw [e1] at e2; cases e2
      simp only at p1
      split at p1
      · rename_i xs e3
        have e4 := e3
        simp only [seqOf, tupOf] at e3
        obtain ⟨a, vs, rfl, f1, f2⟩ := lstOf_ok S1.hs e3 q1
        exact ⟨a, rfl, ⟨vs, f1⟩, p1 r1 H1 _ (Nxt.refl S1.hs) S1.hs (jsim_list q1 rfl)⟩
      · exact p1.elim
def intsTo (lo : Int) (n : Nat) : List IV := (List.range n).map fun (i : Nat) => .int (lo + i)
def rng1 (ms : MA) : MI := fun l h => bindR (ms l h) fun xs h1 => match xs with | [.int j] => if -(2 ^ 62) ≤ j ∧ j < 2 ^ 62 then .ok (.its (intsTo 0 j.toNat)) h1 else .bad | _ => .bad
def rng2 (ms : MA) : MI := fun l h => bindR (ms l h) fun xs h1 => match xs with | [.int i, .int j] => if -(2 ^ 62) ≤ i ∧ i < 2 ^ 62 ∧ -(2 ^ 62) ≤ j ∧ j < 2 ^ 62 then .ok (.its (intsTo i (j - i).toNat)) h1 else .bad | _ => .bad
theorem jsim_rng {r0 : List Addr} {H0 : Hp} {lo : Int} {n : Nat} : JSim X r0 H0 (Itr lo n) (.its (intsTo lo n)) := by
  refine jsim_its (vs := (List.range n).map fun (i : Nat) => V.int (lo + i)) (by simp [intsTo]) (fun r H i x v h1 h2 => ?_) (fun i H h => by simpa [Itr] using h) (fun i H h => by simpa [Itr] using h) (fun i H v H' hl h => ?_)
  · simp only [intsTo, List.getElem?_map] at h1 h2
    cases ez : (List.range n)[i]? with
    | none => rw [ez] at h1; cases h1
    | some c => rw [ez] at h1 h2; cases h1; cases h2; simp
  · obtain ⟨rfl, rfl⟩ := h
    have hl' : i < n := by simpa using hl
    refine ⟨rfl, ?_⟩
    rw [List.getElem?_map, List.getElem?_range hl']; rfl
theorem simi_rng1 {a : Expr} (hm : X.mg "range" = none) (ha : SimA X W [a] ms) (hg : Gl X "range" := by rfl) (hs : starEach [a] X.env = [(false, eval a X.env)] := by rfl) : SimI X W tg (.Call (.Name "range" p) [a] [] pos) (rng1 ms) := by
  refine ⟨fun r l h s H Q S q => ?_⟩
  refine toI (pi_range1 hg hm pbA hs) (ha.thn S q fun xs h1 r1 H1 vs _ S1 n1 q1 p1 => ?_)
  split at p1
  · split at p1
    · rename_i hz
      obtain ⟨v, rfl, q2⟩ := q1.one
      rw [RV_int] at q2; subst q2
      exact ⟨_, rfl, hz.1, hz.2, p1 r1 H1 _ (Nxt.refl S1.hs) S1.hs jsim_rng⟩
    · exact p1.elim
  · exact p1.elim
theorem simi_rng2 {a b : Expr} (hm : X.mg "range" = none) (ha : SimA X W [a, b] ms) (hg : Gl X "range" := by rfl) (hs : starEach [a, b] X.env = [(false, eval a X.env), (false, eval b X.env)] := by rfl) (hs2 : starEach [b] X.env = [(false, eval b X.env)] := by rfl) : SimI X W tg (.Call (.Name "range" p) [a, b] [] pos) (rng2 ms) := by
  refine ⟨fun r l h s H Q S q => ?_⟩
  refine toI (pi_range2 hg hm pbA hs hs2) (ha.thn S q fun xs h1 r1 H1 vs _ S1 n1 q1 p1 => ?_)
  split at p1
  · split at p1
    · rename_i hz
      obtain ⟨v, u, rfl, q2, q3⟩ := q1.two
      rw [RV_int] at q2 q3; subst q2 q3
      exact ⟨_, _, rfl, hz, p1 r1 H1 _ (Nxt.refl S1.hs) S1.hs jsim_rng⟩
    · exact p1.elim
  · exact p1.elim
/-- a new tuple that is yielded -/
theorem yl_tup {r : List Addr} {h : Hv} {H : Hp} {T : Addr} {xs : List IV} {vs : List V} (S : HSim X.wd X.K X.mg r h H) (hT : H T = none) (q : RVs X.wd X.K X.mg r H xs vs) :
    Nxt r H r (upd H T (.tup vs)) ∧ HSim X.wd X.K X.mg r h (upd H T (.tup vs)) ∧ RV X.wd X.K X.mg r (upd H T (.tup vs)) (.tup xs) (.ref T) := by
  obtain ⟨n, S'⟩ := S.grow (o := .tup vs) hT
  exact ⟨n, S', RV_tup.mpr ⟨T, vs, rfl, .inl ⟨S.fresh hT, .inl upd_same⟩, RVs.mono n _ _ q⟩⟩
def enmI (ms : MA) : MI := fun l h => bindR (ms l h) fun xs h1 => match xs with | [x] => (match lstOf h1 x with | some _ => .ok (.enm x) h1 | none => .bad) | _ => .bad
theorem simi_enum {elts : List Expr} {kk : Nat} {tpos : Pos} (hm : X.mg "enumerate" = none) (ha : SimA X W [e] ms) (hg : Gl X "enumerate" := by rfl) (hs : starEach [e] X.env = [(false, eval e X.env)] := by rfl) :
    SimI X W (.Tuple elts kk tpos) (.Call (.Name "enumerate" p) [e] [] pos) (enmI ms) := by
  refine ⟨fun r l h s H Q S q => ?_⟩
  refine toI (pi_enum hg hm pbA hs) (ha.thn S q fun xs h1 r1 H1 vs ex S1 n1 q1 p1 => ?_)
  split at p1
  · rename_i x
    split at p1
    · rename_i zs e1
      obtain ⟨v, rfl, q2⟩ := q1.one
      obtain ⟨a, us, rfl, f1, f2⟩ := lstOf_ok S1.hs e1 q2
      refine ⟨a, us, rfl, f1, p1 r1 H1 _ (Nxt.refl S1.hs) S1.hs ?_⟩
      intro r h H i n S'
      have q' := RV.mono n _ _ q2
      simp only [itemAt]
      cases e3 : lstOf h x with
      | none => trivial
      | some xs =>
        simp only [Option.map_some]
        obtain ⟨b, ws, eb, g1, g2⟩ := lstOf_ok S' e3 q'
        cases eb
        cases e4 : xs[i]? with
        | none => exact ⟨ws, g1, by rw [← g2.length]; exact List.getElem?_eq_none_iff.mp e4⟩
        | some y =>
          obtain ⟨w, e5, q5⟩ := g2.get e4
          refine ⟨⟨ws, w, g1, e5⟩, fun v' H' hy => ?_⟩
          obtain ⟨T, x', rfl, hT, rfl, hy⟩ := hy
          have := hy ws g1
          rw [e5] at this; cases this
          exact yl_tup S' hT (RVs_cons.mpr ⟨_, _, rfl, by simp, RVs_cons.mpr ⟨_, _, rfl, q5, by simp⟩⟩)
    · exact p1.elim
  · exact p1.elim
def zipI (ms : MA) : MI := fun l h => bindR (ms l h) fun xs h1 => match xs with | [x, y] => (match lstOf h1 x, lstOf h1 y with | some _, some _ => .ok (.zip x y) h1 | _, _ => .bad) | _ => .bad
theorem simi_zip {elts : List Expr} {kk : Nat} {tpos : Pos} (hm : X.mg "zip" = none) (ha : SimA X W [e, e2] ms) (hg : Gl X "zip" := by rfl) (hs : starEach [e, e2] X.env = (false, eval e X.env) :: starEach [e2] X.env := by rfl)
    (hpl : (backTo pos (starEach [e2] X.env)).any (·.1) = false := by rfl) : SimI X W (.Tuple elts kk tpos) (.Call (.Name "zip" p) [e, e2] [] pos) (zipI ms) := by
  refine ⟨fun r l h s H Q S q => ?_⟩
  refine toI (pi_zip hg hm pbA hs hpl) (ha.thn S q fun xs h1 r1 H1 vs ex S1 n1 q1 p1 => ?_)
  split at p1
  · rename_i x y
    split at p1
    · rename_i zs zs' e1 e1'
      obtain ⟨v, u, rfl, q2, q3⟩ := q1.two
      obtain ⟨a, us, rfl, f1, f2⟩ := lstOf_ok S1.hs e1 q2
      obtain ⟨b, us', rfl, f1', f2'⟩ := lstOf_ok S1.hs e1' q3
      refine ⟨a, b, us, us', rfl, f1, f1', p1 r1 H1 _ (Nxt.refl S1.hs) S1.hs ?_⟩
      intro r h H i n S'
      have qx := RV.mono n _ _ q2
      have qy := RV.mono n _ _ q3
      simp only [itemAt]
      cases e3 : lstOf h x with
      | none => trivial
      | some xs =>
        cases e3' : lstOf h y with
        | none => trivial
        | some ys =>
          obtain ⟨_, ws, eb, g1, g2⟩ := lstOf_ok S' e3 qx
          cases eb
          obtain ⟨_, ws', eb, g1', g2'⟩ := lstOf_ok S' e3' qy
          cases eb
          simp only
          cases e4 : xs[i]? with
          | none => exact ⟨ws, ws', g1, g1', .inl (by rw [← g2.length]; exact List.getElem?_eq_none_iff.mp e4)⟩
          | some x1 =>
            cases e4' : ys[i]? with
            | none => exact ⟨ws, ws', g1, g1', .inr (by rw [← g2'.length]; exact List.getElem?_eq_none_iff.mp e4')⟩
            | some y1 =>
              obtain ⟨w, e5, q5⟩ := g2.get e4
              obtain ⟨w', e5', q5'⟩ := g2'.get e4'
              refine ⟨⟨ws, ws', w, w', g1, g1', e5, e5'⟩, fun v' H' hy => ?_⟩
              obtain ⟨T, x', y', rfl, hT, rfl, hy, hy'⟩ := hy
              have := hy ws g1
              rw [e5] at this; cases this
              have := hy' ws' g1'
              rw [e5'] at this; cases this
              exact yl_tup S' hT (RVs_cons.mpr ⟨_, _, rfl, q5, RVs_cons.mpr ⟨_, _, rfl, q5', by simp⟩⟩)
    · exact p1.elim
  · exact p1.elim
end

/-! ### loops -/
def forGo (src : Src) (g : MG) (body : MS) : Nat → Nat → Loc → Hv → RS
  | 0, _, _, _ => .bad
  | k + 1, i, l, h => match itemAt src h i with
    | none => .bad
    | some none => .ok (.nx l) h
    | some (some x) => match g x l with
      | none => .bad
      | some l1 => match body l1 h with
        | .ok (.nx l2) h2 => forGo src g body k (i + 1) l2 h2
        | .ok (.ct l2) h2 => forGo src g body k (i + 1) l2 h2
        | .ok (.bk l2) h2 => .ok (.nx l2) h2
        | .ok (.rt v) h2 => .ok (.rt v) h2
        | .exc c fs l2 h2 => .exc c fs l2 h2
        | .bad => .bad
def forS (mi : MI) (g : MG) (body : MS) : MS := fun l h => bindS (mi l h) l fun src h1 => forGo src g body (srcLen src h1 + 1) 0 l h1
section
variable {X : Cx} {W : WX} {tg iter c : Expr} {sts : List Stmt} {mi : MI} {g : MG} {mb : MS} {tc : MB} {pos : Pos}
theorem sim_for {sl : List Nat} (C : Cok X W) (hi : SimI X W tg iter mi) (hg : SimG X tg g sl) (hb : SimSs X W sts mb) (hs : ∀ x, foldedSetIterable iter X.env x = pure x := by intro _; rfl) : SimS X W (.For tg iter sts [] pos) (forS mi g mb) := by
  refine ⟨fun r l h s H D S p => ?_⟩
  refine toS (ps_for C.po C.calm pbI pbG pbSs hs) ?_
  refine hi r l h s H _ S (p.bind S fun src h1 r1 H1 J _ S1 n1 j1 p1 => ?_)
  refine ⟨fun i m s2 H2 => ∃ r2 l2 h2, Nxt r1 H1 r2 H2 ∧ Sim X r2 l2 h2 s2 H2 ∧ PstS X r2 H2 (forGo src g mb m i l2 h2) D W, ⟨_, r1, l, h1, Nxt.refl S1.hs, S1, p1⟩, ?_⟩
  rintro i m s2 H2 ⟨r2, l2, h2, n2, S2, p2⟩
  cases m with
  | zero => exact p2.elim
  | succ k =>
    have J2 := j1 r2 h2 H2 i n2 S2.hs
    simp only [forGo] at p2
    cases e1 : itemAt src h2 i with
    | none => rw [e1] at p2; exact p2.elim
    | some o =>
      cases o with
      | none =>
        rw [e1] at p2 J2
        exact .inl ⟨J2, p2 r2 H2 s2 (Nxt.refl S2.hs) S2⟩
      | some x =>
        rw [e1] at p2 J2
        simp only at p2 J2
        obtain ⟨J3, J4⟩ := J2
        refine .inr ⟨J3, fun s' H' => ∃ r2 l2 h2, Nxt r1 H1 r2 H' ∧ Sim X r2 l2 h2 s' H' ∧ PstS X r2 H' (forGo src g mb k (i + 1) l2 h2) D W, fun s' H' q => ⟨k, Nat.lt_succ_self k, q⟩, fun v H3 hy => ?_⟩
        obtain ⟨n3, S3, q3⟩ := J4 v H3 hy
        have S3' : Sim X r2 l2 h2 s2 H3 := S2.next n3 S3
        cases e2 : g x l2 with
        | none => rw [e2] at p2; exact p2.elim
        | some l3 =>
          rw [e2] at p2
          simp only at p2
          refine hg r2 l2 h2 s2 H3 x v l3 _ S3' q3 e2 fun s3 S4 _ => ?_
          refine hb r2 l3 h2 s3 H3 _ S4 ?_
          have p3 := PstS.mono p2 n3
          cases e3 : mb l3 h2 with
          | bad => rw [e3] at p3; exact p3.elim
          | exc c fs l4 h4 => rw [e3] at p3; exact p3
          | ok f h4 =>
            rw [e3] at p3
            cases f with
            | nx l4 => exact fun r' H' s' n' S' => ⟨r', l4, h4, (n2.trans n3).trans n', S', PstS.mono (res := forGo src g mb k (i + 1) l4 h4) p3 n'⟩
            | ct l4 => exact fun r' H' s' n' S' => ⟨r', l4, h4, (n2.trans n3).trans n', S', PstS.mono (res := forGo src g mb k (i + 1) l4 h4) p3 n'⟩
            | bk l4 => exact p3
            | rt v4 => exact p3
def whileGo (t : MB) (body : MS) : Nat → Loc → Hv → RS
  | 0, _, _ => .bad
  | k + 1, l, h => bindS (t l h) l fun b h1 => if b = true then (match body l h1 with
      | .ok (.nx l2) h2 => whileGo t body k l2 h2
      | .ok (.ct l2) h2 => whileGo t body k l2 h2
      | .ok (.bk l2) h2 => .ok (.nx l2) h2
      | .ok (.rt v) h2 => .ok (.rt v) h2
      | .exc c fs l2 h2 => .exc c fs l2 h2
      | .bad => .bad) else .ok (.nx l) h1
def wfuel : Nat := 1000000000
def whileS (t : MB) (body : MS) : MS := fun l h => whileGo t body wfuel l h
theorem sim_while (C : Cok X W) (hc : SimT X W c tc) (hb : SimSs X W sts mb) : SimS X W (.While c sts [] pos) (whileS tc mb) := by
  refine ⟨fun r l h s H D S p => ?_⟩
  refine toS (ps_while C.po pbT pbSs) ?_
  refine ⟨fun m s2 H2 => ∃ r2 l2 h2, Sim X r2 l2 h2 s2 H2 ∧ PstS X r2 H2 (whileGo tc mb m l2 h2) D W, ⟨wfuel, r, l, h, S, p⟩, ?_⟩
  rintro m s2 H2 ⟨r2, l2, h2, S2, p2⟩
  cases m with
  | zero => exact p2.elim
  | succ k =>
    simp only [whileGo] at p2
    refine hc.thnS S2 p2 fun b h3 r3 H3 _ S3 n3 p3 => ?_
    cases b with
    | false => rw [if_neg Bool.false_ne_true] at p3 ⊢; exact p3 r3 H3 s2 (Nxt.refl S3.hs) S3
    | true =>
      rw [if_pos rfl] at p3 ⊢
      refine ⟨fun s' H' => ∃ r2 l2 h2, Sim X r2 l2 h2 s' H' ∧ PstS X r2 H' (whileGo tc mb k l2 h2) D W, fun s' H' q => ⟨k, Nat.lt_succ_self k, q⟩, ?_⟩
      refine hb r3 l2 h3 s2 H3 _ S3 ?_
      cases e3 : mb l2 h3 with
      | bad => rw [e3] at p3; exact p3.elim
      | exc c fs l4 h4 => rw [e3] at p3; exact p3
      | ok f h4 =>
        rw [e3] at p3
        cases f with
        | nx l4 => exact fun r' H' s' n' S' => ⟨r', l4, h4, S', PstS.mono (res := whileGo tc mb k l4 h4) p3 n'⟩
        | ct l4 => exact fun r' H' s' n' S' => ⟨r', l4, h4, S', PstS.mono (res := whileGo tc mb k l4 h4) p3 n'⟩
        | bk l4 => exact p3
        | rt v4 => exact p3
end
end Hs
end

section
set_option Elab.async false
set_option linter.all false
set_option maxRecDepth 100000
set_option maxHeartbeats 4000000
namespace Hs
open PySem L2

/-! ### equality, closedness -/
mutual
def eqb : IV → IV → Bool
  | .non, .non => true
  | .bl a, .bl b => a == b
  | .int a, .int b => a == b
  | .str a, .str b => a == b
  | .tup a, .tup b => eqbs a b
  | .lst a, .lst b => eqbs a b
  | .frl a, .frl b => eqbs a b
  | .obj c a, .obj d b => c == d && eqbf a b
  | .st a, .st b => decide (a = b)
  | .ref a, .ref b => a == b
  | _, _ => false
def eqbs : List IV → List IV → Bool
  | [], [] => true
  | x :: xs, y :: ys => eqb x y && eqbs xs ys
  | _, _ => false
def eqbf : List (Str × IV) → List (Str × IV) → Bool
  | [], [] => true
  | (c, x) :: xs, (d, y) :: ys => c == d && (eqb x y && eqbf xs ys)
  | _, _ => false
end
mutual
theorem eqb_eq : ∀ (x y : IV), eqb x y = true → x = y
  | .non, y, e => by cases y <;> simp [eqb] at e ⊢
  | .bl a, y, e => by cases y <;> simp_all [eqb]
  | .int a, y, e => by cases y <;> simp_all [eqb]
  | .str a, y, e => by cases y <;> simp_all [eqb]
  | .tup a, y, e => by
    cases y <;> simp [eqb] at e ⊢
    exact eqbs_eq _ _ e
  | .lst a, y, e => by
    cases y <;> simp [eqb] at e ⊢
    exact eqbs_eq _ _ e
  | .frl a, y, e => by
    cases y <;> simp [eqb] at e ⊢
    exact eqbs_eq _ _ e
  | .obj c a, y, e => by
    cases y <;> simp [eqb] at e ⊢
    exact ⟨e.1, eqbf_eq _ _ e.2⟩
  | .st a, y, e => by cases y <;> simp_all [eqb]
  | .ref a, y, e => by cases y <;> simp_all [eqb]
theorem eqbs_eq : ∀ (x y : List IV), eqbs x y = true → x = y
  | [], y, e => by cases y <;> simp [eqbs] at e ⊢
  | x :: xs, y, e => by
    cases y <;> simp [eqbs] at e ⊢
    exact ⟨eqb_eq _ _ e.1, eqbs_eq _ _ e.2⟩
theorem eqbf_eq : ∀ (x y : List (Str × IV)), eqbf x y = true → x = y
  | [], y, e => by cases y <;> simp [eqbf] at e ⊢
  | (c, x) :: xs, y, e => by
    cases y with
    | nil => simp [eqbf] at e
    | cons p ys =>
      obtain ⟨d, y⟩ := p
      simp [eqbf] at e
      rw [e.1, eqb_eq _ _ e.2.1, eqbf_eq _ _ e.2.2]
end
mutual
theorem eqb_refl : ∀ (x : IV), eqb x x = true
  | .non => by simp [eqb]
  | .bl a => by simp [eqb]
  | .int a => by simp [eqb]
  | .str a => by simp [eqb]
  | .tup a => by simp [eqb, eqbs_refl a]
  | .lst a => by simp [eqb, eqbs_refl a]
  | .frl a => by simp [eqb, eqbs_refl a]
  | .obj c a => by simp [eqb, eqbf_refl a]
  | .st a => by simp [eqb]
  | .ref a => by simp [eqb]
theorem eqbs_refl : ∀ (x : List IV), eqbs x x = true
  | [] => by simp [eqbs]
  | x :: xs => by simp [eqbs, eqb_refl x, eqbs_refl xs]
theorem eqbf_refl : ∀ (x : List (Str × IV)), eqbf x x = true
  | [] => by simp [eqbf]
  | (c, x) :: xs => by simp [eqbf, eqb_refl x, eqbf_refl xs]
end
def eqbO : Ob → Ob → Bool
  | .lst a, .lst b => eqbs a b
  | .dct a, .dct b => decide (a.map (·.1) = b.map (·.1)) && eqbs (a.map (·.2)) (b.map (·.2))
  | .dcl a, .dcl b => decide (a.map (·.1) = b.map (·.1)) && eqbs (a.map (·.2)) (b.map (·.2))
  | .dcn a, .dcn b => eqbs (a.map (·.1)) (b.map (·.1)) && eqbs (a.map (·.2)) (b.map (·.2))
  | .dnl a, .dnl b => eqbs (a.map (·.1)) (b.map (·.1)) && eqbs (a.map (·.2)) (b.map (·.2))
  | .ins c a, .ins d b => c == d && eqbf a b
  | _, _ => false
theorem zip_ext {A B : Type} : ∀ {a b : List (A × B)}, a.map (·.1) = b.map (·.1) → a.map (·.2) = b.map (·.2) → a = b
  | [], [], _, _ => rfl
  | [], _ :: _, e, _ => by simp at e
  | _ :: _, [], e, _ => by simp at e
  | (a1, a2) :: a, (b1, b2) :: b, e, f => by
    simp at e f
    obtain ⟨rfl, e⟩ := e
    obtain ⟨rfl, f⟩ := f
    rw [zip_ext e f]
theorem eqbO_eq {a b : Ob} (e : eqbO a b = true) : a = b := by
  cases a <;> cases b <;> simp [eqbO] at e ⊢
  · exact eqbs_eq _ _ e
  · exact zip_ext e.1 (eqbs_eq _ _ e.2)
  · exact ⟨e.1, eqbf_eq _ _ e.2⟩
  · exact zip_ext e.1 (eqbs_eq _ _ e.2)
  · exact zip_ext (eqbs_eq _ _ e.1) (eqbs_eq _ _ e.2)
  · exact zip_ext (eqbs_eq _ _ e.1) (eqbs_eq _ _ e.2)
theorem eqbO_refl (a : Ob) : eqbO a a = true := by cases a <;> simp [eqbO, eqbs_refl, eqbf_refl]
mutual
def cloV (n : Nat) : IV → Bool
  | .tup xs => cloVs n xs
  | .lst xs => cloVs n xs
  | .frl xs => cloVs n xs
  | .obj _ fs => cloVf n fs
  | .ref i => decide (i < n)
  | _ => true
def cloVs (n : Nat) : List IV → Bool
  | [] => true
  | x :: xs => cloV n x && cloVs n xs
def cloVf (n : Nat) : List (Str × IV) → Bool
  | [] => true
  | (_, x) :: xs => cloV n x && cloVf n xs
end
def cloO (n : Nat) : Ob → Bool
  | .lst xs => cloVs n xs
  | .dct kvs => cloVs n (kvs.map (·.2))
  | .dcl kvs => cloVs n (kvs.map (·.2))
  | .dcn kvs => cloVs n (kvs.map (·.2))
  | .dnl kvs => cloVs n (kvs.map (·.2))
  | .ins _ fs => cloVf n fs
section
variable {wd : Wd} {K : PySem.W.Frag} {mg : Str → Option Value} {r : List Addr} {H : Hp}
@[simp] theorem RVf_nil {vs : List (Str × V)} : RVf wd K mg r H [] vs ↔ vs = [] := by simp [RVf]
theorem RVf_cons {f : Str} {x : IV} {xs : List (Str × IV)} {vs : List (Str × V)} : RVf wd K mg r H ((f, x) :: xs) vs ↔ ∃ v t, vs = (f, v) :: t ∧ RV wd K mg r H x v ∧ RVf wd K mg r H xs t := by simp [RVf]
mutual
theorem clo_of : ∀ (x : IV) (v : V), RV wd K mg r H x v → cloV r.length x = true
  | .non, v, q => by simp [cloV]
  | .bl _, v, q => by simp [cloV]
  | .int _, v, q => by simp [cloV]
  | .str _, v, q => by simp [cloV]
  | .tup xs, v, q => by
    obtain ⟨_, vs, _, _, q2⟩ := RV_tup.mp q
    simp only [cloV]; exact clos_of xs vs q2
  | .lst xs, v, q => by
    obtain ⟨_, vs, _, _, q2⟩ := RV_lst.mp q
    simp only [cloV]; exact clos_of xs vs q2
  | .frl xs, v, q => by
    obtain ⟨_, vs, _, _, q2⟩ := RV_frl.mp q
    simp only [cloV]; exact clos_of xs vs q2
  | .obj c fs, v, q => by
    obtain ⟨_, _, _, gs, _, _, _, _, q2⟩ := RV_obj.mp q
    simp only [cloV]; exact clof_of fs gs q2
  | .st _, v, q => by simp [cloV]
  | .ref n, v, q => by
    obtain ⟨a, _, q2⟩ := RV_ref.mp q
    simp only [cloV]; exact decide_eq_true (List.getElem?_eq_some_iff.mp q2).1
theorem clos_of : ∀ (xs : List IV) (vs : List V), RVs wd K mg r H xs vs → cloVs r.length xs = true
  | [], _, _ => by simp [cloVs]
  | x :: xs, vs, q => by
    obtain ⟨v, t, _, q1, q2⟩ := RVs_cons.mp q
    simp only [cloVs, Bool.and_eq_true]
    exact ⟨clo_of x v q1, clos_of xs t q2⟩
theorem clof_of : ∀ (xs : List (Str × IV)) (vs : List (Str × V)), RVf wd K mg r H xs vs → cloVf r.length xs = true
  | [], _, _ => by simp [cloVf]
  | (f, x) :: xs, vs, q => by
    obtain ⟨v, t, _, q1, q2⟩ := RVf_cons.mp q
    simp only [cloVf, Bool.and_eq_true]
    exact ⟨clo_of x v q1, clof_of xs t q2⟩
end
theorem cloO_of {o : Ob} {a : Addr} (q : RO wd K mg r H a o) : cloO r.length o = true := by
  cases o with
  | lst xs => obtain ⟨vs, _, q⟩ := q; exact clos_of _ _ q
  | dct xs => obtain ⟨vs, _, _, q⟩ := q; exact clos_of _ _ q
  | dcl xs => obtain ⟨_, vs, _, _, q⟩ := q; exact clos_of _ _ q
  | dcn xs => obtain ⟨vs, _, _, _, _, q⟩ := q; exact clos_of _ _ q
  | dnl xs => obtain ⟨_, vs, _, _, _, _, q⟩ := q; exact clos_of _ _ q
  | ins c fs => obtain ⟨_, _, gs, _, _, q⟩ := q; exact clof_of _ _ q
mutual
theorem RV.shrink {n : Nat} : ∀ (x : IV) (v : V), cloV n x = true → RV wd K mg r H x v → RV wd K mg (r.take n) H x v
  | .non, v, _, q => by simpa using q
  | .bl _, v, _, q => by simpa using q
  | .int _, v, _, q => by simpa using q
  | .str _, v, _, q => by simpa using q
  | .tup xs, v, c, q => by
    obtain ⟨a, vs, e, q1, q2⟩ := RV_tup.mp q
    simp only [cloV] at c
    refine RV_tup.mpr ⟨a, vs, e, ?_, RVs.shrink xs vs c q2⟩
    exact q1.imp (fun z => ⟨fun m => z.1 (List.mem_of_mem_take m), z.2⟩) id
  | .lst xs, v, c, q => by
    obtain ⟨a, vs, e, q1, q2⟩ := RV_lst.mp q
    simp only [cloV] at c
    exact RV_lst.mpr ⟨a, vs, e, ⟨fun m => q1.1 (List.mem_of_mem_take m), q1.2⟩, RVs.shrink xs vs c q2⟩
  | .frl xs, v, c, q => by
    obtain ⟨a, vs, e, q1, q2⟩ := RV_frl.mp q
    simp only [cloV] at c
    refine RV_frl.mpr ⟨a, vs, e, ?_, RVs.shrink xs vs c q2⟩
    exact q1.imp (fun z => ⟨fun m => z.1 (List.mem_of_mem_take m), z.2⟩) id
  | .obj cc fs, v, c, q => by
    obtain ⟨a, C, dx, gs, e, q0, q1, q3, q2⟩ := RV_obj.mp q
    simp only [cloV] at c
    exact RV_obj.mpr ⟨a, C, dx, gs, e, q0, fun m => q1 (List.mem_of_mem_take m), q3, RVf.shrink fs gs c q2⟩
  | .st ks, v, c, q => by
    obtain ⟨a, S, e, q1, q2⟩ := RV_st.mp q
    exact RV_st.mpr ⟨a, S, e, fun m => q1 (List.mem_of_mem_take m), q2⟩
  | .ref i, v, c, q => by
    obtain ⟨a, e, q2⟩ := RV_ref.mp q
    simp only [cloV] at c
    exact RV_ref.mpr ⟨a, e, by rw [List.getElem?_take_of_lt (of_decide_eq_true c)]; exact q2⟩
theorem RVs.shrink {n : Nat} : ∀ (xs : List IV) (vs : List V), cloVs n xs = true → RVs wd K mg r H xs vs → RVs wd K mg (r.take n) H xs vs
  | [], _, _, q => by simpa using q
  | x :: xs, vs, c, q => by
    obtain ⟨v, t, e, q1, q2⟩ := RVs_cons.mp q
    simp only [cloVs, Bool.and_eq_true] at c
    exact RVs_cons.mpr ⟨v, t, e, RV.shrink x v c.1 q1, RVs.shrink xs t c.2 q2⟩
theorem RVf.shrink {n : Nat} : ∀ (xs : List (Str × IV)) (vs : List (Str × V)), cloVf n xs = true → RVf wd K mg r H xs vs → RVf wd K mg (r.take n) H xs vs
  | [], _, _, q => by simpa using q
  | (f, x) :: xs, vs, c, q => by
    obtain ⟨v, t, e, q1, q2⟩ := RVf_cons.mp q
    simp only [cloVf, Bool.and_eq_true] at c
    exact RVf_cons.mpr ⟨v, t, e, RV.shrink x v c.1 q1, RVf.shrink xs t c.2 q2⟩
end
mutual
theorem nk_clo {n : Nat} : ∀ (x : IV) (k : NestedKey), nk x = some k → cloV n x = true
  | .non, _, _ => by simp [cloV]
  | .bl _, _, _ => by simp [cloV]
  | .int _, _, _ => by simp [cloV]
  | .str _, _, _ => by simp [cloV]
  | .tup xs, k, e => by
    simp only [nk, Option.map_eq_some_iff] at e
    obtain ⟨ks, e1, _⟩ := e
    simp only [cloV]; exact nks_clo xs ks e1
  | .lst _, _, e => by simp [nk] at e
  | .frl _, _, e => by simp [nk] at e
  | .obj _ _, _, e => by simp [nk] at e
  | .st _, _, e => by simp [nk] at e
  | .ref _, _, e => by simp [nk] at e
theorem nks_clo {n : Nat} : ∀ (xs : List IV) (ks : List NestedKey), nks xs = some ks → cloVs n xs = true
  | [], _, _ => by simp [cloVs]
  | x :: xs, ks, e => by
    simp only [nks] at e
    split at e
    · rename_i k ks' e1 e2
      simp only [cloVs, Bool.and_eq_true]
      exact ⟨nk_clo x _ e1, nks_clo xs _ e2⟩
    · cases e
end
theorem keys_clo {n : Nat} : ∀ {kvs : List (IV × IV)} {ws : List (NestedKey × Addr × V)}, kvs.map (fun kv => nk kv.1) = ws.map (fun x => some x.1) → cloVs n (kvs.map (·.1)) = true
  | [], _, _ => by simp [cloVs]
  | kv :: kvs, [], e => by simp at e
  | kv :: kvs, w :: ws, e => by
    simp only [List.map_cons, List.cons.injEq] at e
    simp only [List.map_cons, cloVs, Bool.and_eq_true]
    exact ⟨nk_clo _ _ e.1, keys_clo e.2⟩
theorem RO.shrink {n : Nat} {a : Addr} {o : Ob} (c : cloO n o = true) (q : RO wd K mg r H a o) : RO wd K mg (r.take n) H a o := by
  cases o with
  | lst xs => obtain ⟨vs, e, q⟩ := q; exact ⟨vs, e, RVs.shrink _ _ c q⟩
  | dct xs => obtain ⟨vs, e, k, q⟩ := q; exact ⟨vs, e, k, RVs.shrink _ _ c q⟩
  | dcl xs => obtain ⟨o, vs, e, k, q⟩ := q; exact ⟨o, vs, e, k, RVs.shrink _ _ c q⟩
  | dcn xs => obtain ⟨vs, e, k1, k2, k3, q⟩ := q; exact ⟨vs, e, k1, k2, RVs.shrink _ _ (keys_clo k1) k3, RVs.shrink _ _ c q⟩
  | dnl xs => obtain ⟨o, vs, e, k1, k2, k3, q⟩ := q; exact ⟨o, vs, e, k1, k2, RVs.shrink _ _ (keys_clo k1) k3, RVs.shrink _ _ c q⟩
  | ins cc fs => obtain ⟨C, dx, gs, m, e, q⟩ := q; exact ⟨C, dx, gs, m, e, RVf.shrink _ _ c q⟩
end

/-! ### tidying: what was made is given by value, the numbers behind are forgotten -/
def frz (h : Hv) (n : Nat) : Nat → IV → Option IV
  | 0, _ => none
  | k + 1, x => match x with
    | .tup xs => (xs.mapM (frz h n k)).map .tup
    | .lst xs => (xs.mapM (frz h n k)).map .lst
    | .frl xs => (xs.mapM (frz h n k)).map .frl
    | .obj c fs => (fs.mapM fun p => (frz h n k p.2).map fun y => (p.1, y)).map (.obj c)
    | .ref i => if i < n then some (.ref i) else match h[i]? with
      | some (.lst xs) => (xs.mapM (frz h n k)).map .lst
      | some (.ins c fs) => (fs.mapM fun p => (frz h n k p.2).map fun y => (p.1, y)).map (.obj c)
      | _ => none
    | x => some x
def oldOk (n : Nat) : Hv → Hv → Bool
  | [], _ => true
  | o :: h, o' :: h' => (cloO n o' || eqbO o o') && oldOk n h h'
  | _ :: _, [] => false
def tidyR (h : Hv) (res : R IV) : R IV := match res with
  | .ok x h' => (match frz h' h.length 12 x with | some y => if oldOk h.length h h' = true then .ok y (h'.take h.length) else .bad | none => .bad)
  | .exc c fs h' => (match frz h' h.length 12 (.obj c fs) with | some (.obj _ gs) => if oldOk h.length h h' = true then .exc c gs (h'.take h.length) else .bad | _ => .bad)
  | .bad => .bad
section
variable {wd : Wd} {K : PySem.W.Frag} {mg : Str → Option Value} {r r' : List Addr} {H H' : Hp} {h h' : Hv} {n : Nat}
theorem frz_all {k : Nat} (ih : ∀ (x : IV) (v : V) (y : IV), frz h n k x = some y → RV wd K mg r H x v → RV wd K mg (r.take n) H y v) : ∀ (xs : List IV) (vs : List V) (ys : List IV), xs.mapM (frz h n k) = some ys → RVs wd K mg r H xs vs → RVs wd K mg (r.take n) H ys vs
  | [], vs, ys, e, q => by
    simp at e; subst e; simpa using q
  | x :: xs, vs, ys, e, q => by
    obtain ⟨v, t, rfl, q1, q2⟩ := RVs_cons.mp q
    simp only [List.mapM_cons, Option.bind_eq_bind, Option.bind_eq_some_iff] at e
    obtain ⟨d, e1, ds', e2, e3⟩ := e
    simp at e3
    subst e3
    exact RVs_cons.mpr ⟨v, t, rfl, ih x v d e1 q1, frz_all ih xs t ds' e2 q2⟩
theorem frz_allf {k : Nat} (ih : ∀ (x : IV) (v : V) (y : IV), frz h n k x = some y → RV wd K mg r H x v → RV wd K mg (r.take n) H y v) : ∀ (xs : List (Str × IV)) (vs : List (Str × V)) (ys : List (Str × IV)), (xs.mapM fun p => (frz h n k p.2).map fun y => (p.1, y)) = some ys → RVf wd K mg r H xs vs → RVf wd K mg (r.take n) H ys vs
  | [], vs, ys, e, q => by
    simp at e; subst e; simpa using q
  | (f, x) :: xs, vs, ys, e, q => by
    obtain ⟨v, t, rfl, q1, q2⟩ := RVf_cons.mp q
    simp only [List.mapM_cons, Option.bind_eq_bind, Option.bind_eq_some_iff, Option.map_eq_some_iff] at e
    obtain ⟨d, ⟨d', e1, rfl⟩, ds', e2, e3⟩ := e
    simp at e3
    subst e3
    exact RVf_cons.mpr ⟨v, t, rfl, ih x v d' e1 q1, frz_allf ih xs t ds' e2 q2⟩
theorem frz_ok (S : HSim wd K mg r h H) : ∀ (k : Nat) (x : IV) (v : V) (y : IV), frz h n k x = some y → RV wd K mg r H x v → RV wd K mg (r.take n) H y v
  | 0, _, _, _, e, _ => by simp [frz] at e
  | k + 1, .non, v, y, e, q => by simp [frz] at e; subst e; simpa using q
  | k + 1, .bl _, v, y, e, q => by simp [frz] at e; subst e; simpa using q
  | k + 1, .int _, v, y, e, q => by simp [frz] at e; subst e; simpa using q
  | k + 1, .str _, v, y, e, q => by simp [frz] at e; subst e; simpa using q
  | k + 1, .tup xs, v, y, e, q => by
    simp only [frz, Option.map_eq_some_iff] at e
    obtain ⟨ys, e1, rfl⟩ := e
    obtain ⟨a, vs, ea, q1, q2⟩ := RV_tup.mp q
    exact RV_tup.mpr ⟨a, vs, ea, q1.imp (fun z => ⟨fun m => z.1 (List.mem_of_mem_take m), z.2⟩) id, frz_all (frz_ok S k) xs vs ys e1 q2⟩
  | k + 1, .lst xs, v, y, e, q => by
    simp only [frz, Option.map_eq_some_iff] at e
    obtain ⟨ys, e1, rfl⟩ := e
    obtain ⟨a, vs, ea, q1, q2⟩ := RV_lst.mp q
    exact RV_lst.mpr ⟨a, vs, ea, ⟨fun m => q1.1 (List.mem_of_mem_take m), q1.2⟩, frz_all (frz_ok S k) xs vs ys e1 q2⟩
  | k + 1, .frl xs, v, y, e, q => by
    simp only [frz, Option.map_eq_some_iff] at e
    obtain ⟨ys, e1, rfl⟩ := e
    obtain ⟨a, vs, ea, q1, q2⟩ := RV_frl.mp q
    exact RV_frl.mpr ⟨a, vs, ea, q1.imp (fun z => ⟨fun m => z.1 (List.mem_of_mem_take m), z.2⟩) id, frz_all (frz_ok S k) xs vs ys e1 q2⟩
  | k + 1, .obj c fs, v, y, e, q => by
    simp only [frz, Option.map_eq_some_iff] at e
    obtain ⟨ys, e1, rfl⟩ := e
    obtain ⟨a, C, dx, gs, ea, q0, q1, q3, q2⟩ := RV_obj.mp q
    exact RV_obj.mpr ⟨a, C, dx, gs, ea, q0, fun m => q1 (List.mem_of_mem_take m), q3, frz_allf (frz_ok S k) fs gs ys e1 q2⟩
  | k + 1, .st ks, v, y, e, q => by
    simp [frz] at e; subst e
    obtain ⟨a, S, ea, q1, q2⟩ := RV_st.mp q
    exact RV_st.mpr ⟨a, S, ea, fun m => q1 (List.mem_of_mem_take m), q2⟩
  | k + 1, .ref i, v, y, e, q => by
    obtain ⟨a, ea, q1⟩ := RV_ref.mp q
    simp only [frz] at e
    split at e
    · rename_i hi
      cases e
      exact RV_ref.mpr ⟨a, ea, by rw [List.getElem?_take_of_lt hi]; exact q1⟩
    · rename_i hi
      have out : a ∉ r.take n := fun m => by
        obtain ⟨j, ej⟩ := List.mem_iff_getElem?.mp m
        have hj : j < n := by
          have := (List.getElem?_eq_some_iff.mp ej).1
          rw [List.length_take] at this; omega
        rw [List.getElem?_take_of_lt hj] at ej
        have := nodup_ix'' S.nd q1 ej
        omega
      obtain ⟨o, e3, e4⟩ := S.get q1
      rw [e3] at e
      cases o with
      | lst xs =>
        simp only [Option.map_eq_some_iff] at e
        obtain ⟨ys, e1, rfl⟩ := e
        obtain ⟨vs, e5, e6⟩ := e4
        exact RV_lst.mpr ⟨a, vs, ea, ⟨out, e5⟩, frz_all (frz_ok S k) xs vs ys e1 e6⟩
      | ins c fs =>
        simp only [Option.map_eq_some_iff] at e
        obtain ⟨ys, e1, rfl⟩ := e
        obtain ⟨C, dx, gs, e5, e6, e7⟩ := e4
        exact RV_obj.mpr ⟨a, C, dx, gs, ea, e5, out, e6, frz_allf (frz_ok S k) fs gs ys e1 e7⟩
      | _ => cases e
where
  nodup_ix'' {l : List Addr} (hN : l.Nodup) {i j : Nat} {x : Addr} (a : l[i]? = some x) (b : l[j]? = some x) : i = j := by
    obtain ⟨h1, e1⟩ := List.getElem?_eq_some_iff.mp a
    obtain ⟨h2, e2⟩ := List.getElem?_eq_some_iff.mp b
    exact (List.getElem_inj hN).mp (e1.trans e2.symm)
theorem oldOk_get : ∀ {h h' : Hv} {i : Nat} {o' : Ob}, oldOk n h h' = true → i < h.length → h'[i]? = some o' → h[i]? = some o' ∨ cloO n o' = true
  | [], _, _, _, _, hi, _ => by simp at hi
  | o :: h, [], _, _, e, _, _ => by simp [oldOk] at e
  | o :: h, p :: h', 0, o', e, _, e2 => by
    simp only [oldOk, Bool.and_eq_true, Bool.or_eq_true] at e
    simp at e2; subst e2
    rcases e.1 with z | z
    · exact .inr z
    · rw [eqbO_eq z]; exact .inl rfl
  | o :: h, p :: h', i + 1, o', e, hi, e2 => by
    simp only [oldOk, Bool.and_eq_true] at e
    simpa using oldOk_get (i := i) e.2 (by simpa using hi) (by simpa using e2)
theorem oldOk_len : ∀ {h h' : Hv}, oldOk n h h' = true → h.length ≤ h'.length
  | [], _, _ => Nat.zero_le _
  | _ :: h, [], e => by simp [oldOk] at e
  | _ :: h, _ :: h', e => by
    simp only [oldOk, Bool.and_eq_true] at e
    simpa using oldOk_len e.2
theorem oldOk_app : ∀ (h g : Hv), oldOk n h (h ++ g) = true
  | [], _ => rfl
  | o :: h, g => by
    show (((cloO n o || eqbO o o)) && oldOk n h (h ++ g)) = true
    rw [eqbO_refl, oldOk_app h g, Bool.or_true]; rfl
theorem oldOk_self (h : Hv) : oldOk n h h = true := by
  have := oldOk_app (n := n) h []
  simpa using this
/-- behind a tidying -/
theorem tidy_sim (S : HSim wd K mg r h H) (N : Nxt r H r' H') (S' : HSim wd K mg r' h' H') (ok : oldOk h.length h h' = true) : r'.take h.length = r ∧ Nxt r H r H' ∧ HSim wd K mg r (h'.take h.length) H' := by
  obtain ⟨more, e, hm⟩ := N.ext
  have er : r'.take h.length = r := by rw [e, ← S.len, List.take_left]
  refine ⟨er, ⟨⟨[], by simp, by simp⟩, N.keep, fun a ha => N.live a (by rw [e]; exact List.mem_append_left _ ha), N.lock⟩, ?_, S.nd, fun i o a h1 h2 => ?_⟩
  · have := oldOk_len ok
    rw [S.len, List.length_take, Nat.min_eq_left this]
  · have hi : i < h.length := by rw [← S.len]; exact (List.getElem?_eq_some_iff.mp h2).1
    rw [List.getElem?_take_of_lt hi] at h1
    have h2' : r'[i]? = some a := N.get h2
    have q := S'.at_ i o a h1 h2'
    have c : cloO h.length o = true := by
      rcases oldOk_get ok hi h1 with z | z
      · have := cloO_of (S.at_ i o a z h2)
        rw [S.len] at this; exact this
      · exact z
    have := q.shrink c
    rw [er] at this
    exact this
theorem Pst.tidy {Q : VK} {W : XK} {res : R IV} (S : HSim wd K mg r h H) (p : Pst wd K mg (RV wd K mg) r H (tidyR h res) Q W) : Pst wd K mg (RV wd K mg) r H res Q W := by
  cases res with
  | ok x h' =>
    simp only [tidyR] at p
    split at p
    · rename_i y ey
      split at p
      · rename_i ok
        intro r' H' v N S' q
        obtain ⟨er, N', S''⟩ := tidy_sim S N S' ok
        have := frz_ok (n := h.length) S' _ _ _ _ ey q
        rw [er] at this
        exact p r H' v N' S'' this
      · exact p.elim
    · exact p.elim
  | exc c fs h' =>
    simp only [tidyR] at p
    split at p
    · rename_i cc gs ey
      split at p
      · rename_i ok
        intro r' H' cls d N S' q
        obtain ⟨er, N', S''⟩ := tidy_sim S N S' ok
        refine p r H' cls d N' S'' ?_
        simp only [frz, Option.map_eq_some_iff] at ey
        obtain ⟨ys, e1, e2⟩ := ey
        cases e2
        obtain ⟨C, c1, c2, c3⟩ := q
        refine ⟨C, c1, c2, ?_⟩
        rcases c3 with ⟨rfl, hd⟩ | ⟨dx, ws, hd, ho, hx, hq⟩
        · simp at e1; subst e1; exact .inl ⟨rfl, hd⟩
        · have := frz_allf (frz_ok S' 11) fs ws gs e1 hq
          rw [er] at this
          obtain ⟨more, e, _⟩ := N.ext
          exact .inr ⟨dx, ws, hd, fun m => ho (by rw [e]; exact List.mem_append_left _ m), hx, this⟩
      · exact p.elim
    · exact p.elim
  | bad => exact p
end
def tidyM (m : ME) : ME := fun l h => tidyR h (m l h)
def tidyF (F : List IV → Hv → R IV) : List IV → Hv → R IV := fun xs h => tidyR h (F xs h)
theorem sim_tidy {X : Cx} {W : WX} {e : Expr} {m : ME} (q : SimE X W e m) : SimE X W e (tidyM m) := ⟨fun r l h s H Q S p => q r l h s H Q S (p.tidy S.hs)⟩
end Hs
end

section
set_option Elab.async false
set_option linter.all false
set_option maxRecDepth 100000
set_option maxHeartbeats 4000000
namespace Hs
open PySem L2 PyProof.Rows

/-! ### functions -/
def fnM (n : Nat) (m : MS) : List IV → Hv → R IV := fun xs h => match m (xs.map some ++ List.replicate (n - xs.length) none) h with
  | .ok (.rt x) h' => .ok x h'
  | .ok (.nx _) h' => .ok .non h'
  | .exc c fs _ h' => .exc c fs h'
  | _ => .bad
structure FnG (P : Program) (w : World) (K : PySem.W.Frag) (mg : Str → Option Value) (base : Heap) (k : Nat) (f : Addr) (fd : FuncData) (ps : List Str) (F : List IV → Hv → R IV) : Prop where
  run : ∀ (A : Around) (outer : List Env) (s : Shared) (H : Hp) (args : Args) (us : List Value) (vs : List V) (r : List Addr) (h : Hv) (xs : List IV) (Q : VK) (E : XK), Room k A → A.guards = some [] → Env0 P w K mg base A outer s H →
    BindsTo s fd args (ps.zip us) → Vals vs us → vs.length = ps.length → HSim ⟨P, w⟩ K mg r h H → RVs ⟨P, w⟩ K mg r H xs vs → Pst ⟨P, w⟩ K mg (RV ⟨P, w⟩ K mg) r H (F xs h) Q E → codeAny (model P w) A (.call (.ref f) args) (CR (L2.CX P w) outer P w H s Q E) s
theorem RVs.to_loc {wd : Wd} {K : PySem.W.Frag} {mg : Str → Option Value} {r : List Addr} {H : Hp} {xs : List IV} {vs : List V} (q : RVs wd K mg r H xs vs) (N : List Str) (hl : vs.length ≤ N.length) : RL wd K mg r H (xs.map some ++ List.replicate (N.length - xs.length) none) (start N vs) := by
  have e := q.length
  refine ⟨by simp [L2.start, e], fun i x hx => ?_⟩
  by_cases hi : i < xs.length
  · rw [List.getElem?_append_left (by simpa using hi), List.getElem?_map] at hx
    cases z : xs[i]? with
    | none => rw [z] at hx; cases hx
    | some y =>
      rw [z] at hx
      simp at hx; subst hx
      obtain ⟨v, e1, e2⟩ := q.get z
      refine ⟨v, ?_, e2⟩
      unfold L2.start
      rw [List.getElem?_append_left (by simp; omega), List.getElem?_map, e1]; rfl
  · rw [List.getElem?_append_right (by simpa using hi)] at hx
    rw [List.getElem?_replicate] at hx
    split at hx <;> cases hx
section
variable {P : Program} {w : World} {K : PySem.W.Frag} {mg : Str → Option Value} {base : Heap} {x qual : Str} {params : Arguments} {body : List Stmt} {scope : Scope} {dvs : List V} {kws : List (Str × V)} {f : Addr} {fd : FuncData}
abbrev cxF (P : Program) (w : World) (K : PySem.W.Frag) (mg : Str → Option Value) (base : Heap) (N : List Str) (qual : Str) (scope : Scope) (f : Addr) (cd : Value) (A : Around) (outer : List Env) (s : Shared) (H : Hp) (E : XK) : Cx := cxOf (L2.CX P w) P w K mg base N qual scope f cd A outer s H E
abbrev wF (E : XK) : WX := fun c d _ H => E c d H
theorem fn_sim {N ps : List Str} {k : Nat} {m : MS} (F : FunD K x qual params body scope dvs kws f fd) (S : FnScope N ps scope)
    (hbody : ∀ (cd : Value) (A : Around) (outer : List Env) (s : Shared) (H : Hp) (E : XK), Room k (A.deeper (envOfC qual scope s.heap.objs.size f cd)) → Cok (cxF P w K mg base N qual scope f cd A outer s H E) (wF E) →
      SimSs (cxF P w K mg base N qual scope f cd A outer s H E) (wF E) body m) : FnG P w K mg base (k + 1) f fd ps (fnM N.length m) := by
  obtain ⟨oc, od, dV, kV, doc, pm, an, cdv, ct, osl, rfl, lk, hcd, _, _⟩ := F.ex
  refine ⟨fun A outer s H args us vs r h xs Q E hr hg e0 hb rv hl hs q p => ?_⟩
  have KX : K.In s.heap := e0.mod.kin.keeps fun b o e => (e0.bs b o e).1
  have lim : s.heap.NoLimit := e0.mod.nolimit.keeps fun b o e => (e0.bs b o e).1
  have hkind : ∀ y ∈ ps.zip us, scope.names.lookup y.1 = some .local ∨ (scope.names.lookup y.1 = some .cell ∧ ((cellsFrom (s.heap.objs.size + 1) scope.names []).lookup y.1).isSome = true) := by
    rintro ⟨n, v⟩ hy
    rcases S.par n (List.of_mem_zip hy).1 with z | z
    · exact .inl z
    · exact .inr ⟨z, PySem.W.cellsFrom_some _ _ _ (.inl z)⟩
  refine codeAny_call_function hr.depth (KX _ _ lk) rfl S.co S.gen rfl (PySem.W.codeRec_of KX hcd) (hb _ _ _ _ ?_)
  refine wpAny_newFunctionEnv_cells S.kind hkind fun env he s1 ic => ?_
  subst he
  refine ⟨lim.keeps ic.toInCall.keep, codeAny_func ?_⟩
  have hpl : ps.length ≤ N.length := by
    have := congrArg List.length S.pre
    rw [List.length_take] at this; omega
  have hr' := hr.deeper (envOfC qual scope s.heap.objs.size f cdv)
  have C : Cok (cxF P w K mg base N qual scope f cdv A outer s H E) (wF E) := ⟨rfl, hg, passes_of rfl, S.nd, by have := hr'.un; show (A.deeper _).units + 200 < cLine; omega, takes_of rfl rfl rfl rfl⟩
  have B := hbody cdv A outer s H E hr' C
  have I : Inv (cxF P w K mg base N qual scope f cdv A outer s H E) [] (start N vs) H s1 := inv_start S hr.hd e0 hl rv ic
  have Sm : Sim (cxF P w K mg base N qual scope f cdv A outer s H E) r (xs.map some ++ List.replicate (N.length - xs.length) none) h (start N vs) H := ⟨hs, q.to_loc N (by omega)⟩
  have fin : ∀ {t : L2.St} {H' : Hp} {v : V} {u : Value} {s' : Shared}, Inv (cxF P w K mg base N qual scope f cdv A outer s H E) [] t H' s' → RelV v u → Q v H' → CE outer P w H s Q u s' :=
    fun J rv' z => ⟨_, _, J.os, J.bare, J.base, J.hok, rv', z⟩
  refine wpAny_mono (B r _ h (start N vs) H { nx := fun _ H' => Q .non H', rt := Q } Sm ?_ [] s1 I) (fun fl s' hz => ?_) fun e s' hz => hz
  · unfold fnM at p
    cases e : m (xs.map some ++ List.replicate (N.length - xs.length) none) h with
    | bad => rw [e] at p; exact p.elim
    | exc c fs l' h' => rw [e] at p; exact fun r' H' s' cls d n' S' ea => p r' H' cls d n' S'.hs ea
    | ok fl h' =>
      rw [e] at p
      cases fl with
      | nx l' => exact fun r' H' s' n' S' => p r' H' .non n' S'.hs (by simp)
      | rt y => exact fun r' H' v n' S' qv => p r' H' v n' S' qv
      | bk l' => exact p.elim
      | ct l' => exact p.elim
  · cases fl with
    | ret u =>
      obtain ⟨v, t, H', J, rv', z⟩ := hz
      exact fin J rv' z
    | next =>
      obtain ⟨t, H', J, z⟩ := hz
      exact fin (v := V.non) (u := Value.none) J rfl z
    | brk => obtain ⟨_, _, _, z⟩ := hz; exact z.elim
    | cont => obtain ⟨_, _, _, z⟩ := hz; exact z.elim
theorem FnG.tidy {k : Nat} {ps : List Str} {F : List IV → Hv → R IV} (G : FnG P w K mg base k f fd ps F) : FnG P w K mg base k f fd ps (tidyF F) :=
  ⟨fun A outer s H args us vs r h xs Q E hr hg e0 hb rv hl hs q p => G.run A outer s H args us vs r h xs Q E hr hg e0 hb rv hl hs q (p.tidy hs)⟩
theorem FnG.mono {j k : Nat} {ps : List Str} {F : List IV → Hv → R IV} (G : FnG P w K mg base j f fd ps F) (hj : j ≤ k) : FnG P w K mg base k f fd ps F :=
  ⟨fun A outer s H args us vs r h xs Q E hr => G.run A outer s H args us vs r h xs Q E (hr.mono hj)⟩
end

/-! ### calls -/
section
variable {X : Cx} {W : WX} {k : Nat} {f C : Addr} {fd : FuncData} {ps : List Str} {F : List IV → Hv → R IV} {ds : List Value} {dvs : List V} {dxs : List IV} {x m : Str} {e o : Expr} {es : List Expr} {ms : MA} {mo : ME} {p pos apos : Pos}
theorem run_fng {pins : List (Addr × Obj)} {s : L2.St} {H : Hp} {sh : Shared} {us : List Value} {vs : List V} {r : List Addr} {h : Hv} {xs : List IV} {Q : VK} (G : FnG X.prog X.w X.K X.mg X.base k f fd ps F) (cok : Cok X W) (hr : Room k X.A) (hb : Binds X.K fd ps ds)
    (hd : Vals dvs ds) (I : Inv X pins s H sh) (rv : Vals vs us) (hs : HSim X.wd X.K X.mg r h H) (q : RVs X.wd X.K X.mg r H xs (vs ++ dvs)) (hl : (vs ++ dvs).length = ps.length) (pp : Pst X.wd X.K X.mg (RV X.wd X.K X.mg) r H (F xs h) Q (fun c d H' => W c d s H')) :
    wpAny (model X.prog X.w) X.A (call (.ref f) us) (EP X pins s Q) X.xe sh := by
  have r2 : Vals (vs ++ dvs) (us ++ ds) := rv.append hd
  have hl' : (us ++ ds).length = ps.length := by rw [← r2.length]; exact hl
  refine wpAny_call (codeAny_mono (G.run X.A X.stack sh H ⟨us, []⟩ (us ++ ds) (vs ++ dvs) r h xs Q (fun c d H' => W c d s H') hr cok.gd I.env0 (hb sh us I.kIn hl') r2 hl hs q pp) fun res s' hq => ?_)
  cases res with
  | error ex => exact cok.tk _ _ (XE.of_call I (fun _ _ _ z => z) hq)
  | ok fl =>
    cases fl with
    | ret u => exact I.after hq
    | next => exact hq.elim
    | brk => exact hq.elim
    | cont => exact hq.elim
/-- a function of the module: where it stands, its defaults -/
structure GFn (P : Program) (w : World) (K : PySem.W.Frag) (mg : Str → Option Value) (base : Heap) (k : Nat) (x : Str) (ps : List Str) (dxs : List IV) (F : List IV → Hv → R IV) : Prop where
  ex : ∃ (f : Addr) (fd : FuncData) (ds : List Value) (dvs : List V), mg x = some (.ref f) ∧ PySem.W.keepIn K (.ref f) = true ∧ Binds K fd ps ds ∧ Vals dvs ds ∧ (∀ r H, RVs ⟨P, w⟩ K mg r H dxs dvs) ∧ FnG P w K mg base k f fd ps F
def argM (n : Nat) (dxs : List IV) (F : List IV → Hv → R IV) : List IV → Hv → R IV := fun xs h => if xs.length + dxs.length = n then F (xs ++ dxs) h else .bad
theorem sim_call (G : GFn X.prog X.w X.K X.mg X.base k x ps dxs F) (cok : Cok X W) (hr : Room k X.A) (ha : SimA X W (e :: es) ms) (hg : Gl X x := by rfl) (hdb : (x == ("__debug__" : Str)) = false := by decide +kernel)
    (he : starEach (e :: es) X.env = (false, eval e X.env) :: starEach es X.env := by rfl) (hpl : (backTo pos (starEach es X.env)).any (·.1) = false := by rfl) : SimE X W (.Call (.Name x p) (e :: es) [] pos) (callM (argM ps.length dxs F) ms) := by
  obtain ⟨f, fd, ds, dvs, hm, hk, hb, hd, hdx, G⟩ := G.ex
  refine ⟨fun r l h s H Q S q => ?_⟩
  intro pins sh I
  refine wpAny_Call_Name_kw (ld_glob I hg hm ?_ hdb)
  refine PySem.W.callWith_K (h₀ := X.base) I.ok.mod.kin hk (L2.thn (ha.thn (Q' := fun vs H1 => ∃ r1 h1 xs, HSim X.wd X.K X.mg r1 h1 H1 ∧ RVs X.wd X.K X.mg r1 H1 xs vs ∧ Pst X.wd X.K X.mg (RV X.wd X.K X.mg) r1 H1 (argM ps.length dxs F xs h1) Q (fun c d H' => W c d s H')) S q
    (fun xs h1 r1 H1 vs _ S1 n1 q1 p1 => ⟨r1, h1, xs, S1.hs, q1, p1⟩) pos pins sh I) fun us s1 ⟨vs, H1, I1, rv, r1, h1, xs, S1, q1, p1⟩ => ⟨I1.kIn, ?_⟩) he hpl
  unfold argM at p1
  split at p1
  · rename_i hn
    refine run_fng G cok hr hb hd I1 rv S1 (q1.append (hdx r1 H1)) ?_ p1
    rw [List.length_append, ← q1.length, ← (hdx r1 H1).length]; exact hn
  · exact p1.elim
theorem sim_call0 (G : GFn X.prog X.w X.K X.mg X.base k x ps dxs F) (cok : Cok X W) (hr : Room k X.A) (hg : Gl X x := by rfl) (hdb : (x == ("__debug__" : Str)) = false := by decide +kernel) : SimE X W (.Call (.Name x p) [] [] pos) (callM (argM ps.length dxs F) nilA) := by
  obtain ⟨f, fd, ds, dvs, hm, hk, hb, hd, hdx, G⟩ := G.ex
  refine ⟨fun r l h s H Q S q => ?_⟩
  intro pins sh I
  refine wpAny_Call_Name_kw (ld_glob I hg hm ?_ hdb)
  refine PySem.W.callWith_K0 I.kIn hk ?_
  have p1 : Pst X.wd X.K X.mg (RV X.wd X.K X.mg) r H (argM ps.length dxs F [] h) Q (fun c d H' => W c d s H') := q
  unfold argM at p1
  split at p1
  · rename_i hn
    refine run_fng (us := []) (vs := []) G cok hr hb hd I .nil S.hs (hdx r H) ?_ p1
    rw [List.nil_append, ← (hdx r H).length]; simpa using hn
  · exact p1.elim
end
end Hs
end

section
set_option Elab.async false
set_option linter.all false
set_option maxRecDepth 100000
set_option maxHeartbeats 4000000
namespace Hs
open PySem L2 PyProof.Rows

/-! ### instances -/
abbrev FldT := List (Str × List Str)
def ClsOk (K : PySem.W.Frag) (mg : Str → Option Value) (ct : FldT) : Prop := ∀ c fs C, (c, fs) ∈ ct → mg c = some (.ref C) → Cls K C ∧ ∀ f ∈ fs, NoAttr K C f
def fldOk (ct : FldT) (c f : Str) : Bool := ct.any fun p => decide (p.1 = c) && decide (f ∈ p.2)
theorem fldOk_ok {K : PySem.W.Frag} {mg : Str → Option Value} {ct : FldT} {c f : Str} {C : Addr} (T : ClsOk K mg ct) (e : fldOk ct c f = true) (hm : mg c = some (.ref C)) : Cls K C ∧ NoAttr K C f := by
  unfold fldOk at e
  rw [List.any_eq_true] at e
  obtain ⟨⟨c', fs⟩, hp, e⟩ := e
  simp only [Bool.and_eq_true, decide_eq_true_eq] at e
  obtain ⟨rfl, hf⟩ := e
  obtain ⟨h1, h2⟩ := T _ _ _ hp hm
  exact ⟨h1, h2 f hf⟩
def insOf (h : Hv) : IV → Option (Str × List (Str × IV))
  | .obj c fs => some (c, fs)
  | .ref n => match h[n]? with | some (.ins c fs) => some (c, fs) | _ => none
  | _ => none
section
variable {wd : Wd} {K : PySem.W.Frag} {mg : Str → Option Value} {r : List Addr} {H : Hp} {h : Hv} {x : IV} {v : V}
theorem RVf.look : ∀ {fs : List (Str × IV)} {gs : List (Str × V)} {f : Str}, RVf wd K mg r H fs gs → (fs.lookup f = none → gs.lookup f = none) ∧ ∀ y, fs.lookup f = some y → ∃ v, gs.lookup f = some v ∧ RV wd K mg r H y v
  | [], _, f, q => by rw [RVf_nil] at q; subst q; exact ⟨fun _ => rfl, fun y e => by cases e⟩
  | (g, y) :: fs, _, f, q => by
    obtain ⟨v, t, rfl, q1, q2⟩ := RVf_cons.mp q
    rw [List.lookup_cons, List.lookup_cons]
    cases e : f == g with
    | true => exact ⟨(fun z => by cases z), (fun z hz => by cases hz; exact ⟨v, rfl, q1⟩)⟩
    | false => exact RVf.look q2
theorem RVf.length : ∀ {fs : List (Str × IV)} {gs : List (Str × V)}, RVf wd K mg r H fs gs → fs.length = gs.length
  | [], _, q => by rw [RVf_nil] at q; subst q; rfl
  | (g, y) :: fs, _, q => by
    obtain ⟨v, t, rfl, q1, q2⟩ := RVf_cons.mp q
    simp [RVf.length q2]
def putFI (f : Str) (y : IV) : List (Str × IV) → List (Str × IV)
  | [] => [(f, y)]
  | (g, x) :: r => if g = f then (g, y) :: r else (g, x) :: putFI f y r
theorem RVf.put : ∀ {fs : List (Str × IV)} {gs : List (Str × V)} {f : Str} {y : IV} {v : V}, RVf wd K mg r H fs gs → RV wd K mg r H y v → RVf wd K mg r H (putFI f y fs) (putF f v gs)
  | [], _, f, y, v, q, p => by rw [RVf_nil] at q; subst q; exact RVf_cons.mpr ⟨v, [], rfl, p, by simp⟩
  | (g, y') :: fs, _, f, y, v, q, p => by
    obtain ⟨w, t, rfl, q1, q2⟩ := RVf_cons.mp q
    unfold putFI putF
    split
    · exact RVf_cons.mpr ⟨v, t, rfl, p, q2⟩
    · exact RVf_cons.mpr ⟨w, _, rfl, q1, q2.put p⟩
theorem insOf_ok {c : Str} {fs : List (Str × IV)} (S : HSim wd K mg r h H) (e : insOf h x = some (c, fs)) (q : RV wd K mg r H x v) : ∃ a C dx gs, v = .ref a ∧ mg c = some (.ref C) ∧ H a = some (.ins C dx gs) ∧ RVf wd K mg r H fs gs := by
  cases x with
  | obj c' fs' =>
    cases e
    obtain ⟨a, C, dx, gs, e1, e2, _, e3, e4⟩ := RV_obj.mp q
    exact ⟨a, C, dx, gs, e1, e2, e3, e4⟩
  | ref n =>
    obtain ⟨a, e1, e2⟩ := RV_ref.mp q
    obtain ⟨o, e3, e4⟩ := S.get e2
    simp only [insOf, e3] at e
    cases o with
    | ins c' fs' =>
      cases e
      obtain ⟨C, dx, gs, e5, e6, e7⟩ := e4
      exact ⟨a, C, dx, gs, e1, e5, e6, e7⟩
    | _ => cases e
  | _ => cases e
end
def fldI (ct : FldT) (f : Str) (x : IV) (h : Hv) : R IV := match insOf h x with
  | some (c, fs) => if fldOk ct c f = true then (match fs.lookup f with | some y => .ok y h | none => .bad) else .bad
  | none => .bad
def fldM (ct : FldT) (f : Str) (m : ME) : ME := fun l h => bindR (m l h) (fldI ct f)
section
variable {X : Cx} {W : WX} {e o value : Expr} {m mo mv : ME} {pos pos' : Pos} {f : Str} {ct : FldT}
theorem sim_fld (T : ClsOk X.K X.mg ct) (he : SimE X W e m) (hb : attributeBase e f X.env (eval e X.env) = eval e X.env := by rfl) : SimE X W (.Attribute e f pos) (fldM ct f m) := by
  refine ⟨fun r l h s H Q S p => ?_⟩
  refine toE (pe_fld pbE hb) ?_
  refine he.thn S p fun x h1 r1 H1 v ex S1 n1 q1 p1 => ?_
  unfold fldI at p1
  split at p1
  · rename_i c fs e1
    split at p1
    · rename_i e2
      split at p1
      · rename_i y e3
        obtain ⟨a, C, dx, gs, rfl, f1, f2, f3⟩ := insOf_ok S1.hs e1 q1
        obtain ⟨g1, g2⟩ := fldOk_ok T e2 f1
        obtain ⟨v, e4, q4⟩ := f3.look.2 y e3
        exact ⟨a, C, dx, gs, v, rfl, f2, g1, g2, e4, p1.done S1.hs q4⟩
      · exact p1.elim
    · exact p1.elim
  · exact p1.elim
def setFI (ct : FldT) (f : Str) (x y : IV) (h : Hv) : Option Hv := match x with
  | .ref n => (match h[n]? with | some (.ins c fs) => if fldOk ct c f = true ∧ fs.length < 1000 then some (h.set n (.ins c (putFI f y fs))) else none | _ => none)
  | _ => none
def setFS (ct : FldT) (f : Str) (mo mv : ME) : MS := fun l h => bindS (mv l h) l fun y h1 => bindS (mo l h1) l fun x h2 => match setFI ct f x y h2 with | some h3 => .ok (.nx l) h3 | none => .bad
theorem setFI_ok {r : List Addr} {H : Hp} {h h' : Hv} {x y : IV} {v u : V} (T : ClsOk X.K X.mg ct) (S : HSim X.wd X.K X.mg r h H) (e : setFI ct f x y h = some h') (q : RV X.wd X.K X.mg r H x v) (p : RV X.wd X.K X.mg r H y u) :
    ∃ a C dx gs, v = .ref a ∧ H a = some (.ins C dx gs) ∧ Cls X.K C ∧ NoAttr X.K C f ∧ gs.length < 1000 ∧ Nxt r H r (upd H a (.ins C dx (putF f u gs))) ∧ HSim X.wd X.K X.mg r h' (upd H a (.ins C dx (putF f u gs))) := by
  unfold setFI at e
  split at e
  · rename_i n
    split at e
    · rename_i c fs e1
      split at e
      · rename_i hz
        cases e
        obtain ⟨a, rfl, e2⟩ := RV_ref.mp q
        obtain ⟨o, e3, e4⟩ := S.get e2
        rw [e1] at e3; cases e3
        obtain ⟨C, dx, gs, f1, f2, f3⟩ := e4
        obtain ⟨g1, g2⟩ := fldOk_ok T hz.1 f1
        obtain ⟨n1, S1⟩ := S.set (o := .ins C dx (putF f u gs)) (ob := .ins c (putFI f y fs)) e2 (nf_of f2) fun n1 => ⟨C, dx, _, f1, upd_same, RVf.mono n1 _ _ (f3.put p)⟩
        exact ⟨a, C, dx, gs, rfl, f2, g1, g2, by rw [← f3.length]; exact hz.2, n1, S1⟩
      · cases e
    · cases e
  · cases e
theorem sim_setF (T : ClsOk X.K X.mg ct) (ho : SimE X W o mo) (hv : SimE X W value mv) (hs : swapsWith value (some (.Attribute o f pos')) pos.line X.env = pure false := by rfl) : SimS X W (.Assign [.Attribute o f pos'] value pos) (setFS ct f mo mv) := by
  refine ⟨fun r l h s H D S p => ?_⟩
  refine toS (ps_fld pbE pbE hs) ?_
  refine hv.thnS S p fun y h1 r1 H1 u _ S1 n1 q1 p1 => ?_
  refine ho.thnS S1 p1 fun x h2 r2 H2 v _ S2 n2 q2 p2 => ?_
  split at p2
  · rename_i h3 e1
    obtain ⟨a, C, dx, gs, rfl, f1, f2, f3, f4, n3, S3⟩ := setFI_ok T S2.hs e1 q2 (RV.mono n2 _ _ q1)
    exact ⟨a, C, dx, gs, rfl, f1, f2, f3, f4, p2 r2 _ s n3 (S2.next n3 S3)⟩
  · exact p2.elim
/-- o.f += e, ints -/
def augFS (ct : FldT) (f : Str) (mo mv : ME) : MS := fun l h => bindS (mo l h) l fun x h1 => match fldI ct f x h1 with
  | .ok (.int i) _ => bindS (mv l h1) l fun y h2 => (match y with | .int j => if (insOf h2 x).map (·.1) = (insOf h1 x).map (·.1) then (match setFI ct f x (.int (i + j)) h2 with | some h3 => .ok (.nx l) h3 | none => .bad) else .bad | _ => .bad)
  | _ => .bad
theorem sim_augF (T : ClsOk X.K X.mg ct) (ho : SimE X W o mo) (hv : SimE X W value mv) : SimS X W (.AugAssign (.Attribute o f pos') .Add value pos) (augFS ct f mo mv) := by
  refine ⟨fun r l h s H D S p => ?_⟩
  refine toS (ps_fldaug pbE pbE in_add) ?_
  refine ho.thnS S p fun x h1 r1 H1 v ex S1 n1 q1 p1 => ?_
  split at p1
  · rename_i i h1' e1
    unfold fldI at e1
    split at e1
    · rename_i c fs e2
      split at e1
      · rename_i e3
        split at e1
        · rename_i y e4
          cases e1
          obtain ⟨a, C, dx, gs, rfl, f1, f2, f3⟩ := insOf_ok S1.hs e2 q1
          obtain ⟨g1, g2⟩ := fldOk_ok T e3 f1
          obtain ⟨w, e5, q5⟩ := f3.look.2 _ e4
          rw [RV_int] at q5; subst q5
          refine ⟨a, C, dx, gs, _, rfl, f2, g1, g2, e5, ?_⟩
          refine hv.thnS S1 p1 fun y h2 r2 H2 u ey S2 n2 q2 p2 => ?_
          split at p2
          · rename_i j
            rw [RV_int] at q2; subst q2
            split at p2
            · rename_i hcl
              split at p2
              · rename_i h3 e6
                obtain ⟨a', C', dx', gs', ea, f1', f2', f3', f4', n3, S3⟩ := setFI_ok (u := .int (i + j)) T S2.hs e6 (RV.mono n2 _ _ q1) (by simp)
                cases ea
                have hc : C' = C := by
                  rw [e2] at hcl
                  cases e7 : insOf h2 x with
                  | none => rw [e7] at hcl; cases hcl
                  | some pr =>
                    obtain ⟨c2, fs2⟩ := pr
                    rw [e7] at hcl
                    simp at hcl; subst hcl
                    obtain ⟨a2, C2, dx2, gs2, ea2, k1, k2, _⟩ := insOf_ok S2.hs e7 (RV.mono n2 _ _ q1)
                    cases ea2
                    rw [f1'] at k2; cases k2
                    rw [f1] at k1; cases k1; rfl
                subst hc
                exact ⟨_, _, rfl, rfl, dx', gs', f1', f4', p2 r2 _ s n3 (S2.next n3 S3)⟩
              · exact p2.elim
            · exact p2.elim
          · exact p2.elim
        · cases e1
      · cases e1
    · cases e1
  · exact p1.elim
end
end Hs
end

section
set_option Elab.async false
set_option linter.all false
set_option maxRecDepth 100000
set_option maxHeartbeats 4000000
namespace Hs
open PySem L2 PyProof.Rows

/-! ### methods -/
/-- the method m of the class c -/
structure GMt (P : Program) (w : World) (K : PySem.W.Frag) (mg : Str → Option Value) (base : Heap) (k : Nat) (c m : Str) (ps : List Str) (dxs : List IV) (F : List IV → Hv → R IV) : Prop where
  ex : ∃ (C f : Addr) (fd : FuncData) (ds : List Value) (dvs : List V), mg c = some (.ref C) ∧ Cls K C ∧ Meth K C m f ∧ Binds K fd ps ds ∧ Vals dvs ds ∧ (∀ r H, RVs ⟨P, w⟩ K mg r H dxs dvs) ∧ FnG P w K mg base k f fd ps F
def methM (c m : Str) (n : Nat) (dxs : List IV) (F : List IV → Hv → R IV) (mo : ME) (ms : MA) : ME := fun l h => bindR (mo l h) fun x h1 => match insOf h1 x with
  | some (c', fs) => if c' = c ∧ fs.lookup m = none then bindR (ms l h1) fun xs h2 => argM n dxs F (x :: xs) h2 else .bad
  | none => .bad
section
variable {X : Cx} {W : WX} {k : Nat} {f : Addr} {fd : FuncData} {ps : List Str} {F : List IV → Hv → R IV} {dxs : List IV} {x m c : Str} {e o : Expr} {es : List Expr} {ms : MA} {mo : ME} {p pos apos : Pos} {pl : Sem Bool}
theorem sim_meth (G : GMt X.prog X.w X.K X.mg X.base k c m ps dxs F) (cok : Cok X W) (hr : Room k X.A) (ho : SimE X W o mo) (ha : SimA X W (e :: es) ms)
    (he : starEach (e :: es) X.env = (false, eval e X.env) :: starEach es X.env := by rfl) (hpl : (backTo pos (starEach es X.env)).any (·.1) = false := by rfl)
    (ht : eval (.Call (.Attribute o m apos) (e :: es) [] pos) X.env = (do let ov ← eval o X.env; standAt apos.atName; let (f, first) ← holding [ov] (getMethod ov m pl); callWith pos f first (backTo pos (starEach (e :: es) X.env)) (backToKw pos (keywordEach [] X.env))) := by rfl) :
    SimE X W (.Call (.Attribute o m apos) (e :: es) [] pos) (methM c m ps.length dxs F mo ms) := by
  obtain ⟨C, f, fd, ds, dvs, hm, hcl, hme, hb, hd, hdx, G⟩ := G.ex
  refine ⟨fun r l h s H Q S q => ?_⟩
  intro pins sh I
  refine PySem.W.methodCall_KW (pl := pl) (L2.thn (ho.thn (Q' := fun v H1 => ∃ a dx gs, v = .ref a ∧ H1 a = some (.ins C dx gs) ∧ gs.lookup m = none ∧ bA X (e :: es) s H1 fun vs H2 => ∃ r2 h2 xs, HSim X.wd X.K X.mg r2 h2 H2 ∧ RVs X.wd X.K X.mg r2 H2 xs (.ref a :: vs) ∧
    Pst X.wd X.K X.mg (RV X.wd X.K X.mg) r2 H2 (argM ps.length dxs F xs h2) Q (fun c d H' => W c d s H')) S q (fun y h1 r1 H1 v _ S1 n1 q1 p1 => ?_) pins sh I) fun u s1 ⟨v, H1, I1, rv, a, dx, gs, ev, ea, lk, hA⟩ => ?_) ht
  · split at p1
    · rename_i c' fs e1
      split at p1
      · rename_i hz
        obtain ⟨rfl, hlk⟩ := hz
        obtain ⟨a, C', dx, gs, rfl, f1, f2, f3⟩ := insOf_ok S1.hs e1 q1
        rw [hm] at f1; cases f1
        refine ⟨a, dx, gs, rfl, f2, f3.look.1 hlk, ?_⟩
        exact ha.thn S1 p1 fun xs h2 r2 H2 vs _ S2 n2 q2 p2 => ⟨r2, h2, y :: xs, S2.hs, RVs_cons.mpr ⟨_, _, rfl, RV.mono n2 _ _ q1, q2⟩, p2⟩
      · exact p1.elim
    · exact p1.elim
  · subst ev
    obtain rfl : u = Value.ref a := rv
    refine getmeth_ok I1 ea hcl hme lk ?_
    refine PySem.W.callWith_K (first := [.ref a]) (h₀ := X.base) I.ok.mod.kin hme.kp (L2.thn (hA pos pins s1 I1) fun us s2 ⟨vs, H2, I2, rv2, r2, h2, xs, S2, q2, p2⟩ => ⟨I2.kIn, ?_⟩) he hpl
    unfold argM at p2
    split at p2
    · rename_i hn
      refine run_fng (us := .ref a :: us) (vs := .ref a :: vs) G cok hr hb hd I2 (.cons rfl rv2) S2 (q2.append (hdx r2 H2)) ?_ p2
      rw [List.length_append, ← q2.length, ← (hdx r2 H2).length]; exact hn
    · exact p2.elim
theorem sim_meth0 (G : GMt X.prog X.w X.K X.mg X.base k c m ps dxs F) (cok : Cok X W) (hr : Room k X.A) (ho : SimE X W o mo)
    (ht : eval (.Call (.Attribute o m apos) [] [] pos) X.env = (do let ov ← eval o X.env; standAt apos.atName; let (f, first) ← holding [ov] (getMethod ov m pl); callWith pos f first (backTo pos (starEach [] X.env)) (backToKw pos (keywordEach [] X.env))) := by rfl) :
    SimE X W (.Call (.Attribute o m apos) [] [] pos) (methM c m ps.length dxs F mo nilA) := by
  obtain ⟨C, f, fd, ds, dvs, hm, hcl, hme, hb, hd, hdx, G⟩ := G.ex
  refine ⟨fun r l h s H Q S q => ?_⟩
  intro pins sh I
  refine PySem.W.methodCall_KW (pl := pl) (L2.thn (ho.thn (Q' := fun v H1 => ∃ a dx gs, v = .ref a ∧ H1 a = some (.ins C dx gs) ∧ gs.lookup m = none ∧ ∃ r2 h2 xs, HSim X.wd X.K X.mg r2 h2 H1 ∧ RVs X.wd X.K X.mg r2 H1 xs [.ref a] ∧
    Pst X.wd X.K X.mg (RV X.wd X.K X.mg) r2 H1 (argM ps.length dxs F xs h2) Q (fun c d H' => W c d s H')) S q (fun y h1 r1 H1 v _ S1 n1 q1 p1 => ?_) pins sh I) fun u s1 ⟨v, H1, I1, rv, a, dx, gs, ev, ea, lk, r2, h2, xs, S2, q2, p2⟩ => ?_) ht
  · split at p1
    · rename_i c' fs e1
      split at p1
      · rename_i hz
        obtain ⟨rfl, hlk⟩ := hz
        obtain ⟨a, C', dx, gs, rfl, f1, f2, f3⟩ := insOf_ok S1.hs e1 q1
        rw [hm] at f1; cases f1
        exact ⟨a, dx, gs, rfl, f2, f3.look.1 hlk, r1, h1, [y], S1.hs, RVs_cons.mpr ⟨_, _, rfl, q1, by simp⟩, p1⟩
      · exact p1.elim
    · exact p1.elim
  · subst ev
    obtain rfl : u = Value.ref a := rv
    refine getmeth_ok I1 ea hcl hme lk ?_
    refine PySem.W.callWith_K0 (first := [.ref a]) I1.kIn hme.kp ?_
    unfold argM at p2
    split at p2
    · rename_i hn
      refine run_fng (us := [.ref a]) (vs := [.ref a]) G cok hr hb hd I1 (.cons rfl .nil) S2 (q2.append (hdx r2 H1)) ?_ p2
      rw [List.length_append, ← q2.length, ← (hdx r2 H1).length]; exact hn
    · exact p2.elim
end

/-! ### making instances -/
structure GCl (P : Program) (w : World) (K : PySem.W.Frag) (mg : Str → Option Value) (base : Heap) (k : Nat) (c : Str) (ps : List Str) (dxs : List IV) (F : List IV → Hv → R IV) : Prop where
  ex : ∃ (C f : Addr) (fd : FuncData) (ds : List Value) (dvs : List V), mg c = some (.ref C) ∧ Mk K C f ∧ Binds K fd ps ds ∧ Vals dvs ds ∧ (∀ r H, RVs ⟨P, w⟩ K mg r H dxs dvs) ∧ FnG P w K mg base k f fd ps F
def makeF (c : Str) (F : List IV → Hv → R IV) : List IV → Hv → R IV := fun xs h => bindR (F (.ref h.length :: xs) (h ++ [.ins c []])) fun v h' => if isNon v = true then .ok (.ref h.length) h' else .bad
def mkM (c : Str) (n : Nat) (dxs : List IV) (F : List IV → Hv → R IV) : List IV → Hv → R IV := fun xs h => if xs.length + dxs.length + 1 = n then makeF c F (xs ++ dxs) h else .bad
section
variable {X : Cx} {W : WX} {k : Nat} {f C : Addr} {fd : FuncData} {ps : List Str} {F : List IV → Hv → R IV} {dxs : List IV} {x c : Str} {e : Expr} {es : List Expr} {ms : MA} {p pos : Pos}
theorem run_makeg {ds : List Value} {dvs : List V} {pins : List (Addr × Obj)} {s : L2.St} {H : Hp} {sh : Shared} {us : List Value} {vs : List V} {r : List Addr} {h : Hv} {xs : List IV} {Q : VK} (hmg : X.mg c = some (.ref C)) (M : Mk X.K C f) (G : FnG X.prog X.w X.K X.mg X.base k f fd ps F)
    (cok : Cok X W) (hr : Room (k + 1) X.A) (hb : Binds X.K fd ps ds) (hd : Vals dvs ds) (I : Inv X pins s H sh) (rv : Vals vs us) (hs : HSim X.wd X.K X.mg r h H) (q : RVs X.wd X.K X.mg r H xs (vs ++ dvs)) (hl : (vs ++ dvs).length + 1 = ps.length)
    (pp : Pst X.wd X.K X.mg (RV X.wd X.K X.mg) r H (makeF c F xs h) Q (fun c d H' => W c d s H')) : wpAny (model X.prog X.w) X.A (call (.ref C) us) (EP X pins s Q) X.xe sh := by
  have nx : H (sh.heap.objs.size + 1) = none := I.hok.fresh (Nat.le_succ _)
  have nd : H sh.heap.objs.size = none := I.hok.fresh (Nat.le_refl _)
  have ne : sh.heap.objs.size + 1 ≠ sh.heap.objs.size := Nat.succ_ne_self _
  have I2 := Inv.made (C := C) I
  have r2 : Vals (V.ref (sh.heap.objs.size + 1) :: (vs ++ dvs)) (Value.ref (sh.heap.objs.size + 1) :: (us ++ ds)) := .cons rfl (rv.append hd)
  have hl' : (Value.ref (sh.heap.objs.size + 1) :: us ++ ds).length = ps.length := by
    have e := (rv.append hd).length
    simp only [List.cons_append, List.length_cons]
    omega
  -- the new instance gets a number
  obtain ⟨n1, S1⟩ := hs.grow (o := .own (sh.heap.objs.size + 1)) nd
  have nx1 : (upd H sh.heap.objs.size (.own (sh.heap.objs.size + 1))) (sh.heap.objs.size + 1) = none := by rw [upd_ne ne]; exact nx
  have n2 := nxt_alloc (o := .ins C sh.heap.objs.size []) S1 nx1
  obtain ⟨_, S2⟩ := S1.alloc (o := .ins C sh.heap.objs.size []) (ob := .ins c []) nx1 ⟨C, _, [], hmg, upd_same, by simp⟩
  have q2 := RVs.mono (n1.trans n2) _ _ q
  have q3 : RVs X.wd X.K X.mg (r ++ [sh.heap.objs.size + 1]) _ (.ref h.length :: xs) (.ref (sh.heap.objs.size + 1) :: (vs ++ dvs)) := RVs_cons.mpr ⟨_, _, rfl, RV_ref.mpr ⟨_, rfl, by rw [← hs.len]; simp⟩, q2⟩
  have pp2 : Pst X.wd X.K X.mg (RV X.wd X.K X.mg) (r ++ [sh.heap.objs.size + 1]) (upd (upd H sh.heap.objs.size (.own (sh.heap.objs.size + 1))) (sh.heap.objs.size + 1) (.ins C sh.heap.objs.size [])) (F (.ref h.length :: xs) (h ++ [.ins c []]))
      (fun v H2 => v = .non ∧ Q (.ref (sh.heap.objs.size + 1)) H2) (fun c d H' => W c d s H') := by
    have pm := Pst.mono pp (n1.trans n2)
    unfold makeF at pm
    refine pm.bind' fun y h3 r3 H3 v e3 n3 S3 q4 p4 => ?_
    split at p4
    · rename_i hy
      rw [isNon_iff] at hy; subst hy
      rw [RV_non] at q4
      refine ⟨q4, p4.done S3 (RV_ref.mpr ⟨_, rfl, n3.get (by rw [← hs.len]; simp)⟩)⟩
    · exact p4.elim
  refine wpAny_call (make_map (f := f) I.kIn M.makes M.init (beq_iff_eq.mp M.fn) (codeAny_mono (G.run _ X.stack _ _ ⟨Value.ref (sh.heap.objs.size + 1) :: us, []⟩ (Value.ref (sh.heap.objs.size + 1) :: (us ++ ds)) (.ref (sh.heap.objs.size + 1) :: (vs ++ dvs)) _ _ _ _ (fun c d H' => W c d s H')
    (hr.make C us []) ?_ (I2.env0.make C us []) (hb _ (Value.ref (sh.heap.objs.size + 1) :: us) I2.kIn hl') r2 (by rw [List.length_cons]; exact hl) S2 q3 pp2) fun res s' hq' => ?_))
  · have e1 : (X.A.under (.builtin "type.__call__" ⟨Value.ref C :: us, []⟩)).guards = pushGuards (Code.builtin "type.__call__" ⟨Value.ref C :: us, []⟩).guards X.A.guards := rfl
    have e2 : (Code.builtin "type.__call__" ⟨Value.ref C :: us, []⟩).guards = [] := by
      unfold Code.guards
      rw [if_neg (by simp [Code.isGuard, guardIds])]
    rw [e1, e2, cok.gd]; rfl
  · cases res with
    | error ex => exact cok.tk _ _ (XE.of_call I2 (fun _ _ _ z => z) hq')
    | ok fl =>
      cases fl with
      | ret u =>
        obtain ⟨v, H', I3, rv', ev, q5⟩ := I2.after hq'
        subst ev
        exact ⟨rv', ⟨V.ref (sh.heap.objs.size + 1), H', I3, rfl, q5⟩⟩
      | next => exact False.elim hq'
      | brk => exact False.elim hq'
      | cont => exact False.elim hq'
end
end Hs
end

section
set_option Elab.async false
set_option linter.all false
set_option maxRecDepth 100000
set_option maxHeartbeats 4000000
namespace Hs
open PySem L2 PyProof.Rows
section
variable {X : Cx} {W : WX} {k : Nat} {ps : List Str} {F : List IV → Hv → R IV} {dxs : List IV} {c : Str} {e : Expr} {es : List Expr} {ms : MA} {p pos : Pos}
theorem sim_make (G : GCl X.prog X.w X.K X.mg X.base k c ps dxs F) (cok : Cok X W) (hr : Room (k + 1) X.A) (ha : SimA X W (e :: es) ms) (hg : Gl X c := by rfl) (hdb : (c == ("__debug__" : Str)) = false := by decide +kernel)
    (he : starEach (e :: es) X.env = (false, eval e X.env) :: starEach es X.env := by rfl) (hpl : (backTo pos (starEach es X.env)).any (·.1) = false := by rfl) : SimE X W (.Call (.Name c p) (e :: es) [] pos) (callM (mkM c ps.length dxs F) ms) := by
  obtain ⟨C, f, fd, ds, dvs, hm, M, hb, hd, hdx, G⟩ := G.ex
  refine ⟨fun r l h s H Q S q => ?_⟩
  intro pins sh I
  refine wpAny_Call_Name_kw (ld_glob I hg hm ?_ hdb)
  refine PySem.W.callWith_K (h₀ := X.base) I.ok.mod.kin M.kp (L2.thn (ha.thn (Q' := fun vs H1 => ∃ r1 h1 xs, HSim X.wd X.K X.mg r1 h1 H1 ∧ RVs X.wd X.K X.mg r1 H1 xs vs ∧ Pst X.wd X.K X.mg (RV X.wd X.K X.mg) r1 H1 (mkM c ps.length dxs F xs h1) Q (fun c d H' => W c d s H')) S q
    (fun xs h1 r1 H1 vs _ S1 n1 q1 p1 => ⟨r1, h1, xs, S1.hs, q1, p1⟩) pos pins sh I) fun us s1 ⟨vs, H1, I1, rv, r1, h1, xs, S1, q1, p1⟩ => ⟨I1.kIn, ?_⟩) he hpl
  unfold mkM at p1
  split at p1
  · rename_i hn
    refine run_makeg hm M G cok hr hb hd I1 rv S1 (q1.append (hdx r1 H1)) ?_ p1
    rw [List.length_append, ← q1.length, ← (hdx r1 H1).length]; exact hn
  · exact p1.elim
theorem sim_make0 (G : GCl X.prog X.w X.K X.mg X.base k c ps dxs F) (cok : Cok X W) (hr : Room (k + 1) X.A) (hg : Gl X c := by rfl) (hdb : (c == ("__debug__" : Str)) = false := by decide +kernel) : SimE X W (.Call (.Name c p) [] [] pos) (callM (mkM c ps.length dxs F) nilA) := by
  obtain ⟨C, f, fd, ds, dvs, hm, M, hb, hd, hdx, G⟩ := G.ex
  refine ⟨fun r l h s H Q S q => ?_⟩
  intro pins sh I
  refine wpAny_Call_Name_kw (ld_glob I hg hm ?_ hdb)
  refine PySem.W.callWith_K0 I.kIn M.kp ?_
  have p1 : Pst X.wd X.K X.mg (RV X.wd X.K X.mg) r H (mkM c ps.length dxs F [] h) Q (fun c d H' => W c d s H') := q
  unfold mkM at p1
  split at p1
  · rename_i hn
    refine run_makeg (us := []) (vs := []) hm M G cok hr hb hd I .nil S.hs (hdx r H) ?_ p1
    rw [List.nil_append, ← (hdx r H).length]; simpa using hn
  · exact p1.elim
end

/-! ### comprehensions -/
/-- the slots of the block's own names forgotten -/
def wipeI (l : Loc) : List Nat → Loc
  | [] => l
  | v :: vs => (wipeI l vs).set v none
/-- one turn after another; the list that is made stands at n -/
def lcGo (src : Src) (g : MG) (tt : MB) (el : ME) (l : Loc) (n : Nat) : Nat → Nat → Hv → R IV
  | 0, _, _ => .bad
  | k + 1, i, h => match itemAt src h i with
    | none => .bad
    | some none => .ok (.ref n) h
    | some (some x) => match g x l with
      | none => .bad
      | some l1 => match tt l1 h with
        | .ok true h1 => (match el l1 h1 with
          | .ok y h2 => (match h2[n]? with
            | some (.lst acc) => if acc.length < sizeLine then lcGo src g tt el l n k (i + 1) (h2.set n (.lst (acc ++ [y]))) else .bad
            | _ => .bad)
          | _ => .bad)
        | .ok false h1 => lcGo src g tt el l n k (i + 1) h1
        | _ => .bad
def lcM (mi : MI) (g : MG) (tt : MB) (el : ME) (own : List Nat) : ME := fun l h => bindR (mi l h) fun src h1 => lcGo src g tt el (wipeI l own) h1.length (srcLen src h1 + 1) 0 (h1 ++ [.lst []])
def yesB : MB := fun _ h => .ok true h
abbrev WN : WX := fun _ _ _ _ => False
section
variable {X : Cx} {W : WX} {elt tg iter e : Expr} {ifs : List Expr} {scope : Scope} {own : List (Str × Nat)} {pos : Pos} {mi : MI} {g : MG} {tt : MB} {el : ME}
theorem RL.wipe {wd : Wd} {K : PySem.W.Frag} {mg : Str → Option Value} {r : List Addr} {H : Hp} {l : Loc} {s : L2.St} (q : RL wd K mg r H l s) : ∀ vs : List Nat, RL wd K mg r H (wipeI l vs) (wipe s vs)
  | [] => q
  | v :: vs => by unfold wipeI L2.wipe; exact (RL.wipe q vs).drop v none
theorem cok_blk (C : Cok X W) {s : Shared} {H : Hp} {cenv : Env} {fp : List Addr} : Cok (X.blk s H scope cenv fp) WN := ⟨C.calm, C.gd, PassesOwn.never, C.nd, C.un, takes0⟩
theorem Sim.blk {r : List Addr} {l : Loc} {h : Hv} {s : L2.St} {H : Hp} {sh : Shared} {H0 : Hp} {cenv : Env} {fp : List Addr} (S : Sim X r l h s H) : Sim (X.blk sh H0 scope cenv fp) r l h s H := ⟨S.hs, S.lo⟩
def bTs (X : Cx) (ifs : List Expr) : TT := fun s H Q => ∀ pins sh, Inv X pins s H sh → wpAny (model X.prog X.w) X.A (forIn ifs true fun c r => if r = true then do let ok ← isTrue c X.env (eval c X.env); pure (ForInStep.yield ok) else pure (ForInStep.yield r)) (TP X pins s Q) X.xe sh
structure SimTs (X : Cx) (ifs : List Expr) (m : MB) : Prop where
  run : ∀ r l h s H Q, Sim X r l h s H → Pst X.wd X.K X.mg LB r H (m l h) Q (fun _ _ _ => False) → bTs X ifs s H Q
instance {X : Cx} {ifs : List Expr} {m : MB} : CoeFun (SimTs X ifs m) (fun _ => ∀ r l h s H Q, Sim X r l h s H → Pst X.wd X.K X.mg LB r H (m l h) Q (fun _ _ _ => False) → bTs X ifs s H Q) := ⟨fun q => q.run⟩
theorem simts_nil : SimTs X [] yesB := ⟨fun r l h s H Q S p pins sh I => pts_nil.run pins sh s H Q I (doneB p S.hs)⟩
theorem simts_one {c : Expr} {m : MB} (hc : SimT X WN c m) : SimTs X [c] m := ⟨fun r l h s H Q S p pins sh I => (pts_one pbT).run pins sh s H Q I (hc r l h s H Q S p)⟩
theorem wipe_get {s : L2.St} (j : Nat) : ∀ vs : List Nat, (wipe s vs)[j]? = if j ∈ vs then (if j < s.length then some none else none) else s[j]?
  | [] => by simp [L2.wipe]
  | v :: vs => by
    have ih := wipe_get (s := s) j vs
    unfold L2.wipe
    by_cases hj : v = j
    · subst hj
      simp only [List.mem_cons, true_or, if_true]
      by_cases hl : v < s.length
      · rw [List.getElem?_set_self (by rw [wipe_length]; exact hl), if_pos hl]
      · rw [if_neg hl, List.getElem?_eq_none_iff.mpr (by simp [wipe_length]; omega)]
    · rw [List.getElem?_set_ne hj, ih]
      simp [Ne.symm hj]
theorem OnlyAt.wipe {sl vs : List Nat} {s s' : L2.St} (o : OnlyAt sl (L2.wipe s vs) s') (h : ∀ i ∈ sl, i ∈ vs) : L2.wipe s' vs = L2.wipe s vs := by
  apply List.ext_getElem?
  intro j
  rw [wipe_get, wipe_get]
  have hl : s'.length = s.length := o.1.trans (wipe_length s vs)
  split
  · rw [hl]
  · rename_i hj
    rw [o.2 j fun z => hj (h j z), wipe_get, if_neg hj]
/-- the readings, whatever the block's own state is -/
def uG (X : Cx) (scope : Scope) (tg : Expr) : TG := fun v s H Q => ∀ sh H0 Cc cl fp, bG (X.blk sh H0 scope (compEnvC scope cl Cc X.env) fp) tg v s H Q
def uTs (X : Cx) (scope : Scope) (ifs : List Expr) : TT := fun s H Q => ∀ sh H0 Cc cl fp, bTs (X.blk sh H0 scope (compEnvC scope cl Cc X.env) fp) ifs s H Q
def uE (X : Cx) (scope : Scope) (e : Expr) : TE := fun s H Q => ∀ sh H0 Cc cl fp, bE (X.blk sh H0 scope (compEnvC scope cl Cc X.env) fp) e s H Q
theorem lc_read {sl : List Nat} (hi : SimI X W tg iter mi) (hsl : ∀ i ∈ sl, i ∈ own.map (·.2))
    (hgi : ∀ (sh : Shared) (H : Hp) (Cc : Addr) (cl : List (Str × Addr)) (fp : List Addr), SimG (X.blk sh H scope (compEnvC scope cl Cc X.env) fp) tg g sl)
    (hti : ∀ (sh : Shared) (H : Hp) (Cc : Addr) (cl : List (Str × Addr)) (fp : List Addr), SimTs (X.blk sh H scope (compEnvC scope cl Cc X.env) fp) ifs tt)
    (hei : ∀ (sh : Shared) (H : Hp) (Cc : Addr) (cl : List (Str × Addr)) (fp : List Addr), SimE (X.blk sh H scope (compEnvC scope cl Cc X.env) fp) WN elt el)
    {r : List Addr} {l : Loc} {h : Hv} {s : L2.St} {H : Hp} {Q : VK} (S : Sim X r l h s H) (p : Pst X.wd X.K X.mg (RV X.wd X.K X.mg) r H (lcM mi g tt el (own.map (·.2)) l h) Q (fun c d H' => W c d s H')) :
    tLc (bI X tg iter) (uG X scope tg) (uTs X scope ifs) (uE X scope elt) (own.map (·.2)) s H Q := by
  refine hi r l h s H _ S (p.bind' fun src h1 r1 H1 J _ n1 S1 j1 p1 => ?_)
  intro D hD
  have L1 := S.lo.mono n1
  have na := nxt_alloc (o := .lst []) S1 hD
  obtain ⟨_, S2⟩ := S1.alloc (o := .lst []) (ob := .lst []) hD ⟨[], upd_same, by simp⟩
  have hn : (r1 ++ [D])[h1.length]? = some D := by rw [← S1.len]; simp
  refine ⟨fun i m H2 => ∃ r2 h2, Nxt r1 H1 r2 H2 ∧ HSim X.wd X.K X.mg r2 h2 H2 ∧ r2[h1.length]? = some D ∧ Pst X.wd X.K X.mg (RV X.wd X.K X.mg) r2 H2 (lcGo src g tt el (wipeI l (own.map (·.2))) h1.length m i h2) Q (fun c d H' => W c d s H'),
    ⟨_, r1 ++ [D], h1 ++ [.lst []], na, S2, hn, Pst.mono p1 na⟩, ?_⟩
  rintro i m H2 ⟨r2, h2, n2, S3, hD2, p2⟩
  cases m with
  | zero => exact p2.elim
  | succ k =>
    have J2 := j1 r2 h2 H2 i n2 S3
    simp only [lcGo] at p2
    cases e1 : itemAt src h2 i with
    | none => rw [e1] at p2; exact p2.elim
    | some o =>
      cases o with
      | none =>
        rw [e1] at p2 J2
        exact .inl ⟨J2, p2.done S3 (RV_ref.mpr ⟨D, rfl, hD2⟩)⟩
      | some x =>
        rw [e1] at p2 J2
        simp only at p2 J2
        obtain ⟨J3, J4⟩ := J2
        refine .inr ⟨J3, fun H' => ∃ r2 h2, Nxt r1 H1 r2 H' ∧ HSim X.wd X.K X.mg r2 h2 H' ∧ r2[h1.length]? = some D ∧ Pst X.wd X.K X.mg (RV X.wd X.K X.mg) r2 H' (lcGo src g tt el (wipeI l (own.map (·.2))) h1.length k (i + 1) h2) Q (fun c d H' => W c d s H'),
          fun H' q => ⟨k, Nat.lt_succ_self k, q⟩, fun v H3 hy => ?_⟩
        obtain ⟨n3, S4, q3⟩ := J4 v H3 hy
        have Sw : Sim X r2 (wipeI l (own.map (·.2))) h2 (L2.wipe s (own.map (·.2))) H3 := ⟨S4, (L1.mono (n2.trans n3)).wipe _⟩
        cases e2 : g x (wipeI l (own.map (·.2))) with
        | none => rw [e2] at p2; exact p2.elim
        | some l1 =>
          rw [e2] at p2
          simp only at p2
          intro sh H0 Cc cl fp
          refine hgi sh H0 Cc cl fp r2 _ h2 _ H3 x v l1 _ Sw.blk q3 e2 fun s3 S5 o5 => ?_
          refine ⟨o5.wipe hsl, ?_⟩
          have p3 := Pst.mono p2 n3
          intro sh' H0' Cc' cl' fp'
          cases e3 : tt l1 h2 with
          | bad => rw [e3] at p3; exact p3.elim
          | exc _ _ _ => rw [e3] at p3; exact p3.elim
          | ok b h3 =>
            rw [e3] at p3
            refine hti sh' H0' Cc' cl' fp' r2 l1 h2 s3 H3 _ ⟨S5.hs, S5.lo⟩ ?_
            rw [e3]
            intro r4 H4 b' n4 S6 eb
            cases eb
            have p4 : Pst X.wd X.K X.mg (RV X.wd X.K X.mg) r4 H4 _ Q _ := Pst.mono p3 n4
            cases b with
            | false =>
              rw [if_neg Bool.false_ne_true]
              exact ⟨r4, h3, (n2.trans n3).trans n4, S6, n4.get hD2, p4⟩
            | true =>
              rw [if_pos rfl]
              intro sh2 H02 Cc2 cl2 fp2
              simp only at p4
              cases e4 : el l1 h3 with
              | bad => rw [e4] at p4; exact p4.elim
              | exc _ _ _ => rw [e4] at p4; exact p4.elim
              | ok y h4 =>
                rw [e4] at p4
                refine hei sh2 H02 Cc2 cl2 fp2 r4 l1 h3 s3 H4 _ ⟨S6, S5.lo.mono n4⟩ ?_
                rw [e4]
                intro r5 H5 u n5 S7 qu
                have p5 := Pst.mono p4 n5
                simp only at p5
                have hD5 : r5[h1.length]? = some D := n5.get (n4.get hD2)
                cases e5 : h4[h1.length]? with
                | none => rw [e5] at p5; exact p5.elim
                | some ob =>
                  rw [e5] at p5
                  cases ob with
                  | lst acc =>
                    simp only at p5
                    split at p5
                    · rename_i hz
                      obtain ⟨vs, f1, f2⟩ := S7.at_ _ _ _ e5 hD5
                      refine ⟨vs, f1, by rw [← f2.length]; exact hz, ?_⟩
                      obtain ⟨n6, S8⟩ := S7.set (o := .lst (vs ++ [u])) (ob := .lst (acc ++ [y])) hD5 (nf_of f1) fun n6 => ⟨_, upd_same, RVs.mono n6 _ _ (f2.snoc qu)⟩
                      exact ⟨r5, _, (((n2.trans n3).trans n4).trans n5).trans n6, S8, hD5, Pst.mono p5 n6⟩
                    · exact p5.elim
                  | _ => exact p5.elim
theorem sim_lc {sl : List Nat} (C : Cok X W) (hi : SimI X W tg iter mi) (ok : BlkOk X.N X.env.scope scope own) (hsl : ∀ i ∈ sl, i ∈ own.map (·.2))
    (hgi : ∀ (sh : Shared) (H : Hp) (Cc : Addr) (cl : List (Str × Addr)) (fp : List Addr), SimG (X.blk sh H scope (compEnvC scope cl Cc X.env) fp) tg g sl)
    (hti : ∀ (sh : Shared) (H : Hp) (Cc : Addr) (cl : List (Str × Addr)) (fp : List Addr), SimTs (X.blk sh H scope (compEnvC scope cl Cc X.env) fp) ifs tt)
    (hei : ∀ (sh : Shared) (H : Hp) (Cc : Addr) (cl : List (Str × Addr)) (fp : List Addr), SimE (X.blk sh H scope (compEnvC scope cl Cc X.env) fp) WN elt el) (hs : ∀ x, foldedSetIterable iter X.env x = pure x := by intro _; rfl) :
    SimE X W (.ListComp elt [⟨tg, iter, ifs, 0⟩] scope pos) (lcM mi g tt el (own.map (·.2))) := .mk fun r l h s H Q S p =>
  toE (pe_lc C.calm C.nd pbI ok (fun sh H0 Cc cl fp => ⟨fun pins s0 s H v u Q I rr hh => hh sh H0 Cc cl fp pins s0 u I rr⟩) (fun sh H0 Cc cl fp => ⟨fun pins s0 s H Q I hh => hh sh H0 Cc cl fp pins s0 I⟩) (fun sh H0 Cc cl fp => ⟨fun pins s0 s H Q I hh => hh sh H0 Cc cl fp pins s0 I⟩) hs)
    (lc_read hi hsl hgi hti hei S p)
theorem lcset_go {sl : List Nat} {i : Nat} {y : Str} {py spos : Pos} (td : R IV → Hv → R IV) (htd : ∀ {r : List Addr} {H : Hp} {h : Hv} {res : R IV} {Q : VK} {W : XK}, HSim X.wd X.K X.mg r h H → Pst X.wd X.K X.mg (RV X.wd X.K X.mg) r H (td res h) Q W → Pst X.wd X.K X.mg (RV X.wd X.K X.mg) r H res Q W)
    (C : Cok X W) (hi : SimI X W tg iter mi) (ok : BlkOk X.N X.env.scope scope own) (hsl : ∀ i ∈ sl, i ∈ own.map (·.2))
    (hgi : ∀ (sh : Shared) (H : Hp) (Cc : Addr) (cl : List (Str × Addr)) (fp : List Addr), SimG (X.blk sh H scope (compEnvC scope cl Cc X.env) fp) tg g sl)
    (hti : ∀ (sh : Shared) (H : Hp) (Cc : Addr) (cl : List (Str × Addr)) (fp : List Addr), SimTs (X.blk sh H scope (compEnvC scope cl Cc X.env) fp) ifs tt)
    (hei : ∀ (sh : Shared) (H : Hp) (Cc : Addr) (cl : List (Str × Addr)) (fp : List Addr), SimE (X.blk sh H scope (compEnvC scope cl Cc X.env) fp) WN elt el)
    (hy : X.N[i]? = some y) (hyl : X.env.scope.names.lookup y = some .local) (hsw : swapsWith (.ListComp elt [⟨tg, iter, ifs, 0⟩] scope pos) (some (.Name y py)) spos.line X.env = pure true)
    (hs : ∀ x, foldedSetIterable iter X.env x = pure x) : SimS X W (.Assign [.Name y py] (.ListComp elt [⟨tg, iter, ifs, 0⟩] scope pos) spos) (setS i (fun l h => td (lcM mi g tt el (own.map (·.2)) l h) h)) := .mk fun r l h s H D S p =>
  toS (ps_setLc C.calm C.nd hy hyl hsw pbI ok (fun sh H0 Cc cl fp => ⟨fun pins s0 s H v u Q I rr hh => hh sh H0 Cc cl fp pins s0 u I rr⟩) (fun sh H0 Cc cl fp => ⟨fun pins s0 s H Q I hh => hh sh H0 Cc cl fp pins s0 I⟩) (fun sh H0 Cc cl fp => ⟨fun pins s0 s H Q I hh => hh sh H0 Cc cl fp pins s0 I⟩) hs)
    (lc_read hi hsl hgi hti hei S (htd S.hs (PstS.bind p S fun y h1 r1 H1 v _ S1 n1 q1 p1 => p1 r1 H1 _ (Nxt.refl S1.hs) ⟨S1.hs, S1.lo.set q1⟩)))
end
end Hs
end

section
set_option Elab.async false
set_option linter.all false
set_option maxRecDepth 100000
set_option maxHeartbeats 4000000
namespace Hs
open PySem L2 PyProof.Rows

/-! ### d[k] = v, l[i] = v -/
def putKI (kvs : List (Key × IV)) (k : Key) (x : IV) : List (Key × IV) :=
  if (kvs.any fun kv => decide (kv.1 = k)) = true then kvs.map (fun kv => if kv.1 = k then (kv.1, x) else kv) else kvs ++ [(k, x)]
section
variable {wd : Wd} {K : PySem.W.Frag} {mg : Str → Option Value} {r : List Addr} {H : Hp} {h : Hv}
theorem put_map {k : Key} {x : IV} {v : V} (p : RV wd K mg r H x v) : ∀ {kvs : List (Key × IV)} {ws : List (Key × V)}, kvs.map (·.1) = ws.map (·.1) → RVs wd K mg r H (kvs.map (·.2)) (ws.map (·.2)) →
    (kvs.any fun kv => decide (kv.1 = k)) = (ws.any fun kv => decide (kv.1 = k)) ∧
    (kvs.map (fun kv => if kv.1 = k then (kv.1, x) else kv)).map (·.1) = (ws.map (fun kv => if kv.1 = k then (kv.1, v) else kv)).map (·.1) ∧
    RVs wd K mg r H ((kvs.map (fun kv => if kv.1 = k then (kv.1, x) else kv)).map (·.2)) ((ws.map (fun kv => if kv.1 = k then (kv.1, v) else kv)).map (·.2))
  | [], [], _, _ => ⟨rfl, rfl, by simp⟩
  | [], _ :: _, e, _ => by simp at e
  | _ :: _, [], e, _ => by simp at e
  | (k1, x1) :: kvs, (k2, v2) :: ws, e, q => by
    simp only [List.map_cons, List.cons.injEq] at e
    obtain ⟨e1, e2⟩ := e
    subst e1
    obtain ⟨v', t, et, q1, q2⟩ := RVs_cons.mp q
    simp only [List.map_cons, List.cons.injEq] at et
    obtain ⟨rfl, rfl⟩ := et
    obtain ⟨i1, i2, i3⟩ := put_map p e2 q2
    simp only [List.any_cons, List.map_cons, i1]
    by_cases hk : k1 = k
    · simp only [hk, if_true]
      exact ⟨by rw [i1], by simpa using i2, RVs_cons.mpr ⟨_, _, rfl, p, by simpa using i3⟩⟩
    · simp only [hk, if_false]
      exact ⟨by rw [i1], by simpa using i2, RVs_cons.mpr ⟨_, _, rfl, q1, by simpa using i3⟩⟩
theorem put_ok {k : Key} {x : IV} {v : V} {kvs : List (Key × IV)} {ws : List (Key × V)} (p : RV wd K mg r H x v) (e : kvs.map (·.1) = ws.map (·.1)) (q : RVs wd K mg r H (kvs.map (·.2)) (ws.map (·.2))) :
    (putKI kvs k x).map (·.1) = (putK ws k v).map (·.1) ∧ RVs wd K mg r H ((putKI kvs k x).map (·.2)) ((putK ws k v).map (·.2)) := by
  obtain ⟨i1, i2, i3⟩ := put_map (k := k) p e q
  unfold putKI L2.putK
  rw [← i1]
  split
  · exact ⟨i2, i3⟩
  · refine ⟨by simp [e], ?_⟩
    rw [List.map_append, List.map_append]
    exact q.snoc p
end
def putI (x y z : IV) (h : Hv) : Option Hv := match x with
  | .ref n => (match h[n]? with
    | some (.dct kvs) => (match keyOf y with | some k => if kvs.length < sizeLine then some (h.set n (.dct (putKI kvs k z))) else none | none => none)
    | some (.lst xs) => (match y with | .int i => (match ixN xs.length i with | some j => some (h.set n (.lst (xs.set j z))) | none => none) | _ => none)
    | _ => none)
  | _ => none
def putS (mo mi mv : ME) : MS := fun l h => bindS (mv l h) l fun z h1 => bindS (mo l h1) l fun x h2 => bindS (mi l h2) l fun y h3 => match putI x y z h3 with | some h4 => .ok (.nx l) h4 | none => .bad
section
variable {X : Cx} {W : WX} {o i value : Expr} {mo mi mv : ME} {pos pos' : Pos}
abbrev aSet : TSet := fun o i v H Q => rSetD o i v H Q ∨ rSetL o i v H Q
theorem set_any (hu : X.A.units + 1 < cLine) : PSet X aSet := fun pins s σ H o i v ov iv u Q I ro ri rv q => q.elim (set_dict hu pins s σ H o i v ov iv u Q I ro ri rv) (set_list pins s σ H o i v ov iv u Q I ro ri rv)
theorem putI_ok {r : List Addr} {H : Hp} {h h' : Hv} {x y z : IV} {v u w : V} (S : HSim X.wd X.K X.mg r h H) (e : putI x y z h = some h') (q : RV X.wd X.K X.mg r H x v) (p : RV X.wd X.K X.mg r H y u) (t : RV X.wd X.K X.mg r H z w) {Q : Hp → Prop}
    (k : ∀ H', Nxt r H r H' → HSim X.wd X.K X.mg r h' H' → Q H') : aSet v u w H Q := by
  unfold putI at e
  split at e
  · rename_i n
    obtain ⟨a, rfl, ha⟩ := RV_ref.mp q
    split at e
    · rename_i kvs e1
      split at e
      · rename_i key e2
        split at e
        · rename_i hz
          cases e
          obtain rfl := key_ok e2 p
          obtain ⟨ws, f1, f2, f3⟩ := S.at_ _ _ _ e1 ha
          have hl : ws.length < sizeLine := by
            have := congrArg List.length f2
            simp at this; omega
          have hp := put_ok (k := key) t f2 f3
          obtain ⟨n', S'⟩ := S.set (o := .dK (putK ws key w)) (ob := .dct (putKI kvs key z)) ha (nf_of f1) fun n6 => ⟨_, upd_same, hp.1, RVs.mono n6 _ _ hp.2⟩
          exact .inl ⟨a, _, rfl, DPut.k f1 hl, k _ n' S'⟩
        · cases e
      · cases e
    · rename_i xs e1
      split at e
      · rename_i i
        split at e
        · rename_i j e2
          cases e
          obtain rfl : u = .int i := by simpa using p
          obtain ⟨vs, f1, f2⟩ := S.at_ _ _ _ e1 ha
          obtain ⟨n', S'⟩ := S.set (o := .lst (vs.set j w)) (ob := .lst (xs.set j z)) ha (nf_of f1) fun n6 => ⟨_, upd_same, RVs.mono n6 _ _ (f2.set j t)⟩
          exact .inr ⟨a, vs, i, j, rfl, rfl, f1, by rw [← f2.length]; exact e2, k _ n' S'⟩
        · cases e
      · cases e
    · cases e
  · cases e
theorem sim_put (C : Cok X W) (ho : SimE X W o mo) (hi : SimE X W i mi) (hv : SimE X W value mv) (hs : swapsWithSole [.Subscript o i pos'] value pos.line X.env = pure false := by rfl) (hw : swappedStores [.Subscript o i pos'] value X.env = pure none := by rfl)
    (h1 : (assignEach [.Subscript o i pos'] X.env).map (·.2) = [assign (.Subscript o i pos') X.env] := by rfl)
    (ha : ∀ v, assign (.Subscript o i pos') X.env v = (do
      let ov ← holding [v] (eval o X.env)
      let iv ← holding [v, ov] (eval i X.env)
      standAt pos'
      holding [v, ov, iv] (setItem ov iv v)
      release [v, ov, iv] []) := by intro _; rfl) : SimS X W (.Assign [.Subscript o i pos'] value pos) (putS mo mi mv) := by
  refine ⟨fun r l h s H D S p => ?_⟩
  have un := C.un
  refine toS (ps_asg pbE (pg_sub pbE pbE (set_any (by omega)) ha) hs hw h1) ?_
  refine hv.thnS S p fun z h1 r1 H1 w _ S1 n1 q1 p1 => ?_
  refine ho.thnS S1 p1 fun x h2 r2 H2 v _ S2 n2 q2 p2 => ?_
  refine hi.thnS S2 p2 fun y h3 r3 H3 u _ S3 n3 q3 p3 => ?_
  split at p3
  · rename_i h4 e4
    exact putI_ok S3.hs e4 (RV.mono n3 _ _ q2) q3 (RV.mono (n2.trans n3) _ _ q1) fun H' n' S' => p3 r3 H' s n' (S3.next n' S')
  · exact p3.elim
end

/-! ### {k: v, ..} -/
def mergeKI (kvs more : List (Key × IV)) : List (Key × IV) := more.foldl (fun acc kv => putKI acc kv.1 kv.2) kvs
theorem merge_ok {wd : Wd} {K : PySem.W.Frag} {mg : Str → Option Value} {r : List Addr} {H : Hp} : ∀ {more : List (Key × IV)} {wm : List (Key × V)} {kvs : List (Key × IV)} {ws : List (Key × V)}, more.map (·.1) = wm.map (·.1) → RVs wd K mg r H (more.map (·.2)) (wm.map (·.2)) →
    kvs.map (·.1) = ws.map (·.1) → RVs wd K mg r H (kvs.map (·.2)) (ws.map (·.2)) → (mergeKI kvs more).map (·.1) = (mergeK ws wm).map (·.1) ∧ RVs wd K mg r H ((mergeKI kvs more).map (·.2)) ((mergeK ws wm).map (·.2))
  | [], [], kvs, ws, _, _, e, q => ⟨e, q⟩
  | [], _ :: _, _, _, e, _, _, _ => by simp at e
  | _ :: _, [], _, _, e, _, _, _ => by simp at e
  | (k1, x1) :: more, (k2, v2) :: wm, kvs, ws, e, q, e', q' => by
    simp only [List.map_cons, List.cons.injEq] at e
    obtain ⟨e1, e2⟩ := e
    subst e1
    obtain ⟨v', t, et, q1, q2⟩ := RVs_cons.mp q
    simp only [List.map_cons, List.cons.injEq] at et
    obtain ⟨rfl, rfl⟩ := et
    have z := put_ok (k := k1) q1 e' q'
    exact merge_ok (more := more) (wm := wm) e2 q2 z.1 z.2
def dispGo : List (ME × ME) → Loc → Hv → R (List (Key × IV))
  | [], _, h => .ok [] h
  | (mk, mv) :: ps, l, h => bindR (mk l h) fun x h1 => match keyOf x with | some k => bindR (mv l h1) fun y h2 => bindR (dispGo ps l h2) fun r h3 => .ok ((k, y) :: r) h3 | none => .bad
def dispM (ps : List (ME × ME)) : ME := fun l h => bindR (dispGo ps l (h ++ [.dct []])) fun kvs h2 => match h2[h.length]? with | some (.dct []) => if kvs.length ≤ 15 then .ok (.ref h.length) (h2.set h.length (.dct (mergeKI [] kvs))) else .bad | _ => .bad
section
variable {X : Cx} {W : WX} {pos : Pos}
inductive SimPs (X : Cx) (W : WX) : List (Option Expr) → List Expr → List (ME × ME) → List (TE × TE) → Prop
  | nil : SimPs X W [] [] [] []
  | cons {k v : Expr} {mk mv : ME} {ks : List (Option Expr)} {vs : List Expr} {ps : List (ME × ME)} {ts : List (TE × TE)} : SimE X W k mk → SimE X W v mv → SimPs X W ks vs ps ts → SimPs X W (some k :: ks) (v :: vs) ((mk, mv) :: ps) ((bE X k, bE X v) :: ts)
theorem SimPs.pps {keys : List (Option Expr)} {values : List Expr} {ps : List (ME × ME)} {ts : List (TE × TE)} (q : SimPs X W keys values ps ts) : PPs X pos keys values ts := by
  induction q with
  | nil => exact pps_nil
  | cons _ _ _ ih => exact pps_cons pbE pbE ih
abbrev LKV (wd : Wd) (K : PySem.W.Frag) (mg : Str → Option Value) : List Addr → Hp → List (Key × IV) → List (V × V) → Prop := fun r H kvs vvs => ∃ ws : List (Key × V), vvs = ws.map (fun kv => (kV kv.1, kv.2)) ∧ kvs.map (·.1) = ws.map (·.1) ∧ RVs wd K mg r H (kvs.map (·.2)) (ws.map (·.2))
theorem SimPs.go {keys : List (Option Expr)} {values : List Expr} {ps : List (ME × ME)} {ts : List (TE × TE)} (q : SimPs X W keys values ps ts) : ∀ {r : List Addr} {l : Loc} {h : Hv} {s : L2.St} {H : Hp} {Q : List (V × V) → Hp → Prop}, Sim X r l h s H →
    Pst X.wd X.K X.mg (LKV X.wd X.K X.mg) r H (dispGo ps l h) Q (fun c d H' => W c d s H') → tPairs ts s H Q := by
  induction q with
  | nil => exact fun S p => p _ _ _ (Nxt.refl S.hs) S.hs ⟨[], rfl, rfl, by simp⟩
  | @cons k v mk mv ks vs ps ts hk hv _ ih =>
    intro r l h s H Q S p
    refine hk.thn S p fun x h1 r1 H1 u _ S1 n1 q1 p1 => ?_
    split at p1
    · rename_i key e1
      obtain rfl := key_ok e1 q1
      refine hv.thn S1 p1 fun y h2 r2 H2 w _ S2 n2 q2 p2 => ?_
      refine ih S2 (p2.bind' fun kvs h3 r3 H3 vvs _ n3 S3 q3 p3 => ?_)
      obtain ⟨ws, rfl, f1, f2⟩ := q3
      exact p3 r3 H3 _ (Nxt.refl S3) S3 ⟨(key, w) :: ws, rfl, by simp [f1], RVs_cons.mpr ⟨_, _, rfl, RV.mono n3 _ _ q2, f2⟩⟩
    · exact p1.elim
theorem sim_disp {keys : List (Option Expr)} {values : List Expr} {ps : List (ME × ME)} {ts : List (TE × TE)} (q : SimPs X W keys values ps ts) (hall : keys.all (·.isSome) = true := by rfl) (hl : keys.length = values.length := by rfl) (h0 : keys ≠ [] := by exact List.cons_ne_nil _ _) (h15 : keys.length ≤ 15 := by exact Nat.le_of_ble_eq_true rfl) :
    SimE X W (.Dict keys values pos) (dispM ps) := by
  refine ⟨fun r l h s H Q S p => ?_⟩
  refine toE (pe_disp q.pps hall hl h0 h15) ?_
  intro D hD
  have na := nxt_alloc (o := .dK []) S.hs hD
  obtain ⟨_, S1⟩ := S.hs.alloc (o := .dK []) (ob := .dct []) hD ⟨[], upd_same, rfl, by simp⟩
  have hn : (r ++ [D])[h.length]? = some D := by rw [← S.hs.len]; simp
  refine q.go (S.next na S1) ((Pst.mono p na).bind' fun kvs h2 r2 H2 vvs _ n2 S2 q2 p2 => ?_)
  obtain ⟨ws, rfl, f1, f2⟩ := q2
  have hD2 : r2[h.length]? = some D := n2.get hn
  split at p2
  · rename_i e2
    split at p2
    · rename_i h15'
      obtain ⟨ws0, g1, g2, g3⟩ := S2.at_ _ _ _ e2 hD2
      have hw0 : ws0 = [] := by simpa using g2.symm
      subst hw0
      refine ⟨g1, ws, rfl, ?_, ?_⟩
      · have := congrArg List.length f1
        simp at this; omega
      have z := merge_ok (kvs := []) (ws := []) f1 f2 rfl (by simp)
      obtain ⟨n3, S3⟩ := S2.set (o := .dK (mergeK [] ws)) (ob := .dct (mergeKI [] kvs)) hD2 (nf_of g1) fun n6 => ⟨_, upd_same, z.1, RVs.mono n6 _ _ z.2⟩
      exact p2 r2 _ _ n3 S3 (RV_ref.mpr ⟨D, rfl, hD2⟩)
    · exact p2.elim
  · exact p2.elim
def dnewM : ME := fun _ h => .ok (.ref h.length) (h ++ [.dct []])
theorem sim_dnew : SimE X W (.Dict [] [] pos) dnewM := ⟨fun r l h s H Q S p => toE pe_dnewK fun D hD => p.newD (ws := []) S.hs rfl (by simp) hD⟩
end

/-! ### dict(pairs), d.get -/
def pairsOf : List IV → Option (List (Key × IV))
  | [] => some []
  | .tup [k, v] :: r => (match keyOf k, pairsOf r with | some k', some kvs => some ((k', v) :: kvs) | _, _ => none)
  | _ :: _ => none
def dictI (xs : List IV) (h : Hv) : R IV := match xs with
  | [x] => (match lstOf h x with | some ys => (match pairsOf ys with | some kvs => .ok (.ref h.length) (h ++ [.dct (mergeKI [] kvs)]) | none => .bad) | none => .bad)
  | _ => .bad
section
variable {X : Cx} {W : WX} {pos : Pos}
theorem pairsOf_ok {r : List Addr} {H : Hp} : ∀ {ys : List IV} {vs : List V} {kvs : List (Key × IV)}, pairsOf ys = some kvs → RVs X.wd X.K X.mg r H ys vs →
    ∃ (ps : List Addr) (ws : List (Key × V)), vs = ps.map V.ref ∧ Paired (fun p kv => SqT X.K H p [kV kv.1, kv.2]) ps ws ∧ kvs.map (·.1) = ws.map (·.1) ∧ RVs X.wd X.K X.mg r H (kvs.map (·.2)) (ws.map (·.2))
  | [], vs, kvs, e, q => by
    rw [RVs_nil] at q; subst q
    simp [pairsOf] at e; subst e
    exact ⟨[], [], rfl, .nil, rfl, by simp⟩
  | .tup [k, v] :: ys, vs, kvs, e, q => by
    obtain ⟨u, t, rfl, q1, q2⟩ := RVs_cons.mp q
    obtain ⟨a, us, rfl, f1, f2⟩ := RV_tup.mp q1
    obtain ⟨k', v', rfl, g1, g2⟩ := f2.two
    simp only [pairsOf] at e
    split at e
    · rename_i key kvs' e1 e2
      cases e
      obtain rfl := key_ok e1 g1
      obtain ⟨ps, ws, rfl, z1, z2, z3⟩ := pairsOf_ok e2 q2
      exact ⟨a :: ps, (key, v') :: ws, rfl, .cons f1.sq z1, by simp [z2], RVs_cons.mpr ⟨_, _, rfl, g2, z3⟩⟩
    · cases e
  | .tup [] :: ys, vs, kvs, e, q => by simp [pairsOf] at e
  | .tup [_] :: ys, vs, kvs, e, q => by simp [pairsOf] at e
  | .tup (_ :: _ :: _ :: _) :: ys, vs, kvs, e, q => by simp [pairsOf] at e
  | .non :: ys, vs, kvs, e, q => by simp [pairsOf] at e
  | .bl _ :: ys, vs, kvs, e, q => by simp [pairsOf] at e
  | .int _ :: ys, vs, kvs, e, q => by simp [pairsOf] at e
  | .str _ :: ys, vs, kvs, e, q => by simp [pairsOf] at e
  | .lst _ :: ys, vs, kvs, e, q => by simp [pairsOf] at e
  | .frl _ :: ys, vs, kvs, e, q => by simp [pairsOf] at e
  | .obj _ _ :: ys, vs, kvs, e, q => by simp [pairsOf] at e
  | .ref _ :: ys, vs, kvs, e, q => by simp [pairsOf] at e
theorem b_dict : BuS X (fun xs H Q => ∃ (a : Addr) (ps : List Addr) (kvs : List (Key × V)), xs = [.ref a] ∧ SqL X.K H a (ps.map V.ref) ∧ Paired (fun p kv => SqT X.K H p [kV kv.1, kv.2]) ps kvs ∧
    ∀ p, H p = none → Q (.ref p) (upd H p (.dK (mergeK [] kvs)))) dictI := by
  refine ⟨fun r h H xs vs Q W S q p => ?_⟩
  unfold dictI at p
  split at p
  · rename_i x
    obtain ⟨v, rfl, q1⟩ := q.one
    split at p
    · rename_i ys e1
      split at p
      · rename_i kvs e2
        obtain ⟨a, us, rfl, f1, f2⟩ := lstOf_ok S e1 q1
        obtain ⟨ps, ws, rfl, z1, z2, z3⟩ := pairsOf_ok e2 f2
        have z := merge_ok (kvs := []) (ws := []) z2 z3 rfl (by simp)
        exact ⟨a, ps, ws, rfl, f1, z1, fun D hD => p.newD S z.1 z.2 hD⟩
      · exact p.elim
    · exact p.elim
  · exact p.elim
def getM2 (mo my mx : ME) : ME := fun l h => bindR (mo l h) fun x h1 => match dctOf h1 x with
  | some _ => bindR (my l h1) fun y h2 => bindR (mx l h2) fun z h3 => (match dctOf h3 x, keyOf y with | some kvs, some k => .ok ((getK kvs k).getD z) h3 | _, _ => .bad)
  | none => .bad
def getM1 (mo my : ME) : ME := fun l h => bindR (mo l h) fun x h1 => match dctOf h1 x with
  | some _ => bindR (my l h1) fun y h2 => (match dctOf h2 x, keyOf y with | some kvs, some k => .ok ((getK kvs k).getD .non) h2 | _, _ => .bad)
  | none => .bad
variable {o e f : Expr} {mo my mx : ME} {apos cpos : Pos}
theorem sim_get2 (C : Cok X W) (ho : SimE X W o mo) (he : SimE X W e my) (hf : SimE X W f mx) (m : M2 X o "get" apos e f cpos) : SimE X W (.Call (.Attribute o "get" apos) [e, f] [] cpos) (getM2 mo my mx) := by
  refine ⟨fun r l h s H Q S p => ?_⟩
  have un := C.un
  refine toE (pe_dget2 (by omega) pbE pbE pbE m) ?_
  refine ho.thn S p fun x h1 r1 H1 v _ S1 n1 q1 p1 => ?_
  split at p1
  · rename_i kvs0 e0
    obtain ⟨n, a, ws, rfl, _, rfl, _, f1, _, _⟩ := dctOf_ok S1.hs e0 q1
    refine ⟨a, rfl, .inl ⟨_, f1⟩, ?_⟩
    refine he.thn S1 p1 fun y h2 r2 H2 u _ S2 n2 q2 p2 => ?_
    refine hf.thn S2 p2 fun z h3 r3 H3 w _ S3 n3 q3 p3 => ?_
    split at p3
    · rename_i kvs k e1 e2
      obtain ⟨n', a', ws', e4, g1, g2, _, g3, g4, g5⟩ := dctOf_ok S3.hs e1 (RV.mono (n2.trans n3) _ _ q1)
      cases g2
      obtain rfl := key_ok e2 q2
      refine ⟨_, DGet.kr g3, ?_⟩
      have gk := getK_ok (k := k) g4 g5
      cases e5 : getK kvs k with
      | none =>
        rw [e5] at p3
        rw [gk.1 e5]
        exact p3.done S3.hs q3
      | some y' =>
        rw [e5] at p3
        obtain ⟨v', e6, q6⟩ := gk.2 _ e5
        rw [e6]
        exact p3.done S3.hs q6
    · exact p3.elim
  · exact p1.elim
theorem sim_get1 (C : Cok X W) (ho : SimE X W o mo) (he : SimE X W e my) (m : M1 X o "get" apos e cpos) : SimE X W (.Call (.Attribute o "get" apos) [e] [] cpos) (getM1 mo my) := by
  refine ⟨fun r l h s H Q S p => ?_⟩
  have un := C.un
  refine toE (pe_dget1 (by omega) pbE pbE m) ?_
  refine ho.thn S p fun x h1 r1 H1 v _ S1 n1 q1 p1 => ?_
  split at p1
  · rename_i kvs0 e0
    obtain ⟨n, a, ws, rfl, _, rfl, _, f1, _, _⟩ := dctOf_ok S1.hs e0 q1
    refine ⟨a, rfl, .inl ⟨_, f1⟩, ?_⟩
    refine he.thn S1 p1 fun y h2 r2 H2 u _ S2 n2 q2 p2 => ?_
    split at p2
    · rename_i kvs k e1 e2
      obtain ⟨n', a', ws', e4, g1, g2, _, g3, g4, g5⟩ := dctOf_ok S2.hs e1 (RV.mono n2 _ _ q1)
      cases g2
      obtain rfl := key_ok e2 q2
      refine ⟨_, DGet.kr g3, ?_⟩
      have gk := getK_ok (k := k) g4 g5
      cases e5 : getK kvs k with
      | none =>
        rw [e5] at p2
        rw [gk.1 e5]
        exact p2.done S2.hs (by simp)
      | some y' =>
        rw [e5] at p2
        obtain ⟨v', e6, q6⟩ := gk.2 _ e5
        rw [e6]
        exact p2.done S2.hs q6
    · exact p2.elim
  · exact p1.elim
end
end Hs
end

section
set_option Elab.async false
set_option linter.all false
set_option maxRecDepth 100000
set_option maxHeartbeats 4000000
namespace Hs
open PySem L2 PyProof.Rows PySem.W

/-! ### sorted(xs), a list or a tuple of data that are alike -/
section
variable {prog : Program} {w : World} {A : Around} {E : Value → Shared → Prop} {s : Shared} {β : Type} {vs : List Value} {bs : List β} {enc : β → PyData} {Rr : Value → β → Prop}
theorem sorted_seq {l : Addr} {T : String} {o : Obj} {n : Nat} {Q : Value → Shared → Prop} (hT : T = "list" ∨ T = "tuple") (ho : s.heap.get? l = some o) (hc : o.cls = .type T) (hd : o.data = .seq vs.toArray n)
    (e : EachIs Rr vs bs) (er : EachIs (fun v b => ∃ as, Reads s.heap v (enc b) as) vs bs) (hal : AllAlike (bs.map enc)) (hk : Sortable (bs.map enc)) (hL : bs.length ≤ sizeLine)
    (hu : ∀ b, b ∈ bs → A.units + 2 + (enc b).depth < cLine)
    (h : ∀ (h1 h' : Heap) (D : Addr) (out : List Value) (c : Nat), (∀ b o, s.heap.get? b = some o → h1.get? b = some o) → (∀ b o, h1.get? b = some o → h'.get? b = some o) → h1.objs.size ≤ D → h'.get? D = some (seqObj "list" (List.toArray out) c) → out.length = bs.length → EachIs Rr out (bs.mergeSort (dataLe false enc)) → Q (.ref D) { s with heap := h' }) :
    wpAny (model prog w) A (call (.builtin "sorted") [.ref l]) Q E s := by
  have hLv : vs.length ≤ sizeLine := by rw [e.length]; exact hL
  refine call_function_entry_kw kind_sorted plain_sorted entry_sorted (args_sorted1 _) ?_
  unfold Builtin.«sorted»
  refine wpAny_bind (m := checkCount "sorted" 1 1 _) (wpAny_pure ?_)
  refine wpAny_bind (wpAny_collect_seq l hT ho hc hd (fun h' k => ?_) (by simpa using hLv))
  rw [List.toList_toArray]
  refine wpAny_bind (wpAny_newList ?_ hLv)
  have at1 : (h'.push (seqObj "list" vs.toArray 0)).get? h'.objs.size = some (seqObj "list" vs.toArray 0) := Heap.get?_push_size _ rfl
  refine wpAny_bind (wpAny_holding (wpAny_call_entry_kw slot_list_sort ⟨_, at1, rfl⟩ entry_list_sort ?body (args_list_sort _)))
  case body =>
    show wpAny (model prog w) A.in1.in1 (Builtin.«list.sort» ⟨[.ref h'.objs.size], []⟩) _ _ _
    have old : ∀ b o, s.heap.get? b = some o → (sortingHeap (h'.push (seqObj "list" vs.toArray 0)) h'.objs.size vs).get? b = some o := fun b o eb =>
      sortingHeap_old (Nat.ne_of_lt (Heap.lt_size (k b o eb))) (Heap.get?_push_of_some _ (k b o eb))
    have er' : EachIs (fun v b => ∃ as, Reads (sortingHeap (h'.push (seqObj "list" vs.toArray 0)) h'.objs.size vs) v (enc b) as) vs bs := er.mono fun _ _ ⟨as, r⟩ => ⟨as, PyProof.Rows.Reads.keeps old r⟩
    refine list_sort_vals (s := { s with heap := h'.push (seqObj "list" vs.toArray 0) }) at1 (SortsAt.data (s := { s with heap := sortingHeap (h'.push (seqObj "list" vs.toArray 0)) h'.objs.size vs }) (each_map (R := fun v d => ∃ as, Reads (sortingHeap (h'.push (seqObj "list" vs.toArray 0)) h'.objs.size vs) v d as) enc er') hal hk (bound_map fun b hb => hu b hb)) hLv ?_
    refine ⟨_, rfl, wpAny_pure ⟨_, rfl, ?_⟩⟩
    obtain ⟨c, hc2⟩ := sortedHeap_at (out := (sortVals (dataKind (sortingHeap (h'.push (seqObj "list" vs.toArray 0)) h'.objs.size vs) (bs.map enc)) false vs vs).toArray) at1
    refine h h' _ h'.objs.size _ c k (fun b o eb => ?_) (Nat.le_refl _) hc2 (by rw [sortVals_length false rfl]; exact e.length) (sortVals_data false e er' hal)
    have hlt := Heap.lt_size eb
    rw [sortedHeap_old (Nat.ne_of_lt hlt) (by rw [size_push']; exact Nat.lt_succ_of_lt hlt)]
    exact Heap.get?_push_of_some _ eb
end
section
variable {X : Cx} {W : WX}
def rSortA (K : PySem.W.Frag) : List V → Hp → VK → Prop := fun vs H Q => ∃ (a : Addr) (bs : List (V × PyData)), vs = [.ref a] ∧ (SqL K H a (bs.map (·.1)) ∨ SqT K H a (bs.map (·.1))) ∧ (∀ b ∈ bs, Dp K H b.1 b.2 ∧ b.2.depth ≤ 100) ∧ AllAlike (bs.map (·.2)) ∧ Sortable (bs.map (·.2)) ∧
  ∀ p, H p = none → Q (.ref p) (upd H p (.lst ((bs.mergeSort (dataLe false (·.2))).map (·.1))))
theorem each_vals {its : List Value} : ∀ {bs : List (V × PyData)}, Vals (bs.map (·.1)) its → EachIs (fun u b => RelV b.1 u) its bs := by
  intro bs
  induction bs generalizing its with
  | nil => intro r; rw [List.map_nil] at r; cases r; exact .nil
  | cons b bs ih =>
    intro r
    rw [List.map_cons] at r
    cases r with
    | cons r1 r2 => exact .cons r1 (ih r2)
theorem vals_each {out : List Value} {bs : List (V × PyData)} (e : EachIs (fun u (b : V × PyData) => RelV b.1 u) out bs) : Vals (bs.map (·.1)) out := by
  induction e with
  | nil => exact .nil
  | cons h _ ih => exact .cons h ih
theorem cr_sortA (hu : X.A.units + 200 < cLine) : CallR X (.builtin "sorted") (rSortA X.K) := by
  intro pins s σ H vs us Q I r h
  obtain ⟨a, bs, rfl, hs, hd, hal, hk, q⟩ := h
  rw [Vals.ref1 r]
  have go : ∀ {T : String} {o : Obj} {n : Nat} {its : List Value}, (T = "list" ∨ T = "tuple") → s.heap.get? a = some o → o.cls = .type T → o.data = .seq its.toArray n → Vals (bs.map (·.1)) its → bs.length ≤ sizeLine → wpAny (model X.prog X.w) X.A (call (.builtin "sorted") [.ref a]) (EP X pins σ Q) X.xe s := by
    intro T o n its hT ho hc hdt rv hL
    have e0 := each_vals rv
    have er : EachIs (fun v (b : V × PyData) => ∃ as, Reads s.heap v b.2 as) its bs := (each_mem e0).mono fun v b ⟨rb, hb⟩ => Dp.reads I _ _ _ (hd b hb).1 rb
    refine sorted_seq (enc := fun b : V × PyData => b.2) hT ho hc hdt e0 er hal hk hL (fun b hb => by have := (hd b hb).2; omega) fun h1 h' D out c k1 k2 hD hat hlen eo => ?_
    have I1 := I.kept (t' := s.toks) k1
    have rv' := vals_each eo
    have hz : ((bs.mergeSort (dataLe false fun b => b.2)).map (·.1)).length ≤ sizeLine := by rw [List.length_map, List.length_mergeSort]; exact hL
    exact ⟨.ref D, upd H D (.lst ((bs.mergeSort (dataLe false fun b => b.2)).map (·.1))), I1.laid (t' := s.toks) k2 hD ⟨hz, out, c, rv', hat⟩, rfl, q _ (I1.hok.fresh hD)⟩
  rcases hs with hs | hs
  · obtain ⟨its, rv, ⟨o, n, ho, hc, _, hdt⟩, hL⟩ := I.list hs
    exact go (.inl rfl) ho hc hdt rv (by simpa using hL)
  · obtain ⟨its, rv, ⟨o, ho, hc, n, hdt⟩, hL⟩ := I.tuple hs
    exact go (.inr rfl) ho hc hdt rv (by simpa using hL)
end
/-- may be sorted -/
def alikeB (ds : List PyData) : Bool := ds.all fun d => ds.all fun e => PySem.W.alike d e
def sortableB (ds : List PyData) : Bool := (ds.all fun d => match d with | .tuple (_ :: _) => true | _ => false) || ds.all fun d => match d with | .none => false | .tuple _ => false | _ => true
def zipD (h : Hv) : List IV → Option (List (IV × PyData))
  | [] => some []
  | x :: xs => match toD h 16 x, zipD h xs with | some d, some r => some ((x, d) :: r) | _, _ => none
def insD (x : IV × PyData) : List (IV × PyData) → List (IV × PyData)
  | [] => [x]
  | y :: r => if dataLt y.2 x.2 = true then y :: insD x r else x :: y :: r
def isortD : List (IV × PyData) → List (IV × PyData)
  | [] => []
  | x :: r => insD x (isortD r)
theorem dle_trans {β : Type} {k : β → PyData} (a b c : β) (h1 : dataLe false k a b = true) (h2 : dataLe false k b c = true) : dataLe false k a c = true := by
  simp only [dataLe_eq, cond_false, Bool.not_eq_true'] at h1 h2 ⊢
  unfold dataLt at h1 h2 ⊢
  cases e : PyProof.Rows.lexLt itemOrd (keyToks (k c)) (keyToks (k a)) with
  | false => rfl
  | true =>
    cases e1 : PyProof.Rows.lexLt itemOrd (keyToks (k a)) (keyToks (k b)) with
    | true => rw [lex_trans _ _ _ e e1] at h2; cases h2
    | false =>
      have := lex_total _ _ e1 h1
      rw [this] at e; rw [e] at h2; cases h2
theorem dle_total {β : Type} {k : β → PyData} (a b : β) : (dataLe false k a b || dataLe false k b a) = true := by
  simp only [dataLe_eq, cond_false]
  unfold dataLt
  cases e : PyProof.Rows.lexLt itemOrd (keyToks (k b)) (keyToks (k a)) with
  | false => rfl
  | true =>
    cases e1 : PyProof.Rows.lexLt itemOrd (keyToks (k a)) (keyToks (k b)) with
    | false => rfl
    | true =>
      have := lex_trans _ _ _ e e1
      rw [lex_irrefl] at this; cases this
theorem insD_split (x : IV × PyData) : ∀ (l1 l2 : List (IV × PyData)), (∀ b ∈ l1, dataLt b.2 x.2 = true) → (∀ b ∈ l2, dataLt b.2 x.2 = false) → insD x (l1 ++ l2) = l1 ++ x :: l2
  | [], [], _, _ => rfl
  | [], y :: r, _, h => by
    show (if dataLt y.2 x.2 = true then y :: insD x r else x :: y :: r) = _
    rw [h y (by simp)]; rfl
  | y :: l1, l2, h1, h2 => by
    show (if dataLt y.2 x.2 = true then y :: insD x (l1 ++ l2) else x :: y :: (l1 ++ l2)) = _
    rw [h1 y (by simp), if_pos rfl, insD_split x l1 l2 (fun b hb => h1 b (by simp [hb])) h2]; rfl
theorem sort_is : ∀ (l : List (IV × PyData)), l.mergeSort (dataLe false (·.2)) = isortD l
  | [] => by simp [isortD]
  | a :: l => by
    obtain ⟨l1, l2, e1, e2, e3⟩ := List.mergeSort_cons (le := dataLe false fun b : IV × PyData => b.2) dle_trans dle_total a l
    have sp := List.pairwise_mergeSort (le := dataLe false fun b : IV × PyData => b.2) dle_trans dle_total (a :: l)
    rw [e1] at sp
    rw [e1]
    show _ = insD a (isortD l)
    rw [← sort_is l, e2]
    refine (insD_split a l1 l2 (fun b hb => ?_) fun b hb => ?_).symm
    · have := e3 b hb
      simpa [dataLe_eq] using this
    · have := (List.pairwise_append.mp sp).2.1
      have := (List.pairwise_cons.mp this).1 b hb
      simpa [dataLe_eq] using this
def sortedI (xs : List IV) (h : Hv) : R IV := match xs with
  | [x] => (match seqOf h x with
    | some ys => (match zipD h ys with
      | some bs => if alikeB (bs.map (·.2)) = true ∧ sortableB (bs.map (·.2)) = true ∧ (bs.all fun b => decide (b.2.depth ≤ 100)) = true then .ok (.ref h.length) (h ++ [.lst ((isortD bs).map (·.1))]) else .bad
      | none => .bad)
    | none => .bad)
  | _ => .bad
theorem alikeB_ok {ds : List PyData} (e : alikeB ds = true) : AllAlike ds := by
  intro d hd d' hd'
  unfold alikeB at e
  exact List.all_eq_true.mp (List.all_eq_true.mp e d hd) d' hd'
theorem sortableB_ok {ds : List PyData} (e : sortableB ds = true) : PySem.W.Sortable ds := by
  unfold sortableB at e
  rcases Bool.or_eq_true_iff.mp e with e | e
  · refine .inl fun d hd => ?_
    have := List.all_eq_true.mp e d hd
    split at this
    · exact ⟨_, _, rfl⟩
    · cases this
  · refine .inr fun d hd => ?_
    have := List.all_eq_true.mp e d hd
    split at this
    · cases this
    · cases this
    · rename_i h1 h2; exact ⟨fun z => h1 z, fun xs z => h2 xs z⟩
section
variable {X : Cx} {r : List Addr} {H : Hp} {h : Hv}
theorem zipD_ok (S : HSim X.wd X.K X.mg r h H) : ∀ {xs : List IV} {vs : List V} {bs : List (IV × PyData)}, zipD h xs = some bs → RVs X.wd X.K X.mg r H xs vs →
    ∃ ts : List (IV × V × PyData), bs = ts.map (fun t => (t.1, t.2.2)) ∧ vs = ts.map (fun t => t.2.1) ∧ ∀ t ∈ ts, RV X.wd X.K X.mg r H t.1 t.2.1 ∧ Dp X.K H t.2.1 t.2.2
  | [], vs, bs, e, q => by
    rw [RVs_nil] at q; subst q
    simp [zipD] at e; subst e
    exact ⟨[], rfl, rfl, fun t ht => by simp at ht⟩
  | x :: xs, vs, bs, e, q => by
    obtain ⟨v, t, rfl, q1, q2⟩ := RVs_cons.mp q
    simp only [zipD] at e
    split at e
    · rename_i d rr e1 e2
      cases e
      obtain ⟨ts, rfl, rfl, f3⟩ := zipD_ok S e2 q2
      refine ⟨(x, v, d) :: ts, rfl, rfl, fun t ht => ?_⟩
      rcases List.mem_cons.mp ht with rfl | ht
      · exact ⟨q1, toD_ok S _ _ _ _ e1 q1⟩
      · exact f3 t ht
    · cases e
theorem rvs_of {ts : List (IV × V × PyData)} (q : ∀ t ∈ ts, RV X.wd X.K X.mg r H t.1 t.2.1) : RVs X.wd X.K X.mg r H (ts.map (·.1)) (ts.map fun t => t.2.1) := by
  induction ts with
  | nil => simp
  | cons t ts ih => exact RVs_cons.mpr ⟨_, _, rfl, q t (by simp), ih fun t ht => q t (by simp [ht])⟩
theorem b_sorted : BuS X (rSortA X.K) sortedI := by
  refine ⟨fun r h H xs vs Q W S q p => ?_⟩
  unfold sortedI at p
  split at p
  · rename_i x
    obtain ⟨v, rfl, q1⟩ := q.one
    split at p
    · rename_i ys e1
      split at p
      · rename_i bs e2
        split at p
        · rename_i hz
          obtain ⟨z1, z2, z3⟩ := hz
          obtain ⟨a, us, rfl, f1, f2⟩ := seqOf_ok S e1 q1
          obtain ⟨ts, rfl, rfl, f3⟩ := zipD_ok S e2 f2
          have em : (ts.map fun t => (t.2.1, t.2.2)).map (·.1) = ts.map fun t => t.2.1 := by rw [List.map_map]; rfl
          have ed : (ts.map fun t => (t.2.1, t.2.2)).map (·.2) = (ts.map fun t => (t.1, t.2.2)).map (·.2) := by rw [List.map_map, List.map_map]; rfl
          refine ⟨a, ts.map fun t => (t.2.1, t.2.2), rfl, ?_, ?_, ?_, ?_, ?_⟩
          · rw [em]; exact f1.symm
          · intro b hb
            obtain ⟨t, ht, rfl⟩ := List.mem_map.mp hb
            refine ⟨(f3 t ht).2, ?_⟩
            have := List.all_eq_true.mp z3 (t.1, t.2.2) (List.mem_map.mpr ⟨t, ht, rfl⟩)
            simpa using this
          · rw [ed]; exact alikeB_ok z1
          · rw [ed]; exact sortableB_ok z2
          · intro D hD
            rw [← sort_is] at p
            have s1 : (ts.mergeSort (dataLe false fun t : IV × V × PyData => t.2.2)).map (fun t => (t.1, t.2.2)) = (ts.map fun t => (t.1, t.2.2)).mergeSort (dataLe false fun b : IV × PyData => b.2) := List.map_mergeSort fun _ _ _ _ => rfl
            have s2 : (ts.mergeSort (dataLe false fun t : IV × V × PyData => t.2.2)).map (fun t => (t.2.1, t.2.2)) = (ts.map fun t => (t.2.1, t.2.2)).mergeSort (dataLe false fun b : V × PyData => b.2) := List.map_mergeSort fun _ _ _ _ => rfl
            rw [← s1, List.map_map] at p
            rw [← s2, List.map_map]
            exact p.newL S (rvs_of fun t ht => (f3 t (List.mem_mergeSort.mp ht)).1) hD
        · exact p.elim
      · exact p.elim
    · exact p.elim
  · exact p.elim
end
end Hs
end

section
set_option Elab.async false
set_option linter.all false
set_option maxRecDepth 100000
set_option maxHeartbeats 4000000
namespace Hs
open PySem L2 PyProof.Rows

/-! ### isinstance with built-in types -/
inductive Ty where | non | bl | int | str | tup | lst | dct
def Ty.nm : Ty → String | .non => "NoneType" | .bl => "bool" | .int => "int" | .str => "str" | .tup => "tuple" | .lst => "list" | .dct => "dict"
def isTy : Ty → Ty → Bool
  | .non, .non => true | .bl, .bl => true | .bl, .int => true | .int, .int => true | .str, .str => true | .tup, .tup => true | .lst, .lst => true | .dct, .dct => true | _, _ => false
theorem isTy_ok (a b : Ty) : kitB a.nm b.nm = some (isTy a b) := by cases a <;> cases b <;> decide +kernel
def tyOfI (h : Hv) : IV → Option Ty
  | .non => some .non | .bl _ => some .bl | .int _ => some .int | .str _ => some .str | .tup _ => some .tup | .lst _ => some .lst | .frl _ => some .lst
  | .obj _ _ => none
  | .st _ => none
  | .ref n => match h[n]? with | some (.lst _) => some .lst | some (.dct _) => some .dct | _ => none
def isiI (Ts : List Ty) (x : IV) (h : Hv) : R IV := match tyOfI h x with | some t => .ok (.bl (Ts.any fun T => isTy t T)) h | none => .bad
def isiM (Ts : List Ty) (m : ME) : ME := fun l h => bindR (m l h) (isiI Ts)
section
variable {X : Cx} {W : WX} {e : Expr} {m : ME}
theorem tyx_of {r : List Addr} {h : Hv} {H : Hp} {x : IV} {v : V} {t : Ty} (S : HSim X.wd X.K X.mg r h H) (q : RV X.wd X.K X.mg r H x v) (e : tyOfI h x = some t) : TyX X.K H v (.type t.nm) := by
  cases x with
  | non => cases e; rw [RV_non] at q; subst q; exact .base .non
  | bl b => cases e; rw [RV_bl] at q; subst q; exact .base (.bl b)
  | int i => cases e; rw [RV_int] at q; subst q; exact .base (.int i)
  | str s => cases e; rw [RV_str] at q; subst q; exact .base (.str s)
  | tup xs =>
    cases e
    obtain ⟨a, vs, rfl, f1, f2⟩ := RV_tup.mp q
    rcases f1 with ⟨_, f | ⟨o, f⟩⟩ | f
    · exact .base (.tup f)
    · exact .fTuple f
    · rcases f with f | ⟨o, its, n, f1, f2, _⟩
      · rcases f with f | ⟨o, f⟩ <;> cases f
      · exact .kTuple f1 f2
  | lst xs =>
    cases e
    obtain ⟨a, vs, rfl, f1, f2⟩ := RV_lst.mp q
    exact .base (.lst f1.2)
  | frl xs =>
    cases e
    obtain ⟨a, vs, rfl, f1, f2⟩ := RV_frl.mp q
    rcases f1 with ⟨_, f | ⟨o, f⟩⟩ | f
    · exact .base (.lst f)
    · exact .base (.frz f)
    · rcases f with f | ⟨o, its, n, f1, f2, _⟩
      · rcases f with f | ⟨o, f⟩ <;> cases f
      · exact .kList f1 f2
  | obj c fs => cases e
  | st ks => cases e
  | ref n =>
    obtain ⟨a, rfl, ha⟩ := RV_ref.mp q
    simp only [tyOfI] at e
    split at e
    · rename_i xs e1
      cases e
      obtain ⟨vs, f1, _⟩ := S.at_ _ _ _ e1 ha
      exact .base (.lst f1)
    · rename_i xs e1
      cases e
      obtain ⟨vs, f1, _⟩ := S.at_ _ _ _ e1 ha
      exact .base (.dK f1)
    · cases e
theorem kitAny_ok {K : PySem.W.Frag} (t : Ty) : ∀ Ts : List Ty, PySem.W.kitAny K (.type t.nm) (Ts.map fun T => Value.type T.nm) = some (Ts.any fun T => isTy t T)
  | [] => rfl
  | T :: Ts => by
    refine kitAny_cons (b := isTy t T) (kit_ty (isTy_ok t T)) (fun hf => ?_) fun ht => ?_
    · rw [kitAny_ok t Ts, List.any_cons, hf, Bool.false_or]
    · rw [List.any_cons, ht, Bool.true_or]
theorem sim_isi {n : Str} (T : Ty) {p p1 pos : Pos} (hm : X.mg "isinstance" = none) (hmn : X.mg n = none) (hv : bootBuiltins n = some (.type T.nm)) (he : SimE X W e m) (hg : Gl X "isinstance" := by rfl) (hgn : Gl X n := by rfl) (hnn : n ≠ "__name__" := by decide +kernel) (hdn : (n == ("__debug__" : Str)) = false := by decide +kernel)
    (hs : starEach [e, .Name n p1] X.env = (false, eval e X.env) :: starEach [.Name n p1] X.env := by rfl)
    (hpl : (backTo pos (starEach [.Name n p1] X.env)).any (·.1) = false := by rfl) (hs2 : starEach [.Name n p1] X.env = (false, eval (.Name n p1) X.env) :: starEach [] X.env := by rfl) : SimE X W (.Call (.Name "isinstance" p) [e, .Name n p1] [] pos) (isiM [T] m) := by
  refine ⟨fun r l h s H Q S q => ?_⟩
  refine toE (pe_callB call_isi hg hm PyProof.Rows.boot_isinstance (pa_cons pbE (pa_cons (pe_bltn (v := .ty T.nm) hgn hmn hv rfl hnn hdn) pa_nil hs2) hs) (by decide +kernel) (by decide +kernel) hs hpl) ?_
  refine he.thn S q fun x h1 r1 H1 v _ S1 n1 q1 p1 => ?_
  unfold isiI at p1
  split at p1
  · rename_i t e1
    exact ⟨v, .ty T.nm, _, _, _, rfl, .ty _, tyx_of S1.hs q1 e1, kit_ty (isTy_ok t T), p1.done S1.hs (by simp)⟩
  · exact p1.elim
theorem sim_isi2 {n n' : Str} (T T' : Ty) {p p1 p2 p3 pos : Pos} {kk : Nat} (hm : X.mg "isinstance" = none) (hmn : X.mg n = none) (hv : bootBuiltins n = some (.type T.nm)) (hmn' : X.mg n' = none) (hv' : bootBuiltins n' = some (.type T'.nm)) (he : SimE X W e m) (hg : Gl X "isinstance" := by rfl) (hgn : Gl X n := by rfl) (hnn : n ≠ "__name__" := by decide +kernel) (hdn : (n == ("__debug__" : Str)) = false := by decide +kernel)
    (hgn' : Gl X n' := by rfl) (hnn' : n' ≠ "__name__" := by decide +kernel) (hdn' : (n' == ("__debug__" : Str)) = false := by decide +kernel)
    (hs : starEach [e, .Tuple [.Name n p1, .Name n' p2] kk p3] X.env = (false, eval e X.env) :: starEach [.Tuple [.Name n p1, .Name n' p2] kk p3] X.env := by rfl)
    (hpl : (backTo pos (starEach [.Tuple [.Name n p1, .Name n' p2] kk p3] X.env)).any (·.1) = false := by rfl)
    (hs2 : starEach [.Tuple [.Name n p1, .Name n' p2] kk p3] X.env = (false, eval (.Tuple [.Name n p1, .Name n' p2] kk p3) X.env) :: starEach [] X.env := by rfl)
    (hs3 : starEach [.Name n p1, .Name n' p2] X.env = (false, eval (.Name n p1) X.env) :: starEach [.Name n' p2] X.env := by rfl) (hs4 : starEach [.Name n' p2] X.env = (false, eval (.Name n' p2) X.env) :: starEach [] X.env := by rfl) :
    SimE X W (.Call (.Name "isinstance" p) [e, .Tuple [.Name n p1, .Name n' p2] kk p3] [] pos) (isiM [T, T'] m) := by
  refine ⟨fun r l h s H Q S q => ?_⟩
  refine toE (pe_callB call_isiT hg hm PyProof.Rows.boot_isinstance (pa_cons pbE (pa_cons (pe_tup (pa_cons (pe_bltn (v := .ty T.nm) hgn hmn hv rfl hnn hdn) (pa_cons (pe_bltn (v := .ty T'.nm) hgn' hmn' hv' rfl hnn' hdn') pa_nil hs4) hs3)) pa_nil hs2) hs) (by decide +kernel) (by decide +kernel) hs hpl) ?_
  refine he.thn S q fun x h1 r1 H1 v _ S1 n1 q1 p1 => ?_
  unfold isiI at p1
  split at p1
  · rename_i t e1
    refine ⟨by show 2 ≤ sizeLine; decide, fun a ha => ?_⟩
    obtain ⟨n2, S2⟩ := S1.hs.grow (o := .tup [.ty T.nm, .ty T'.nm]) ha
    refine ⟨v, a, _, _, _, _, rfl, upd_same, .cons (.ty T.nm) (.cons (.ty T'.nm) .nil), tyx_of S2 (RV.mono n2 _ _ q1) e1, kitAny_ok t [T, T'], (Pst.mono p1 n2).done S2 (by simp)⟩
  · exact p1.elim
end

/-! ### repr, str -/
mutual
theorem dp_nodict {K : PySem.W.Frag} {H : Hp} : ∀ (d : PyData) (v : V), Dp K H v d → d.hasDict = false
  | .none, _, _ => by simp [PyData.hasDict]
  | .bool _, _, _ => by simp [PyData.hasDict]
  | .int _, _, _ => by simp [PyData.hasDict]
  | .str _, _, _ => by simp [PyData.hasDict]
  | .list ds, _, q => by
    cases q with
    | lst _ ha => simp [PyData.hasDict, dps_nodict ds _ ha]
  | .tuple ds, _, q => by
    cases q with
    | tup _ ha => simp [PyData.hasDict, dps_nodict ds _ ha]
  | .dict _, _, q => by cases q
theorem dps_nodict {K : PySem.W.Frag} {H : Hp} : ∀ (ds : List PyData) (vs : List V), DpAll K H vs ds → PyData.hasDictAll ds = false
  | [], _, _ => by simp [PyData.hasDictAll]
  | d :: ds, _, q => by
    cases q with
    | cons h1 h2 => simp [PyData.hasDictAll, dp_nodict d _ h1, dps_nodict ds _ h2]
end
section
variable {X : Cx} {W : WX}
def rRep (K : PySem.W.Frag) : List V → Hp → VK → Prop := fun xs H Q => ∃ v d, xs = [v] ∧ Dp K H v d ∧ d.showable = true ∧ d.depth ≤ 100 ∧ d.shown.length ≤ sizeLine ∧ Q (.str d.shown) H
theorem cr_repr (C : Cok X W) : CallR X (.builtin "repr") (rRep X.K) := by
  intro pins s σ H xs us Q I r h
  obtain ⟨v, d, rfl, dp, hs, hdp, hz, q⟩ := h
  obtain ⟨u, rfl, rv⟩ := vals1 r
  have un := C.un
  obtain ⟨as, rd⟩ := Dp.reads I _ _ _ dp rv
  have nd := dp_nodict _ _ dp
  have fin : ∀ t tk, EP X pins σ Q (.str d.shown t) { s with toks := tk } := fun t tk => ⟨.str d.shown, H, I.tok tk, ⟨t, rfl⟩, q⟩
  cases dp with
  | non => cases (show u = Value.none from rv); exact P.repr_of_none (by simpa [PyData.shown] using fin _ _)
  | bl b => cases (show u = Value.bool b from rv); exact P.repr_of_bool (by simpa [PyData.shown] using fin _ _)
  | int i => obtain ⟨t, rfl⟩ := rv; exact P.repr_of_int (by simpa [PyData.showable] using hs) (by simpa [PyData.shown] using fin _ _)
  | str x => obtain ⟨t, rfl⟩ := rv; exact P.repr_of_str (by simpa [PyData.shown] using fin _ _) (by simpa [PyData.shown] using hz)
  | @lst a _ _ _ _ =>
    cases (show u = Value.ref a from rv)
    exact repr_of_reads' rd hs (fun z => by rw [nd] at z; cases z) C.gd (by omega) (fun _ _ e => e) (fun h' t tk k => ⟨.str _, H, I.kept k, ⟨t, rfl⟩, q⟩) hz
  | @tup a _ _ _ _ =>
    cases (show u = Value.ref a from rv)
    exact repr_of_reads' rd hs (fun z => by rw [nd] at z; cases z) C.gd (by omega) (fun _ _ e => e) (fun h' t tk k => ⟨.str _, H, I.kept k, ⟨t, rfl⟩, q⟩) hz
def reprI (xs : List IV) (h : Hv) : R IV := match xs with
  | [x] => (match toD h 16 x with | some d => if d.showable = true ∧ d.depth ≤ 100 ∧ d.shown.length ≤ sizeLine then .ok (.str d.shown) h else .bad | none => .bad)
  | _ => .bad
theorem b_repr : BuS X (rRep X.K) reprI := by
  refine ⟨fun r h H xs vs Q W S q p => ?_⟩
  unfold reprI at p
  split at p
  · rename_i x
    obtain ⟨v, rfl, q1⟩ := q.one
    split at p
    · rename_i d e1
      split at p
      · rename_i hz
        exact ⟨v, d, rfl, toD_ok S _ _ _ _ e1 q1, hz.1, hz.2.1, hz.2.2, p.done S (by simp)⟩
      · exact p.elim
    · exact p.elim
  · exact p.elim
abbrev aStr : List V → Hp → VK → Prop := fun xs H Q => (∃ i, xs = [.int i] ∧ i.natAbs.log2 < 1920 ∧ Q (.str (toString i)) H) ∨ ∃ a, xs = [.str a] ∧ Q (.str a) H
theorem c_str : CallR X (.type "str") aStr := CallR.or call_str_int SkE.call_str_str
theorem b_str : BuS X aStr strI := by
  refine ⟨fun r h H xs vs Q W S q p => ?_⟩
  unfold strI at p
  split at p
  · rename_i i
    obtain ⟨v, rfl, q1⟩ := q.one
    rw [RV_int] at q1; subst q1
    split at p
    · rename_i hz
      exact .inl ⟨i, rfl, hz, p.done S (by simp)⟩
    · exact p.elim
  · rename_i a
    obtain ⟨v, rfl, q1⟩ := q.one
    rw [RV_str] at q1; subst q1
    exact .inr ⟨a, rfl, p.done S (by simp)⟩
  · exact p.elim
end

/-! ### f-strings -/
def fmtM (m : ME) : ME := fun l h => bindR (m l h) fun x h1 => match x with
  | .str y => if y.length ≤ sizeLine then .ok (.str y) h1 else .bad
  | .int i => if i.natAbs.log2 < 1920 then .ok (.str (toString i)) h1 else .bad
  | _ => .bad
def joinsGo : List ME → Str → Loc → Hv → R IV
  | [], acc, _, h => .ok (.str acc) h
  | m :: ms, acc, l, h => bindR (m l h) fun x h1 => match x with
    | .str y => if (acc ++ y).length ≤ sizeLine then joinsGo ms (acc ++ y) l h1 else .bad
    | _ => .bad
def joinedM (ms : List ME) : ME := fun l h => joinsGo ms Str.empty l h
section
variable {X : Cx} {W : WX} {e : Expr} {m : ME} {pos : Pos}
theorem sim_fmt (he : SimE X W e m) : SimE X W (.FormattedValue e (-1) none pos) (fmtM m) := by
  refine ⟨fun r l h s H Q S p => ?_⟩
  refine toE (pe_fmt pbE) ?_
  refine he.thn S p fun x h1 r1 H1 v _ S1 n1 q1 p1 => ?_
  split at p1
  · rename_i y
    rw [RV_str] at q1; subst q1
    split at p1
    · rename_i hz; exact .inl ⟨_, rfl, hz, p1.done S1.hs (by simp)⟩
    · exact p1.elim
  · rename_i i
    rw [RV_int] at q1; subst q1
    split at p1
    · rename_i hz; exact .inr ⟨_, rfl, hz, p1.done S1.hs (by simp)⟩
    · exact p1.elim
  · exact p1.elim
inductive SimJ (X : Cx) (W : WX) : List Expr → List ME → List TE → Prop
  | nil : SimJ X W [] [] []
  | cons {e : Expr} {m : ME} {es : List Expr} {ms : List ME} {ts : List TE} : SimE X W e m → SimJ X W es ms ts → SimJ X W (e :: es) (m :: ms) (bE X e :: ts)
theorem SimJ.pj {es : List Expr} {ms : List ME} {ts : List TE} (q : SimJ X W es ms ts) : PJ X es ts := by
  induction q with
  | nil => exact .nil
  | cons _ _ ih => exact .cons pbE ih
theorem SimJ.go {es : List Expr} {ms : List ME} {ts : List TE} (q : SimJ X W es ms ts) : ∀ {acc : Str} {r : List Addr} {l : Loc} {h : Hv} {s : L2.St} {H : Hp} {Q : VK}, Sim X r l h s H → Pst X.wd X.K X.mg (RV X.wd X.K X.mg) r H (joinsGo ms acc l h) Q (fun c d H' => W c d s H') →
    tJs ts acc s H fun out H1 => Q (.str out) H1 := by
  induction q with
  | nil => exact fun S p => p.done S.hs (by simp)
  | @cons e m es ms ts he _ ih =>
    intro acc r l h s H Q S p
    refine he.thn S p fun x h1 r1 H1 v _ S1 n1 q1 p1 => ?_
    split at p1
    · rename_i y
      rw [RV_str] at q1; subst q1
      split at p1
      · rename_i hz; exact ⟨_, rfl, hz, ih S1 p1⟩
      · exact p1.elim
    · exact p1.elim
theorem sim_joined {v1 v2 : Expr} {rest : List Expr} {ms : List ME} {ts : List TE} (q : SimJ X W (v1 :: v2 :: rest) ms ts) : SimE X W (.JoinedStr (v1 :: v2 :: rest) pos) (joinedM ms) :=
  ⟨fun r l h s H Q S p => toE (pe_joined q.pj) (q.go S p)⟩
end
end Hs
end

section
set_option Elab.async false
set_option linter.all false
set_option maxRecDepth 100000
set_option maxHeartbeats 4000000
namespace Hs
open PySem L2 PyProof.Rows

/-! ### dict comprehensions -/
def dcGo (src : Src) (g : MG) (tt : MB) (mk mv : ME) (l : Loc) (n : Nat) : Nat → Nat → Hv → R IV
  | 0, _, _ => .bad
  | k + 1, i, h => match itemAt src h i with
    | none => .bad
    | some none => .ok (.ref n) h
    | some (some x) => match g x l with
      | none => .bad
      | some l1 => match tt l1 h with
        | .ok true h1 => (match mk l1 h1 with
          | .ok y h2 => (match mv l1 h2 with
            | .ok z h3 => (match keyOf y, h3[n]? with
              | some key, some (.dct acc) => if acc.length < sizeLine then dcGo src g tt mk mv l n k (i + 1) (h3.set n (.dct (putKI acc key z))) else .bad
              | _, _ => .bad)
            | _ => .bad)
          | _ => .bad)
        | .ok false h1 => dcGo src g tt mk mv l n k (i + 1) h1
        | _ => .bad
def dcM (mi : MI) (g : MG) (tt : MB) (mk mv : ME) (own : List Nat) : ME := fun l h => bindR (mi l h) fun src h1 => dcGo src g tt mk mv (wipeI l own) h1.length (srcLen src h1 + 1) 0 (h1 ++ [.dct []])
section
variable {X : Cx} {W : WX} {kx vx tg iter e : Expr} {ifs : List Expr} {scope : Scope} {own : List (Str × Nat)} {pos : Pos} {mi : MI} {g : MG} {tt : MB} {mk mv : ME}
theorem dc_read {sl : List Nat} (hi : SimI X W tg iter mi) (hsl : ∀ i ∈ sl, i ∈ own.map (·.2))
    (hgi : ∀ (sh : Shared) (H : Hp) (Cc : Addr) (cl : List (Str × Addr)) (fp : List Addr), SimG (X.blk sh H scope (compEnvC scope cl Cc X.env) fp) tg g sl)
    (hti : ∀ (sh : Shared) (H : Hp) (Cc : Addr) (cl : List (Str × Addr)) (fp : List Addr), SimTs (X.blk sh H scope (compEnvC scope cl Cc X.env) fp) ifs tt)
    (hki : ∀ (sh : Shared) (H : Hp) (Cc : Addr) (cl : List (Str × Addr)) (fp : List Addr), SimE (X.blk sh H scope (compEnvC scope cl Cc X.env) fp) WN kx mk)
    (hei : ∀ (sh : Shared) (H : Hp) (Cc : Addr) (cl : List (Str × Addr)) (fp : List Addr), SimE (X.blk sh H scope (compEnvC scope cl Cc X.env) fp) WN vx mv)
    {r : List Addr} {l : Loc} {h : Hv} {s : L2.St} {H : Hp} {Q : VK} (S : Sim X r l h s H) (p : Pst X.wd X.K X.mg (RV X.wd X.K X.mg) r H (dcM mi g tt mk mv (own.map (·.2)) l h) Q (fun c d H' => W c d s H')) :
    tDc (bI X tg iter) (uG X scope tg) (uTs X scope ifs) (uE X scope kx) (uE X scope vx) (own.map (·.2)) s H Q := by
  refine hi r l h s H _ S (p.bind' fun src h1 r1 H1 J _ n1 S1 j1 p1 => ?_)
  intro D hD
  have L1 := S.lo.mono n1
  have na := nxt_alloc (o := .dK []) S1 hD
  obtain ⟨_, S2⟩ := S1.alloc (o := .dK []) (ob := .dct []) hD ⟨[], upd_same, rfl, by simp⟩
  have hn : (r1 ++ [D])[h1.length]? = some D := by rw [← S1.len]; simp
  refine ⟨fun i m H2 => ∃ r2 h2, Nxt r1 H1 r2 H2 ∧ HSim X.wd X.K X.mg r2 h2 H2 ∧ r2[h1.length]? = some D ∧ Pst X.wd X.K X.mg (RV X.wd X.K X.mg) r2 H2 (dcGo src g tt mk mv (wipeI l (own.map (·.2))) h1.length m i h2) Q (fun c d H' => W c d s H'),
    ⟨_, r1 ++ [D], h1 ++ [.dct []], na, S2, hn, Pst.mono p1 na⟩, ?_⟩
  rintro i m H2 ⟨r2, h2, n2, S3, hD2, p2⟩
  cases m with
  | zero => exact p2.elim
  | succ k =>
    have J2 := j1 r2 h2 H2 i n2 S3
    simp only [dcGo] at p2
    cases e1 : itemAt src h2 i with
    | none => rw [e1] at p2; exact p2.elim
    | some o =>
      cases o with
      | none =>
        rw [e1] at p2 J2
        exact .inl ⟨J2, p2.done S3 (RV_ref.mpr ⟨D, rfl, hD2⟩)⟩
      | some x =>
        rw [e1] at p2 J2
        simp only at p2 J2
        obtain ⟨J3, J4⟩ := J2
        refine .inr ⟨J3, fun H' => ∃ r2 h2, Nxt r1 H1 r2 H' ∧ HSim X.wd X.K X.mg r2 h2 H' ∧ r2[h1.length]? = some D ∧ Pst X.wd X.K X.mg (RV X.wd X.K X.mg) r2 H' (dcGo src g tt mk mv (wipeI l (own.map (·.2))) h1.length k (i + 1) h2) Q (fun c d H' => W c d s H'),
          fun H' q => ⟨k, Nat.lt_succ_self k, q⟩, fun v H3 hy => ?_⟩
        obtain ⟨n3, S4, q3⟩ := J4 v H3 hy
        have Sw : Sim X r2 (wipeI l (own.map (·.2))) h2 (L2.wipe s (own.map (·.2))) H3 := ⟨S4, (L1.mono (n2.trans n3)).wipe _⟩
        cases e2 : g x (wipeI l (own.map (·.2))) with
        | none => rw [e2] at p2; exact p2.elim
        | some l1 =>
          rw [e2] at p2
          simp only at p2
          intro sh H0 Cc cl fp
          refine hgi sh H0 Cc cl fp r2 _ h2 _ H3 x v l1 _ Sw.blk q3 e2 fun s3 S5 o5 => ?_
          refine ⟨o5.wipe hsl, ?_⟩
          have p3 := Pst.mono p2 n3
          intro sh' H0' Cc' cl' fp'
          cases e3 : tt l1 h2 with
          | bad => rw [e3] at p3; exact p3.elim
          | exc _ _ _ => rw [e3] at p3; exact p3.elim
          | ok b h3 =>
            rw [e3] at p3
            refine hti sh' H0' Cc' cl' fp' r2 l1 h2 s3 H3 _ ⟨S5.hs, S5.lo⟩ ?_
            rw [e3]
            intro r4 H4 b' n4 S6 eb
            cases eb
            have p4 : Pst X.wd X.K X.mg (RV X.wd X.K X.mg) r4 H4 _ Q _ := Pst.mono p3 n4
            cases b with
            | false =>
              rw [if_neg Bool.false_ne_true]
              exact ⟨r4, h3, (n2.trans n3).trans n4, S6, n4.get hD2, p4⟩
            | true =>
              rw [if_pos rfl]
              intro sh2 H02 Cc2 cl2 fp2
              simp only at p4
              cases e4 : mk l1 h3 with
              | bad => rw [e4] at p4; exact p4.elim
              | exc _ _ _ => rw [e4] at p4; exact p4.elim
              | ok y h4 =>
                rw [e4] at p4
                refine hki sh2 H02 Cc2 cl2 fp2 r4 l1 h3 s3 H4 _ ⟨S6, S5.lo.mono n4⟩ ?_
                rw [e4]
                intro r5 H5 u n5 S7 qu
                have p5 := Pst.mono p4 n5
                simp only at p5
                intro sh3 H03 Cc3 cl3 fp3
                cases e5 : mv l1 h4 with
                | bad => rw [e5] at p5; exact p5.elim
                | exc _ _ _ => rw [e5] at p5; exact p5.elim
                | ok z h5 =>
                  rw [e5] at p5
                  refine hei sh3 H03 Cc3 cl3 fp3 r5 l1 h4 s3 H5 _ ⟨S7, (S5.lo.mono n4).mono n5⟩ ?_
                  rw [e5]
                  intro r6 H6 u6 n6 S8 qz
                  have p6 := Pst.mono p5 n6
                  simp only at p6
                  have hD6 : r6[h1.length]? = some D := n6.get (n5.get (n4.get hD2))
                  cases ek : keyOf y with
                  | none => rw [ek] at p6; exact p6.elim
                  | some key =>
                    rw [ek] at p6
                    have qk := key_ok ek qu
                    cases e7 : h5[h1.length]? with
                    | none => rw [e7] at p6; exact p6.elim
                    | some ob =>
                      rw [e7] at p6
                      cases ob with
                      | dct acc =>
                        simp only at p6
                        split at p6
                        · rename_i hz
                          obtain ⟨ws, f1, f2, f3⟩ := S8.at_ _ _ _ e7 hD6
                          have hl : ws.length < sizeLine := by
                            have := congrArg List.length f2
                            simp at this; omega
                          have hp := put_ok (k := key) qz f2 f3
                          refine ⟨ws, key, qk, f1, hl, ?_⟩
                          obtain ⟨n7, S9⟩ := S8.set (o := .dK (putK ws key u6)) (ob := .dct (putKI acc key z)) hD6 (nf_of f1) fun n7 => ⟨_, upd_same, hp.1, RVs.mono n7 _ _ hp.2⟩
                          exact ⟨r6, _, ((((n2.trans n3).trans n4).trans n5).trans n6).trans n7, S9, hD6, Pst.mono p6 n7⟩
                        · exact p6.elim
                      | _ => exact p6.elim
theorem sim_dc {sl : List Nat} (C : Cok X W) (hi : SimI X W tg iter mi) (ok : BlkOk X.N X.env.scope scope own) (hsl : ∀ i ∈ sl, i ∈ own.map (·.2))
    (hgi : ∀ (sh : Shared) (H : Hp) (Cc : Addr) (cl : List (Str × Addr)) (fp : List Addr), SimG (X.blk sh H scope (compEnvC scope cl Cc X.env) fp) tg g sl)
    (hti : ∀ (sh : Shared) (H : Hp) (Cc : Addr) (cl : List (Str × Addr)) (fp : List Addr), SimTs (X.blk sh H scope (compEnvC scope cl Cc X.env) fp) ifs tt)
    (hki : ∀ (sh : Shared) (H : Hp) (Cc : Addr) (cl : List (Str × Addr)) (fp : List Addr), SimE (X.blk sh H scope (compEnvC scope cl Cc X.env) fp) WN kx mk)
    (hei : ∀ (sh : Shared) (H : Hp) (Cc : Addr) (cl : List (Str × Addr)) (fp : List Addr), SimE (X.blk sh H scope (compEnvC scope cl Cc X.env) fp) WN vx mv) (hs : ∀ x, foldedSetIterable iter X.env x = pure x := by intro _; rfl) :
    SimE X W (.DictComp kx vx [⟨tg, iter, ifs, 0⟩] scope pos) (dcM mi g tt mk mv (own.map (·.2))) := .mk fun r l h s H Q S p =>
  toE (pe_dc C.calm C.nd pbI ok (fun sh H0 Cc cl fp => ⟨fun pins s0 s H v u Q I rr hh => hh sh H0 Cc cl fp pins s0 u I rr⟩) (fun sh H0 Cc cl fp => ⟨fun pins s0 s H Q I hh => hh sh H0 Cc cl fp pins s0 I⟩) (fun sh H0 Cc cl fp => ⟨fun pins s0 s H Q I hh => hh sh H0 Cc cl fp pins s0 I⟩) (fun sh H0 Cc cl fp => ⟨fun pins s0 s H Q I hh => hh sh H0 Cc cl fp pins s0 I⟩) hs)
    (dc_read hi hsl hgi hti hki hei S p)
end
end Hs
end

section
set_option Elab.async false
set_option linter.all false
set_option maxRecDepth 100000
set_option maxHeartbeats 4000000
namespace Hs
open PySem L2 PyProof.Rows

/-! ### the law at the end -/
/-- the law's mirror says True at this script -/
def Says (F : List IV → Hv → R IV) (ns : List Int) : Prop := ∃ h', F [.frl (ns.map .int)] [] = .ok (.bl true) h'
section
variable {P : Program} {w : World} {K : PySem.W.Frag} {mg mb : Str → Option Value} {k : Nat} {fa a : Addr} {fd : FuncData} {x : Str} {F : List IV → Hv → R IV} {s1 : Shared} {vs : List Value} {ns : List Int}
/-- at a tracked heap that holds at most the script -/
theorem end_core (KX : K.In s1.heap) (hns : s1.heap.Ns mainGlobals mg) (hb : s1.heap.Ns builtinsNs mb) (hbb : ∀ x : Str, x ≠ "__name__" → mb x = bootBuiltins x) (hlim : s1.heap.NoLimit) (hg : s1.gens = #[]) (hr : Room k callerA)
    (hF : ∀ base : Heap, K.In base → base.Ns mainGlobals mg → FnG P w K mg base k fa fd [x] F) (hbind : ∀ (s : Shared) (u : Value), BindsTo s fd ⟨[u], []⟩ [(x, u)]) (sy : Says F ns)
    (H : Hp) (hO : Only H) (hS : LstAt K [] H a (ns.map V.int)) (hok : HOk P w H s1.heap) (hA : ∀ b u, H b = some u → b = a ∧ K.lookup a = none) (nod : ∀ {o : Obj} {es : Array DictEntry} {ep : Nat}, s1.heap.get? a = some o → o.data = .dict es ep → False) :
    codeAny (model P w) callerA (.call (.ref fa) ⟨[.ref a], []⟩) (fun r s' => r = .ok (.ret (.bool true)) ∧ OldK s1.heap s'.heap ∧ s'.os = s1.os ∧ AllBare s'.gens) s1 := by
  have bo : ∀ {b : Addr} {o : Obj}, s1.heap.get? b = some o → H b = none → (hidT s1.heap H).get? b = some o := fun e n => hidT_get e n
  have nos : ∀ {b : Addr} {m : Str → Option Value}, s1.heap.Ns b m → (hidT s1.heap H).Ns b m := by
    rintro b m ⟨o, es, ep, e, d, rest⟩
    refine ⟨o, es, ep, bo e ?_, d, rest⟩
    cases z : H b with
    | none => rfl
    | some u => obtain ⟨rfl, _⟩ := hA b u z; exact (nod e d).elim
  have kb : K.In (hidT s1.heap H) := fun b o e => by
    refine bo (KX b o e) ?_
    cases z : H b with
    | none => rfl
    | some u => obtain ⟨rfl, n⟩ := hA b u z; rw [n] at e; cases e
  obtain ⟨mc, l1, l2⟩ := hlim
  have e0 : Env0 P w K mg (hidT s1.heap H) callerA [] s1 H := ⟨rfl, ⟨kb, nos hns, ⟨mb, nos hb, hbb⟩, mc, nos l1, l2⟩, fun b o e => of_hidT e, Nat.le_of_eq (hidT_size _ _), trivial, (fun b hb => by cases (show b ∈ ([] : List Addr) from hb)), hok, .of_eq hg⟩
  have S0 : HSim ⟨P, w⟩ K mg [] [] H := ⟨rfl, List.nodup_nil, fun n o a e => by simp at e⟩
  obtain ⟨h', es⟩ := sy
  have q0 : RVs ⟨P, w⟩ K mg [] H [.frl (ns.map .int)] [.ref a] := RVs_cons.mpr ⟨_, _, rfl, RV_frl.mpr ⟨a, _, rfl, hS, RVs.of_ints⟩, by simp⟩
  have p0 : Pst ⟨P, w⟩ K mg (RV ⟨P, w⟩ K mg) [] H (F [.frl (ns.map .int)] []) (fun v _ => v = .bl true) (fun _ _ _ => False) := by rw [es]; exact fun r' H' v _ _ q => by simpa using q
  refine codeAny_mono ((hF _ kb (nos hns)).run callerA [] s1 H ⟨[.ref a], []⟩ [.ref a] [.ref a] [] [] _ _ _ hr rfl e0 (hbind s1 (.ref a)) (.cons rfl .nil) rfl S0 q0 p0) fun res s' hq => ?_
  cases res with
  | error e => obtain ⟨_, _, _, _, _, _, _, _, _, _, _, _, hE⟩ := hq; exact hE.elim
  | ok fl =>
    cases fl with
    | ret u =>
      obtain ⟨v, H', os, bare, un, hok', r', q⟩ := hq
      obtain rfl : v = .bl true := q
      obtain rfl : u = Value.bool true := r'
      refine ⟨rfl, OldK.of_keep fun b o e => ?_, os, bare⟩
      cases z : H b with
      | none => exact un.keep b o e z (fun z => by cases (show b ∈ ([] : List Addr) from z)) (by simp)
      | some u =>
        rcases hO b with z' | ⟨ob, xs, z'⟩
        · rw [z] at z'; cases z'
        · have e1 := (hok b _ z').1
          rw [e] at e1; cases e1
          exact (hok' b _ (un.frzs b _ _ z')).1
    | next => exact False.elim hq
    | brk => exact False.elim hq
    | cont => exact False.elim hq
theorem end_call (KX : K.In s1.heap) (hns : s1.heap.Ns mainGlobals mg) (hb : s1.heap.Ns builtinsNs mb) (hbb : ∀ x : Str, x ≠ "__name__" → mb x = bootBuiltins x) (hlim : s1.heap.NoLimit) (hg : s1.gens = #[]) (hr : Room k callerA)
    (hF : ∀ base : Heap, K.In base → base.Ns mainGlobals mg → FnG P w K mg base k fa fd [x] F) (hbind : ∀ (s : Shared) (u : Value), BindsTo s fd ⟨[u], []⟩ [(x, u)]) (sy : Says F ns)
    (ha : s1.heap.get? a = some { cls := .type "list", data := .seq vs.toArray }) (hi : IntsAre vs ns) (hl : ns.length ≤ sizeLine) :
    codeAny (model P w) callerA (.call (.ref fa) ⟨[.ref a], []⟩) (fun r s' => r = .ok (.ret (.bool true)) ∧ OldK s1.heap s'.heap ∧ s'.os = s1.os ∧ AllBare s'.gens) s1 := by
  have rv := vals_ints hi
  have nod : ∀ {o : Obj} {es : Array DictEntry} {ep : Nat}, s1.heap.get? a = some o → o.data = .dict es ep → False := by
    intro o es ep e d
    rw [ha] at e; cases e
    cases (show Data.seq vs.toArray _ = Data.dict es ep from d)
  by_cases hk : K.lookup a = none
  · let ob : Obj := { cls := .type "list", data := .seq vs.toArray }
    let H : Hp := fun b => if b = a then some (.frz ob (.lst (ns.map V.int))) else none
    have hA : ∀ b u, H b = some u → b = a ∧ u = .frz ob (.lst (ns.map V.int)) := fun b u z => by
      by_cases hb : b = a
      · rw [show H b = some (.frz ob (.lst (ns.map V.int))) from if_pos hb] at z; cases z; exact ⟨hb, rfl⟩
      · rw [show H b = none from if_neg hb] at z; cases z
    refine end_core KX hns hb hbb hlim hg hr hF hbind sy H (fun b => ?_) (.inl ⟨by simp, .inr ⟨ob, if_pos rfl⟩⟩) (fun b u z => ?_) (fun b u z => ⟨(hA b u z).1, hk⟩) nod
    · cases z : H b with
      | none => exact .inl rfl
      | some u => obtain ⟨_, rfl⟩ := hA b u z; exact .inr ⟨_, _, rfl⟩
    · obtain ⟨rfl, rfl⟩ := hA b u z
      exact ⟨ha, by simpa using hl, vs, _, rv, ha⟩
  · obtain ⟨o, ho⟩ := Option.ne_none_iff_exists'.mp hk
    have e := KX a o ho
    rw [ha] at e; cases e
    exact end_core KX hns hb hbb hlim hg hr hF hbind sy (fun _ => none) (fun _ => .inl rfl) (.inr (.inr ⟨_, vs.toArray, _, ho, rfl, rfl, rfl, by simpa [hi.length] using hl, by simpa using rv⟩)) (fun b u z => by cases z) (fun b u z => by cases z) nod
end
theorem end_walk {l : PySem.W.OpenLaw} {n k : Nat} {q : Program} {loose : List Str} {XP : (Str → Option Value) → Heap → Prop} {YP : World → Heap → Prop} {d : DefRec} {x : Str} {F : List IV → Hv → R IV}
    (hn : l.most = some n) (hn2 : n ≤ sizeLine) (hdf : d.params.defaults = []) (hr : Room k callerA) (sy : ∀ ns : List Int, ns.length ≤ n → Says F ns)
    (G : ∀ (w : World) (mg : Str → Option Value) (fa : Addr) (h : Heap), YP w h → h.Ns mainGlobals mg → mg d.name = some (.ref fa) →
      ∃ (K : PySem.W.Frag) (fd : FuncData), K.In h ∧ (∀ (s : Shared) (u : Value), BindsTo s fd ⟨[u], []⟩ [(x, u)]) ∧ ∀ base : Heap, K.In base → base.Ns mainGlobals mg → FnG l.prog w K mg base k fa fd [x] F) :
    PySem.W.WalkO q loose XP YP l.row.toRowW d [] (fun f vs => PySem.call f vs) := by
  refine Att.attach_call hn hdf fun w s₀ s1 mg mb fa o pm cd doc a vs ns T Y ho hd hcd hmg hobj hints hlen hg => ?_
  obtain ⟨K, fd, KX, hb, hF⟩ := G w mg fa _ Y T.T.g hmg
  exact end_call KX T.T.g T.T.b T.T.builtins T.T.nolimit hg hr hF hb (sy ns hlen) hobj hints (Nat.le_trans hlen hn2)
end Hs
end

section
set_option Elab.async false
set_option linter.all false
set_option maxRecDepth 100000
set_option maxHeartbeats 4000000
namespace Hs
open PySem L2 PyProof.Rows
theorem Pst.newLv {wd : Wd} {K : PySem.W.Frag} {mg : Str → Option Value} {r : List Addr} {h : Hv} {H : Hp} {xs : List IV} {vs : List V} {Q : VK} {W : XK} {p : Addr} (q : Pst wd K mg (RV wd K mg) r H (.ok (.lst xs) h) Q W) (S : HSim wd K mg r h H) (e : RVs wd K mg r H xs vs) (hp : H p = none) : Q (.ref p) (upd H p (.lst vs)) := by
  obtain ⟨n, S'⟩ := S.grow (o := .lst vs) hp
  exact q r _ _ n S' (RV_lst.mpr ⟨p, vs, rfl, ⟨S.fresh hp, upd_same⟩, RVs.mono n _ _ e⟩)

section
variable {X : Cx} {W : WX} {a b : Expr} {ma mb : ME} {pos : Pos} {e : Expr} {es : List Expr} {m : ME} {ms : MA}
def addIV (x y : IV) (h : Hv) : R IV :=
  match x, y with
  | .int i, .int j => .ok (.int (i + j)) h
  | .str a, .str b => if a.length + b.length ≤ sizeLine then .ok (.str (a ++ b)) h else .bad
  | .tup xs, .tup ys => if xs.length + ys.length ≤ sizeLine then .ok (.tup (xs ++ ys)) h else .bad
  | x, y => match ownOf h x, ownOf h y with
    | some xs, some ys => if xs.length + ys.length ≤ sizeLine then .ok (.lst (xs ++ ys)) h else .bad
    | _, _ => .bad
theorem s_addV : OpS X (aAdd X.K) addIV := by
  refine ⟨fun r h H x y v u Q W S q1 q2 p => ?_⟩
  have fin : (Pst X.wd X.K X.mg (RV X.wd X.K X.mg) r H (match ownOf h x, ownOf h y with
      | some xs, some ys => if xs.length + ys.length ≤ sizeLine then .ok (.lst (xs ++ ys)) h else .bad
      | _, _ => .bad) Q W) → rCat v u H Q := fun p => by
    cases e1 : ownOf h x with
    | none => rw [e1] at p; exact p.elim
    | some xs =>
      cases e2 : ownOf h y with
      | none => rw [e1, e2] at p; exact p.elim
      | some ys =>
        rw [e1, e2] at p
        simp only at p
        obtain ⟨a, vs, rfl, f1, g1⟩ := ownOf_ok S e1 q1
        obtain ⟨b, us, rfl, f2, g2⟩ := ownOf_ok S e2 q2
        split at p
        · rename_i hz
          refine ⟨a, b, vs, us, rfl, rfl, f1, f2, by rw [← g1.length, ← g2.length]; exact hz, fun z hz' => ?_⟩
          exact p.newLv S (g1.append g2) hz'
        · exact p.elim
  unfold addIV at p
  split at p
  · rw [RV_int] at q1 q2; subst q1 q2
    exact .inl ⟨_, _, rfl, rfl, p.done S (by simp)⟩
  · rw [RV_str] at q1 q2; subst q1 q2
    split at p
    · rename_i hz; exact .inr (.inl ⟨_, _, rfl, rfl, hz, p.done S (by simp)⟩)
    · exact p.elim
  · rename_i xs ys
    split at p
    · rename_i hz
      obtain ⟨a, vs, rfl, f1, g1⟩ := RV_tup.mp q1
      obtain ⟨b, us, rfl, f2, g2⟩ := RV_tup.mp q2
      have emp : ∀ {zs : List IV} {ws : List V}, RVs X.wd X.K X.mg r H zs ws → ws = [] → zs = [] := fun g e => by
        have := g.length
        rw [e] at this
        exact List.eq_nil_of_length_eq_zero this
      refine .inr (.inr (.inl ⟨a, b, vs, us, rfl, rfl, f1.sq, f2.sq, by rw [← g1.length, ← g2.length]; exact hz, fun e => ?_, fun _ e => ?_, fun _ _ z hz' => ?_⟩))
      · rw [emp g1 e, List.nil_append] at p
        exact p.done S q2
      · rw [emp g2 e, List.append_nil] at p
        exact p.done S q1
      · exact p.newT S (g1.append g2) hz'
    · exact p.elim
  · exact .inr (.inr (.inr (fin p)))
theorem sim_addV (ha : SimE X W a ma) (hb : SimE X W b mb) : SimE X W (.BinOp a .Add b pos) (bin addIV ma mb) := sim_op r_add s_addV ha hb
def mulIV (x y : IV) (h : Hv) : R IV :=
  match x, y with
  | .int i, .int j => if (-(2 ^ 64) < i ∧ i < 2 ^ 64) ∨ (-(2 ^ 64) < j ∧ j < 2 ^ 64) then .ok (.int (i * j)) h else .bad
  | x, .int k => match ownOf h x with
    | some xs => if -(2 ^ 63) ≤ k ∧ k < 2 ^ 63 ∧ xs.length * k.toNat ≤ sizeLine then .ok (.lst (List.replicate k.toNat xs).flatten) h else .bad
    | none => .bad
  | _, _ => .bad
theorem s_mulV : OpS X aMul mulIV := by
  refine ⟨fun r h H x y v u Q W S q1 q2 p => ?_⟩
  unfold mulIV at p
  split at p
  · rw [RV_int] at q1 q2; subst q1 q2
    split at p
    · rename_i hc; exact .inl ⟨_, _, rfl, rfl, hc, p.done S (by simp)⟩
    · exact p.elim
  · rename_i k _
    rw [RV_int] at q2; subst q2
    cases e1 : ownOf h x with
    | none => rw [e1] at p; exact p.elim
    | some xs =>
      rw [e1] at p
      simp only at p
      obtain ⟨a, vs, rfl, f1, g1⟩ := ownOf_ok S e1 q1
      split at p
      · rename_i hc
        have rep : ∀ n : Nat, RVs X.wd X.K X.mg r H (List.replicate n xs).flatten (List.replicate n vs).flatten := fun n => by
          induction n with
          | zero => simp
          | succ n ih => rw [List.replicate_succ, List.replicate_succ, List.flatten_cons, List.flatten_cons]; exact g1.append ih
        exact .inr ⟨a, k, vs, rfl, rfl, f1, hc.1, hc.2.1, by rw [← g1.length]; exact hc.2.2, fun z hz => p.newLv S (rep _) hz⟩
      · exact p.elim
  · exact p.elim
theorem sim_mulV (ha : SimE X W a ma) (hb : SimE X W b mb) : SimE X W (.BinOp a .Mult b pos) (bin mulIV ma mb) := sim_op r_mul s_mulV ha hb
def lstMV (ms : MA) : ME := fun l h => bindR (ms l h) fun xs h1 => if xs.length ≤ sizeLine then .ok (.lst (xs)) h1 else .bad
theorem sim_lstV (ha : SimA X W es ms) : SimE X W (.List es pos) (lstMV ms) := by
  refine ⟨fun r l h s H Q S p => ?_⟩
  refine toE (pe_lst pbA) ?_
  refine ha.thn S p fun xs h1 r1 H1 vs _ S1 n1 q1 p1 => ?_
  split at p1
  · rename_i hz
    exact ⟨by rw [← q1.length]; exact hz, fun a ha => p1.newLv S1.hs q1 ha⟩
  · exact p1.elim
def slIV (x : IV) (lo hi : Option Int) (h : Hv) : R IV :=
  match x with
  | .str z => if z.length ≤ sizeLine then .ok (.str (cutS z lo hi)) h else .bad
  | .tup xs => .ok (.tup (cutI xs lo hi)) h
  | x => match lstOf h x with | some xs => .ok (.lst (cutI xs lo hi)) h | none => .bad
def slMV (m : ME) (mlo mhi : MO) : ME := fun l h => bindR (m l h) fun x h1 => bindR (mlo l h1) fun lo h2 => bindR (mhi l h2) fun hi h3 => slIV x lo hi h3
theorem sim_sliceV {p2 : Pos} {lo hi : Option Expr} {mlo mhi : MO} (ha : SimE X W a ma) (hl : SimO X W lo mlo) (hh : SimO X W hi mhi) : SimE X W (.Subscript a (.Slice lo hi none p2) pos) (slMV ma mlo mhi) := by
  refine ⟨fun r l h s H Q S p => ?_⟩
  refine toE (pe_slice r_sl pbE pbO pbO) ?_
  refine ha.thn S p fun x h1 r1 H1 v ex S1 n1 q1 p1 => ?_
  refine hl r1 l h1 s H1 _ S1 (p1.bind' fun lo h2 r2 H2 lo' el n2 S2 q2 p2 => ?_)
  cases q2
  refine hh r2 l h2 s H2 _ (S1.next n2 S2) (p2.bind' fun hi h3 r3 H3 hi' eh n3 S3 q3 p3 => ?_)
  cases q3
  have q1' := RV.mono (n2.trans n3) _ _ q1
  unfold slIV at p3
  split at p3
  · rw [RV_str] at q1'; subst q1'
    split at p3
    · rename_i hz; exact .inl ⟨_, rfl, hz, p3.done S3 (by simp)⟩
    · exact p3.elim
  · rename_i xs
    obtain ⟨a', vs, rfl, f1, f2⟩ := RV_tup.mp q1'
    refine .inr (.inl ⟨a', vs, rfl, f1.sq, fun e => ?_, fun _ z hz => p3.newT S3 (cutI_ok f2) hz⟩)
    have ec : cutI xs lo hi = xs := by
      unfold cutI
      rw [f2.length, e.1, e.2, List.drop_zero, Nat.sub_zero, ← f2.length, List.take_length]
    rw [ec] at p3
    exact p3.done S3 q1'
  · split at p3
    · rename_i xs e1
      obtain ⟨a', vs, rfl, f1, f2⟩ := lstOf_ok S3 e1 q1'
      exact .inr (.inr ⟨a', vs, rfl, f1, fun z hz => p3.newLv S3 (cutI_ok f2) hz⟩)
    · exact p3.elim
def revMV (m : ME) : ME := fun l h => bindR (m l h) fun x h1 => match lstOf h1 x with | some xs => .ok (.lst (xs.reverse)) h1 | none => .bad
theorem sim_revV {k : Nat} {p1 p2 p3 : Pos} (ha : SimE X W a ma) : SimE X W (.Subscript a (.Slice none none (some (.UnaryOp .USub (.Constant (.int 1) k p1) p2)) p3) pos) (revMV ma) := by
  refine ⟨fun r l h s H Q S p => ?_⟩
  refine toE (pe_revL pbE) ?_
  refine ha.thn S p fun x h1 r1 H1 v _ S1 n1 q1 p1 => ?_
  split at p1
  · rename_i xs e1
    obtain ⟨a', vs, rfl, f1, f2⟩ := lstOf_ok S1.hs e1 q1
    exact ⟨a', vs, rfl, f1, fun z hz => p1.newLv S1.hs f2.reverse hz⟩
  · exact p1.elim
def listIV (xs : List IV) (h : Hv) : R IV := match xs with | [x] => (match seqOf h x with | some ys => .ok (.lst (ys)) h | none => .bad) | _ => .bad
theorem b_listV : BuS X (fun xs H Q => ∃ p ys, xs = [.ref p] ∧ (SqL X.K H p ys ∨ SqT X.K H p ys) ∧ ∀ l, H l = none → Q (.ref l) (upd H l (.lst ys))) listIV := by
  refine ⟨fun r h H xs vs Q W S q p => ?_⟩
  unfold listIV at p
  split at p
  · obtain ⟨v, rfl, q1⟩ := q.one
    split at p
    · rename_i ys e
      obtain ⟨a, us, rfl, f1, f2⟩ := seqOf_ok S e q1
      exact ⟨a, us, rfl, f1.symm, fun l hl => p.newLv S f2 hl⟩
    · exact p.elim
  · exact p.elim
def splitIV (x : IV) (ys : List IV) (h : Hv) : R IV := match x, ys with
  | .str a, [.str b] => if (b.length == 0) = false ∧ a.length + 2 ≤ sizeLine then .ok (.lst ((Txt.split a b).map IV.str)) h else .bad
  | _, _ => .bad
theorem m_splitV : MtS X (fun x xs H Q => ∃ a b, x = .str a ∧ xs = [.str b] ∧ (b.length == 0) = false ∧ a.length + 2 ≤ sizeLine ∧ rNewStrs (Txt.split a b) H Q) splitIV := by
  refine ⟨fun r h H x ys v vs Q W S q q2 p => ?_⟩
  unfold splitIV at p
  split at p
  · split at p
    · rename_i hz
      obtain ⟨u, rfl, q3⟩ := q2.one
      rw [RV_str] at q q3; subst q q3
      exact ⟨_, _, rfl, rfl, hz.1, hz.2, fun l hl => p.newLv S RVs.of_strs hl⟩
    · exact p.elim
  · exact p.elim
end
open PySem.W in
def sortedIV (xs : List IV) (h : Hv) : R IV := match xs with
  | [x] => (match seqOf h x with
    | some ys => (match zipD h ys with
      | some bs => if alikeB (bs.map (·.2)) = true ∧ sortableB (bs.map (·.2)) = true ∧ (bs.all fun b => decide (b.2.depth ≤ 100)) = true then .ok (.lst ((isortD bs).map (·.1))) h else .bad
      | none => .bad)
    | none => .bad)
  | _ => .bad
section
variable {X : Cx}
open PySem.W in
theorem b_sortedV : BuS X (rSortA X.K) sortedIV := by
  refine ⟨fun r h H xs vs Q W S q p => ?_⟩
  unfold sortedIV at p
  split at p
  · rename_i x
    obtain ⟨v, rfl, q1⟩ := q.one
    split at p
    · rename_i ys e1
      split at p
      · rename_i bs e2
        split at p
        · rename_i hz
          obtain ⟨z1, z2, z3⟩ := hz
          obtain ⟨a, us, rfl, f1, f2⟩ := seqOf_ok S e1 q1
          obtain ⟨ts, rfl, rfl, f3⟩ := zipD_ok S e2 f2
          have em : (ts.map fun t => (t.2.1, t.2.2)).map (·.1) = ts.map fun t => t.2.1 := by rw [List.map_map]; rfl
          have ed : (ts.map fun t => (t.2.1, t.2.2)).map (·.2) = (ts.map fun t => (t.1, t.2.2)).map (·.2) := by rw [List.map_map, List.map_map]; rfl
          refine ⟨a, ts.map fun t => (t.2.1, t.2.2), rfl, ?_, ?_, ?_, ?_, ?_⟩
          · rw [em]; exact f1.symm
          · intro b hb
            obtain ⟨t, ht, rfl⟩ := List.mem_map.mp hb
            refine ⟨(f3 t ht).2, ?_⟩
            have := List.all_eq_true.mp z3 (t.1, t.2.2) (List.mem_map.mpr ⟨t, ht, rfl⟩)
            simpa using this
          · rw [ed]; exact alikeB_ok z1
          · rw [ed]; exact sortableB_ok z2
          · intro D hD
            rw [← sort_is] at p
            have s1 : (ts.mergeSort (dataLe false fun t : IV × V × PyData => t.2.2)).map (fun t => (t.1, t.2.2)) = (ts.map fun t => (t.1, t.2.2)).mergeSort (dataLe false fun b : IV × PyData => b.2) := List.map_mergeSort fun _ _ _ _ => rfl
            have s2 : (ts.mergeSort (dataLe false fun t : IV × V × PyData => t.2.2)).map (fun t => (t.2.1, t.2.2)) = (ts.map fun t => (t.2.1, t.2.2)).mergeSort (dataLe false fun b : V × PyData => b.2) := List.map_mergeSort fun _ _ _ _ => rfl
            rw [← s1, List.map_map] at p
            rw [← s2, List.map_map]
            exact p.newLv S (rvs_of fun t ht => (f3 t (List.mem_mergeSort.mp ht)).1) hD
        · exact p.elim
      · exact p.elim
    · exact p.elim
  · exact p.elim
end
end Hs
end

section
set_option Elab.async false
set_option linter.all false
set_option maxRecDepth 100000
set_option maxHeartbeats 4000000
namespace Hs
open PySem L2 PyProof.Rows
def blkB (N : List Str) (sc scope : Scope) (own : List (Str × Nat)) : Bool :=
  decide (scope.kind = .function) && ((scope.names.all fun y => decide (scope.names.lookup y.1 = some y.2)) && ((own.all fun p => decide (N[p.2]? = some p.1)) &&
    ((scope.names.all fun y => decide (y.2 ≠ .free) || (decide (sc.names.lookup y.1 = some .cell) || decide (sc.names.lookup y.1 = some .free))) &&
      scope.names.all fun y => (decide (y.2 ≠ .local) && decide (y.2 ≠ .cell)) || (decide (y.1 ∈ own.map (·.1)) || decide (y.1 ∉ N)))))
theorem blk_ok {N : List Str} {sc scope : Scope} {own : List (Str × Nat)} (h : blkB N sc scope own = true) : BlkOk N sc scope own := by
  unfold blkB at h
  simp only [Bool.and_eq_true, List.all_eq_true, decide_eq_true_eq, Bool.or_eq_true] at h
  obtain ⟨h1, h2, h3, h4, h5⟩ := h
  refine ⟨h1, h2, h3, fun y hy e => ?_, fun y hy e => ?_⟩
  · rcases h4 y hy with z | z
    · exact absurd e z
    · exact z
  · rcases h5 y hy with z | z
    · rcases e with e | e
      · exact absurd e z.1
      · exact absurd e z.2
    · exact z
theorem un64 {n : Nat} (h : n + 200 < cLine) : n + 64 < cLine := by omega
theorem gc_str {wd : Wd} {K : PySem.W.Frag} {mg : Str → Option Value} {x z : Str} (h : ∃ t, mg x = some (.str z t)) : GC wd K mg x (.str z) := by
  obtain ⟨t, e⟩ := h
  exact ⟨_, .str z, e, ⟨t, rfl⟩, fun _ _ => by simp⟩
theorem gc_tup {wd : Wd} {K : PySem.W.Frag} {mg : Str → Option Value} {x : Str} {a : Addr} {xs : List IV} {vs : List V} (h : mg x = some (.ref a)) (s : ∀ H, SqT K H a vs) (q : ∀ {r : List Addr} {H : Hp}, RVs wd K mg r H xs vs) : GC wd K mg x (.tup xs) :=
  ⟨_, .ref a, h, rfl, fun r H => RV_tup.mpr ⟨a, vs, rfl, .inr (s _), q⟩⟩
end Hs
end

section
set_option Elab.async false
set_option linter.all false
set_option maxRecDepth 100000
set_option maxHeartbeats 4000000
namespace Hs
open PySem L2 PyProof.Rows

/-! ### changing what stands at a number, whatever stood there -/
section
variable {wd : Wd} {K : PySem.W.Frag} {mg : Str → Option Value} {r : List Addr} {H : Hp} {h : Hv} {a : Addr} {o : HO}
mutual
theorem RV.setin (ha : a ∈ r) : ∀ (x : IV) (v : V), RV wd K mg r H x v → RV wd K mg r (upd H a o) x v
  | .non, v, q => by simpa using q
  | .bl _, v, q => by simpa using q
  | .int _, v, q => by simpa using q
  | .str _, v, q => by simpa using q
  | .tup xs, v, q => by
    obtain ⟨b, vs, e, q1, q2⟩ := RV_tup.mp q
    refine RV_tup.mpr ⟨b, vs, e, q1.imp (fun z => ⟨z.1, ?_⟩) id, RVs.setin ha xs vs q2⟩
    have hb : b ≠ a := fun e => z.1 (e ▸ ha)
    rcases z.2 with z2 | ⟨u, z2⟩
    · exact .inl (by rw [upd_ne hb]; exact z2)
    · exact .inr ⟨u, by rw [upd_ne hb]; exact z2⟩
  | .lst xs, v, q => by
    obtain ⟨b, vs, e, q1, q2⟩ := RV_lst.mp q
    have hb : b ≠ a := fun e => q1.1 (e ▸ ha)
    exact RV_lst.mpr ⟨b, vs, e, ⟨q1.1, by rw [upd_ne hb]; exact q1.2⟩, RVs.setin ha xs vs q2⟩
  | .frl xs, v, q => by
    obtain ⟨b, vs, e, q1, q2⟩ := RV_frl.mp q
    refine RV_frl.mpr ⟨b, vs, e, q1.imp (fun z => ⟨z.1, ?_⟩) id, RVs.setin ha xs vs q2⟩
    have hb : b ≠ a := fun e => z.1 (e ▸ ha)
    rcases z.2 with z2 | ⟨u, z2⟩
    · exact .inl (by rw [upd_ne hb]; exact z2)
    · exact .inr ⟨u, by rw [upd_ne hb]; exact z2⟩
  | .obj c fs, v, q => by
    obtain ⟨b, C, dx, gs, e, q0, q1, q3, q2⟩ := RV_obj.mp q
    have hb : b ≠ a := fun e => q1 (e ▸ ha)
    exact RV_obj.mpr ⟨b, C, dx, gs, e, q0, q1, by rw [upd_ne hb]; exact q3, RVf.setin ha fs gs q2⟩
  | .st ks, v, q => by
    obtain ⟨b, S, e, q1, q2, q3⟩ := RV_st.mp q
    have hb : b ≠ a := fun e => q1 (e ▸ ha)
    exact RV_st.mpr ⟨b, S, e, q1, by rw [upd_ne hb]; exact q2, q3⟩
  | .ref i, v, q => by simpa [RV] using q
theorem RVs.setin (ha : a ∈ r) : ∀ (xs : List IV) (vs : List V), RVs wd K mg r H xs vs → RVs wd K mg r (upd H a o) xs vs
  | [], vs, q => by simpa using q
  | x :: xs, vs, q => by
    obtain ⟨v, t, e, q1, q2⟩ := RVs_cons.mp q
    exact RVs_cons.mpr ⟨v, t, e, RV.setin ha x v q1, RVs.setin ha xs t q2⟩
theorem RVf.setin (ha : a ∈ r) : ∀ (xs : List (Str × IV)) (vs : List (Str × V)), RVf wd K mg r H xs vs → RVf wd K mg r (upd H a o) xs vs
  | [], vs, q => by simpa using q
  | (f, x) :: xs, vs, q => by
    obtain ⟨v, t, e, q1, q2⟩ := RVf_cons.mp q
    exact RVf_cons.mpr ⟨v, t, e, RV.setin ha x v q1, RVf.setin ha xs t q2⟩
end
theorem RO.setin {b : Addr} {ob : Ob} (ha : a ∈ r) (hb : b ≠ a) (q : RO wd K mg r H b ob) : RO wd K mg r (upd H a o) b ob := by
  cases ob with
  | lst xs => obtain ⟨vs, q, z⟩ := q; exact ⟨vs, by rw [upd_ne hb]; exact q, RVs.setin ha _ _ z⟩
  | dct xs => obtain ⟨vs, q, k, z⟩ := q; exact ⟨vs, by rw [upd_ne hb]; exact q, k, RVs.setin ha _ _ z⟩
  | dcl xs => obtain ⟨u, vs, q, k, z⟩ := q; exact ⟨u, vs, by rw [upd_ne hb]; exact q, k, RVs.setin ha _ _ z⟩
  | dcn xs => obtain ⟨vs, q, k1, k2, k3, z⟩ := q; exact ⟨vs, by rw [upd_ne hb]; exact q, k1, k2, RVs.setin ha _ _ k3, RVs.setin ha _ _ z⟩
  | dnl xs => obtain ⟨u, vs, q, k1, k2, k3, z⟩ := q; exact ⟨u, vs, by rw [upd_ne hb]; exact q, k1, k2, RVs.setin ha _ _ k3, RVs.setin ha _ _ z⟩
  | ins c fs => obtain ⟨C, dx, gs, c1, q, z⟩ := q; exact ⟨C, dx, gs, c1, by rw [upd_ne hb]; exact q, RVf.setin ha _ _ z⟩
theorem HSim.swap (S : HSim wd K mg r h H) {n : Nat} (e : r[n]? = some a) {ob : Ob} (hn : RO wd K mg r (upd H a o) a ob) : HSim wd K mg r (h.set n ob) (upd H a o) := by
  have ha : a ∈ r := List.mem_of_getElem? e
  refine ⟨by simp [S.len], S.nd, fun i ob' b h1 h2 => ?_⟩
  by_cases hi : i = n
  · subst hi
    rw [e] at h2; cases h2
    have hl : i < h.length := by rw [← S.len]; exact (List.getElem?_eq_some_iff.mp e).1
    rw [List.getElem?_set_self hl] at h1
    cases h1
    exact hn
  · rw [List.getElem?_set_ne (Ne.symm hi)] at h1
    have hb : b ≠ a := fun z => hi (HSim.set.nodup_ix' S.nd h2 (z ▸ e))
    exact (S.at_ i ob' b h1 h2).setin ha hb
theorem RL.setin {l : Loc} {s : L2.St} (ha : a ∈ r) (x : RL wd K mg r H l s) : RL wd K mg r (upd H a o) l s := ⟨x.1, fun i y e => by
  obtain ⟨v, e1, e2⟩ := x.2 i y e
  exact ⟨v, e1, RV.setin ha _ _ e2⟩⟩
end

/-! ### locks -/
def lockO : Ob → Option Ob | .dct kvs => some (.dcl kvs) | .dcn kvs => some (.dnl kvs) | _ => none
def unlkO : Ob → Option Ob | .dcl kvs => some (.dct kvs) | .dnl kvs => some (.dcn kvs) | _ => none
def unlkH (n : Nat) (h : Hv) : Option Hv := match h[n]? with | some o => (unlkO o).map fun o' => h.set n o' | none => none
def unlkS (n : Nat) : RS → RS
  | .ok f h => (match unlkH n h with | some h' => .ok f h' | none => .bad)
  | _ => .bad
def unlkR (n : Nat) : R IV → R IV
  | .ok f h => (match unlkH n h with | some h' => .ok f h' | none => .bad)
  | _ => .bad
def lockH (h : Hv) (n : Nat) : Option Hv := match h[n]? with | some o => (lockO o).map fun o' => h.set n o' | none => none
def numOf (m : ME) (l : Loc) (h : Hv) : Option Nat := match m l h with | .ok (.ref n) _ => some n | _ => none
def lockS (m : ME) (b : MS) : MS := fun l h => match numOf m l h with
  | some n => (match lockH h n with | some h' => unlkS n (b l h') | none => b l h)
  | none => b l h
def lockM (m : ME) (b : ME) : ME := fun l h => match numOf m l h with
  | some n => (match lockH h n with | some h' => unlkR n (b l h') | none => b l h)
  | none => b l h
section
variable {wd : Wd} {K : PySem.W.Frag} {mg : Str → Option Value} {r r' : List Addr} {H H' : Hp} {h h' : Hv} {a : Addr} {n : Nat}
theorem lock_go (S : HSim wd K mg r h H) (e : lockH h n = some h') : ∃ a u, r[n]? = some a ∧ H a = some u ∧ Mut (some u) ∧ (∀ o v, u ≠ .frz o v) ∧
    ∀ od, Nxt r H r (upd H a (.frz od u)) ∧ HSim wd K mg r h' (upd H a (.frz od u)) := by
  unfold lockH at e
  split at e
  · rename_i o ho
    obtain ⟨a, ha, q⟩ := S.addr ho
    simp only [Option.map_eq_some_iff] at e
    obtain ⟨o', e1, rfl⟩ := e
    cases o with
    | dct kvs =>
      cases e1
      obtain ⟨ws, f1, f2⟩ := q
      exact ⟨a, _, ha, f1, trivial, (fun _ _ z => by cases z), fun od => S.set (ob := .dcl kvs) ha (nf_of f1) fun n1 => ⟨od, ws, upd_same, f2.1, RVs.mono n1 _ _ f2.2⟩⟩
    | dcn kvs =>
      cases e1
      obtain ⟨ws, f1, f2⟩ := q
      exact ⟨a, _, ha, f1, trivial, (fun _ _ z => by cases z), fun od => S.set (ob := .dnl kvs) ha (nf_of f1) fun n1 => ⟨od, ws, upd_same, f2.mono n1⟩⟩
    | _ => cases e1
  · cases e
theorem unlock_go {u : HO} {od : Obj} (ha : r[n]? = some a) (hu : H a = some u) (nf : ∀ o v, u ≠ .frz o v) (N : Nxt r (upd H a (.frz od u)) r' H') (S : HSim wd K mg r' h H') (e : unlkH n h = some h') :
    H' a = some (.frz od u) ∧ Nxt r H r' (upd H' a u) ∧ HSim wd K mg r' h' (upd H' a u) ∧ a ∈ r' := by
  have hl : H' a = some (.frz od u) := N.lock a od u upd_same
  have ha' : r'[n]? = some a := N.get ha
  have hm : a ∈ r' := List.mem_of_getElem? ha'
  refine ⟨hl, ?_, ?_, hm⟩
  · obtain ⟨more, e1, e2⟩ := N.ext
    refine ⟨⟨more, e1, fun b hb => ?_⟩, fun b o eb hb => ?_, fun b hb => ?_, fun b o v eb => ?_⟩
    · have := e2 b hb
      by_cases z : b = a
      · subst z; rw [upd_same] at this; cases this
      · rw [upd_ne z] at this; exact this
    · have z : b ≠ a := fun z => hb (z ▸ List.mem_of_getElem? ha)
      rw [upd_ne z]
      exact N.keep b o (by rw [upd_ne z]; exact eb) hb
    · by_cases z : b = a
      · subst z; exact ⟨u, upd_same⟩
      · obtain ⟨o, eb⟩ := N.live b hb
        exact ⟨o, by rw [upd_ne z]; exact eb⟩
    · have z : b ≠ a := fun z => by subst z; rw [hu] at eb; exact nf _ _ (Option.some.inj eb)
      rw [upd_ne z]
      exact N.lock b o v (by rw [upd_ne z]; exact eb)
  · unfold unlkH at e
    split at e
    · rename_i o ho
      simp only [Option.map_eq_some_iff] at e
      obtain ⟨o', e1, rfl⟩ := e
      have q := S.at_ _ _ _ ho ha'
      refine S.swap ha' ?_
      cases o with
      | dcl kvs =>
        cases e1
        obtain ⟨o2, ws, f1, f2⟩ := q
        rw [hl] at f1; cases f1
        exact ⟨ws, upd_same, f2.1, RVs.setin hm _ _ f2.2⟩
      | dnl kvs =>
        cases e1
        obtain ⟨o2, ws, f1, k1, k2, k3, f2⟩ := q
        rw [hl] at f1; cases f1
        exact ⟨ws, upd_same, k1, k2, RVs.setin hm _ _ k3, RVs.setin hm _ _ f2⟩
      | _ => cases e1
    · cases e
end
section
variable {X : Cx} {W : WX} {st : Stmt} {e : Expr} {m : ME} {b : MS} {be : ME}
theorem sim_lockS (hs : SimS X W st b) : SimS X W st (lockS m b) := by
  refine ⟨fun r l h s H D S p => ?_⟩
  unfold lockS at p
  split at p
  · rename_i n _
    split at p
    · rename_i h1 e1
      obtain ⟨a, u, ha, hu, mu, nf, go⟩ := lock_go S.hs e1
      refine toS (ps_lock pbS) ⟨a, u, hu, mu, fun od => ?_⟩
      obtain ⟨n1, S1⟩ := go od
      refine hs r l h1 s _ _ (S.next n1 S1) ?_
      cases eb : b l h1 with
      | bad => rw [eb] at p; exact p.elim
      | exc c fs l' h' => rw [eb] at p; exact p.elim
      | ok f h' =>
        rw [eb] at p
        simp only [unlkS] at p
        split at p
        · rename_i h2 e2
          cases f with
          | nx l' =>
            intro r' H' s' N S'
            obtain ⟨z1, z2, z3, z4⟩ := unlock_go ha hu nf N S'.hs e2
            exact ⟨z1, p r' _ s' z2 ⟨z3, S'.lo.setin z4⟩⟩
          | rt x =>
            intro r' H' v N S' q
            obtain ⟨z1, z2, z3, z4⟩ := unlock_go ha hu nf N S' e2
            exact ⟨z1, p r' _ v z2 z3 (RV.setin z4 _ _ q)⟩
          | bk l' =>
            intro r' H' s' N S'
            obtain ⟨z1, z2, z3, z4⟩ := unlock_go ha hu nf N S'.hs e2
            exact ⟨z1, p r' _ s' z2 ⟨z3, S'.lo.setin z4⟩⟩
          | ct l' =>
            intro r' H' s' N S'
            obtain ⟨z1, z2, z3, z4⟩ := unlock_go ha hu nf N S'.hs e2
            exact ⟨z1, p r' _ s' z2 ⟨z3, S'.lo.setin z4⟩⟩
        · exact p.elim
    · exact hs r l h s H D S p
  · exact hs r l h s H D S p
theorem sim_lockM (hs : SimE X W e be) : SimE X W e (lockM m be) := by
  refine ⟨fun r l h s H Q S p => ?_⟩
  unfold lockM at p
  split at p
  · rename_i n _
    split at p
    · rename_i h1 e1
      obtain ⟨a, u, ha, hu, mu, nf, go⟩ := lock_go S.hs e1
      refine toE (pe_lock pbE) ⟨a, u, hu, mu, fun od => ?_⟩
      obtain ⟨n1, S1⟩ := go od
      refine hs r l h1 s _ _ (S.next n1 S1) ?_
      cases eb : be l h1 with
      | bad => rw [eb] at p; exact p.elim
      | exc c fs h' => rw [eb] at p; exact p.elim
      | ok f h' =>
        rw [eb] at p
        simp only [unlkR] at p
        split at p
        · rename_i h2 e2
          intro r' H' v N S' q
          obtain ⟨z1, z2, z3, z4⟩ := unlock_go ha hu nf N S' e2
          exact ⟨z1, p r' _ v z2 z3 (RV.setin z4 _ _ q)⟩
        · exact p.elim
    · exact hs r l h s H Q S p
  · exact hs r l h s H Q S p
end
end Hs
end

section
set_option Elab.async false
set_option linter.all false
set_option maxRecDepth 100000
set_option maxHeartbeats 4000000
namespace Hs
open PySem L2 PyProof.Rows

/-! ### iterators over locked dicts -/
def kIV : Key → IV | .inl i => .int i | .inr x => .str x
theorem RV_key {wd : Wd} {K : PySem.W.Frag} {mg : Str → Option Value} {r : List Addr} {H : Hp} (k : Key) : RV wd K mg r H (kIV k) (kV k) := by
  cases k <;> simp [kIV, kV]
theorem RVs_keys {wd : Wd} {K : PySem.W.Frag} {mg : Str → Option Value} {r : List Addr} {H : Hp} : ∀ ks : List Key, RVs wd K mg r H (ks.map kIV) (ks.map kV)
  | [] => by simp
  | k :: ks => RVs_cons.mpr ⟨_, _, rfl, RV_key k, RVs_keys ks⟩
section
variable {X : Cx} {W : WX} {r0 : List Addr} {H0 : Hp} {J : It} {xs ys : List IV} {vs us : List V} {a : Addr} {o : Obj} {u : HO}
theorem jsim_fix (hl : H0 a = some (.frz o u)) (q : RVs X.wd X.K X.mg r0 H0 xs vs) (stop : ∀ i H, H a = some (.frz o u) → vs.length ≤ i → J.stop i H) (go : ∀ i H, H a = some (.frz o u) → i < vs.length → J.go i H)
    (yld : ∀ i H v H', i < vs.length → J.yld i H v H' → H' = H ∧ vs[i]? = some v) : JSim X r0 H0 J (.its xs) := by
  intro r h H i N S
  simp only [itemAt]
  have hH := N.lock a o u hl
  have q' := RVs.mono N _ _ q
  cases e : xs[i]? with
  | none =>
    have : xs.length ≤ i := List.getElem?_eq_none_iff.mp e
    exact stop i H hH (by rw [← q.length]; exact this)
  | some x =>
    have hi : i < vs.length := by rw [← q.length]; exact (List.getElem?_eq_some_iff.mp e).1
    refine ⟨go i H hH hi, fun v H' y => ?_⟩
    obtain ⟨rfl, e2⟩ := yld i H v H' hi y
    obtain ⟨w, e3, q3⟩ := q'.get e
    rw [e2] at e3; cases e3
    exact ⟨Nxt.refl S, S, q3⟩
theorem jsim_pair (hl : H0 a = some (.frz o u)) (q : RVs X.wd X.K X.mg r0 H0 xs vs) (q2 : RVs X.wd X.K X.mg r0 H0 ys us) (len : vs.length = us.length) (stop : ∀ i H, H a = some (.frz o u) → vs.length ≤ i → J.stop i H) (go : ∀ i H, H a = some (.frz o u) → i < vs.length → J.go i H)
    (yld : ∀ i H v H', i < vs.length → J.yld i H v H' → ∃ T x y, v = .ref T ∧ H T = none ∧ H' = upd H T (.tup [x, y]) ∧ vs[i]? = some x ∧ us[i]? = some y) : JSim X r0 H0 J (.its ((xs.zip ys).map fun p => .tup [p.1, p.2])) := by
  intro r h H i N S
  simp only [itemAt]
  have hH := N.lock a o u hl
  have q' := RVs.mono N _ _ q
  have q2' := RVs.mono N _ _ q2
  cases e : ((xs.zip ys).map fun p => IV.tup [p.1, p.2])[i]? with
  | none =>
    have := List.getElem?_eq_none_iff.mp e
    simp only [List.length_map, List.length_zip, q.length, q2.length] at this
    exact stop i H hH (by omega)
  | some z =>
    rw [List.getElem?_map, Option.map_eq_some_iff] at e
    obtain ⟨⟨x, y⟩, e1, rfl⟩ := e
    rw [List.getElem?_zip_eq_some] at e1
    have hi : i < vs.length := by rw [← q.length]; exact (List.getElem?_eq_some_iff.mp e1.1).1
    refine ⟨go i H hH hi, fun v H' yy => ?_⟩
    obtain ⟨T, x', y', rfl, hT, rfl, f1, f2⟩ := yld i H v H' hi yy
    obtain ⟨w1, g1, g2⟩ := q'.get e1.1
    rw [f1] at g1; cases g1
    obtain ⟨w2, g3, g4⟩ := q2'.get e1.2
    rw [f2] at g3; cases g3
    exact yl_tup S hT (RVs_cons.mpr ⟨_, _, rfl, g2, RVs_cons.mpr ⟨_, _, rfl, g4, by simp⟩⟩)
end

/-! ### keys of nested dicts -/
section
variable {X : Cx} {pins : List (Addr × Obj)} {σ : L2.St} {H : Hp} {s : Shared} {d : Addr} {o : Obj}
theorem dn_frz {w : World} {ws : List (NestedKey × Addr × V)} (I : Inv X pins σ H s) (h : H d = some (.frz o (DN w d ws))) :
    (d == sysModules) = false ∧ s.heap.get? d = some o ∧ o.ExactDict ∧ ∃ (es : Array DictEntry) (ep : Nat), o.data = .dict es ep ∧ es.size = ws.length ∧
      ∀ (i : Nat) (k : NestedKey) (a : Addr) (v : V), ws[i]? = some (k, a, v) → ∃ (en : DictEntry), es[i]? = some en ∧ en.key = .ref a ∧ RelV v en.val := by
  obtain ⟨hd, ⟨hs, hz, hn, xs, pr, o', es, ep, ho, hx, hdt, he⟩, _⟩ := I.hok d _ h
  rw [hd] at ho
  cases ho
  refine ⟨hs, hd, hx, es, ep, hdt, ?_, fun i k a v e => ?_⟩
  · have l1 : es.size = xs.length := by rw [← Array.length_toList, he, List.length_map]
    have l2 : ws.length = xs.length := Paired.length pr
    omega
  · obtain ⟨b, hb, e1, e2, e3⟩ := paired_get pr e
    have q : es[i]? = some ⟨b.1.hash w, .ref b.2.1, b.2.2⟩ := by rw [← Array.getElem?_toList, he, List.getElem?_map, hb]; rfl
    exact ⟨_, q, by rw [← e2], e3⟩
end
def Itn (w : World) (d : Addr) (o : Obj) (ws : List (NestedKey × Addr × V)) : It :=
  ⟨fun i H => H d = some (.frz o (DN w d ws)) ∧ i < ws.length, fun i H x H' => H' = H ∧ ∃ k a v, ws[i]? = some (k, a, v) ∧ x = .ref a, fun i H => H d = some (.frz o (DN w d ws)) ∧ ws.length ≤ i⟩
section
variable {P : Program} {w : World} {K : PySem.W.Frag} {tg : Expr} {d : Addr} {o : Obj} {es : Array DictEntry} {ep : Nat}
theorem turn_keysN {ws : List (NestedKey × Addr × V)} (it : Addr) (hod : o.data = .dict es ep) : Turn P w K tg (Itn w d o ws) [it] it (fun i h => h.IsKeyIter it d i ws.length ep) where
  mem := by simp
  obj := fun i h st b hb => by
    have e : b = it := by simpa using hb
    subst e
    obtain ⟨oi, e, c, dd⟩ := st
    exact ⟨oi, e, fun v z => by rw [dd] at z; cases z⟩
  keep := fun i h h' st k => st.at fun oi e => k it (by simp) oi e
  item := by
    intro X hP hw hK hc i pins s σ H E I hf st hg
    subst hP hw hK
    obtain ⟨hd, hi⟩ := hg
    obtain ⟨f0, f1, f2, f3, f4, f5⟩ := hf it (by simp)
    obtain ⟨hs, hgd, hx, es', ep', hdt, hsz, ent⟩ := dn_frz I hd
    obtain ⟨rfl, rfl⟩ := dict_ep hod hdt
    obtain ⟨⟨k, q, v⟩, hkv⟩ : ∃ p, ws[i]? = some p := ⟨ws[i], List.getElem?_eq_getElem hi⟩
    obtain ⟨en, hen, hkey, _⟩ := ent i k q v hkv
    refine next_key_item st hgd hdt hsz hen fun h' st' sb => ?_
    have I1 : Inv X pins σ H { s with heap := h' } := I.turned (t' := s.toks) (fun b ob hb e => (sb.2 b hb).trans e) f0 f1 f3 f4 f5
    obtain ⟨oi, e, c, dd⟩ := id st'
    exact ⟨en.key, rfl, go_of (s := { s with heap := h' }) e c dd (by decide) ⟨.ref q, H, I1, hkey, ⟨rfl, k, q, v, hkv, rfl⟩, st', fun b hb => (hf b hb).1⟩⟩
  done := by
    intro X hP hw hK hc i pins s σ H E I hf st hg
    subst hP hw hK
    obtain ⟨hd, hi⟩ := hg
    obtain ⟨f0, f1, f2, f3, f4, f5⟩ := hf it (by simp)
    obtain ⟨hs, hgd, hx, es', ep', hdt, hsz, ent⟩ := dn_frz I hd
    obtain ⟨rfl, rfl⟩ := dict_ep hod hdt
    exact next_key_end (I.ok.hd hc) st hgd hdt hsz hi fun h' eb => ⟨rfl, I.turned (t' := s.toks) (fun b ob hb e => eb b ob hb e) f0 f1 f3 f4 f5⟩
  self := fun A i s Q E st h => by
    refine wpAny_pyIter_slot st.typeIs F.slot_dict_keyiterator_iter (wpAny_call_entry F.slot_dict_keyiterator_iter st.typeIs F.entry_dict_keyiterator_iter ?_ (F.args_dict_keyiterator_iter_1 _))
    show wpAny _ _ (ret (.ref it)) _ _ s
    exact wpAny_pure ⟨_, rfl, "dict_keyiterator", _, st.typeIs, F.slot_dict_keyiterator_next.lookup, h⟩
end
def iKeysA (w : World) (td : TE) : TI := fun σ H R => td σ H fun x H1 => ∃ d o, x = .ref d ∧ ((∃ kvs, H1 d = some (.frz o (.dK kvs)) ∧ R (Itk d o kvs) H1) ∨ ∃ ws, H1 d = some (.frz o (DN w d ws)) ∧ R (Itn w d o ws) H1)
theorem pi_keysA {X : Cx} {tg e : Expr} {td : TE} (he : PE X e td) : PI X tg e (iKeysA X.w td) := by
  refine ⟨fun pins s σ H R I h => ?_⟩
  refine thn (he.run pins s σ H _ I h) fun u s1 ⟨x, H1, I1, rx, d, o, ex, q⟩ => ?_
  subst ex
  obtain rfl : u = Value.ref d := rx
  rcases q with ⟨kvs, hd, q⟩ | ⟨ws, hd, q⟩
  · obtain ⟨hs, hgd, hx, es, ep, vs, hdt, hsz, kv, hm⟩ := I1.frzK hd
    refine iter_keys hs hgd hx hdt (pi_one (tk := s1.toks) I1 _ (turn_keys _ hdt) ⟨_, Heap.get?_push_size _ rfl, rfl, ?_⟩ q)
    rw [hsz] <;> rfl
  · obtain ⟨hs, hgd, hx, es, ep, hdt, hsz, ent⟩ := dn_frz I1 hd
    refine iter_keys hs hgd hx hdt (pi_one (tk := s1.toks) I1 _ (turn_keysN _ hdt) ⟨_, Heap.get?_push_size _ rfl, rfl, ?_⟩ q)
    rw [hsz] <;> rfl
def keysOf (h : Hv) : IV → Option (List IV)
  | .ref n => (match h[n]? with | some (.dcl kvs) => some (kvs.map fun kv => kIV kv.1) | some (.dnl kvs) => some (kvs.map (·.1)) | _ => none)
  | _ => none
def keyI (m : ME) : MI := fun l h => bindR (m l h) fun x h1 => match keysOf h1 x with | some ks => .ok (.its ks) h1 | none => .bad
section
variable {X : Cx} {W : WX} {tg e : Expr} {m : ME} {apos cpos : Pos}
theorem simi_keys (he : SimE X W e m) : SimI X W tg e (keyI m) := by
  refine ⟨fun r l h s H Q S p => ?_⟩
  refine toI (pi_keysA pbE) ?_
  refine he.thn S p fun x h1 r1 H1 v _ S1 n1 q1 p1 => ?_
  split at p1
  · rename_i ks e1
    unfold keysOf at e1
    split at e1
    · rename_i n
      obtain ⟨a, rfl, ha⟩ := RV_ref.mp q1
      split at e1
      · rename_i kvs e2
        cases e1
        obtain ⟨o, ws, f1, f2, f3⟩ := S1.hs.at_ _ _ _ e2 ha
        refine ⟨a, o, rfl, .inl ⟨ws, f1, p1 r1 H1 _ (Nxt.refl S1.hs) S1.hs ?_⟩⟩
        have ek : (kvs.map fun kv => kIV kv.1) = (ws.map (·.1)).map kIV := by rw [← f2, List.map_map]; rfl
        rw [ek]
        refine jsim_fix (vs := (ws.map (·.1)).map kV) f1 (RVs_keys _) (fun i H hH hi => ⟨hH, by simpa using hi⟩) (fun i H hH hi => ⟨hH, by simpa using hi⟩) fun i H v H' hi y => ?_
        obtain ⟨rfl, k, v', g1, rfl⟩ := y
        exact ⟨rfl, by simp [g1]⟩
      · rename_i kvs e2
        cases e1
        obtain ⟨o, ws, f1, k1, k2, k3, f3⟩ := S1.hs.at_ _ _ _ e2 ha
        refine ⟨a, o, rfl, .inr ⟨ws, f1, p1 r1 H1 _ (Nxt.refl S1.hs) S1.hs ?_⟩⟩
        refine jsim_fix f1 k3 (fun i H hH hi => ⟨hH, by simpa using hi⟩) (fun i H hH hi => ⟨hH, by simpa using hi⟩) fun i H v H' hi y => ?_
        obtain ⟨rfl, k, a', v', g1, rfl⟩ := y
        exact ⟨rfl, by simp [g1]⟩
      · cases e1
    · cases e1
  · exact p1.elim
def dclOf (h : Hv) : IV → Option (List (Key × IV))
  | .ref n => (match h[n]? with | some (.dcl kvs) => some kvs | _ => none)
  | _ => none
theorem dclOf_ok {r : List Addr} {h : Hv} {H : Hp} {x : IV} {v : V} {kvs : List (Key × IV)} (S : HSim X.wd X.K X.mg r h H) (e : dclOf h x = some kvs) (q : RV X.wd X.K X.mg r H x v) : ∃ a o ws, v = .ref a ∧ H a = some (.frz o (.dK ws)) ∧ RKV X.wd X.K X.mg r H kvs ws := by
  unfold dclOf at e
  split at e
  · rename_i n
    obtain ⟨a, rfl, ha⟩ := RV_ref.mp q
    split at e
    · rename_i kvs' e2
      cases e
      obtain ⟨o, ws, f⟩ := S.at_ _ _ _ e2 ha
      exact ⟨a, o, ws, rfl, f⟩
    · cases e
  · cases e
def valI (m : ME) : MI := fun l h => bindR (m l h) fun x h1 => match dclOf h1 x with | some kvs => .ok (.its (kvs.map (·.2))) h1 | none => .bad
def itmI (m : ME) : MI := fun l h => bindR (m l h) fun x h1 => match dclOf h1 x with | some kvs => .ok (.its (((kvs.map fun kv => kIV kv.1).zip (kvs.map (·.2))).map fun p => .tup [p.1, p.2])) h1 | none => .bad
theorem simi_vals (he : SimE X W e m) (hbase : attributeBase e "values" X.env (eval e X.env) = eval e X.env := by rfl) (hline : (apos.endLine == cpos.line) = true := by rfl) : SimI X W tg (.Call (.Attribute e "values" apos) [] [] cpos) (valI m) := by
  refine ⟨fun r l h s H Q S p => ?_⟩
  refine toI (pi_values pbE hbase hline) ?_
  refine he.thn S p fun x h1 r1 H1 v _ S1 n1 q1 p1 => ?_
  split at p1
  · rename_i kvs e1
    obtain ⟨a, o, ws, rfl, f1, f2, f3⟩ := dclOf_ok S1.hs e1 q1
    refine ⟨a, o, ws, rfl, f1, p1 r1 H1 _ (Nxt.refl S1.hs) S1.hs ?_⟩
    refine jsim_fix f1 f3 (fun i H hH hi => ⟨hH, by simpa using hi⟩) (fun i H hH hi => ⟨hH, by simpa using hi⟩) fun i H v H' hi y => ?_
    obtain ⟨rfl, k, g1⟩ := y
    exact ⟨rfl, by simp [g1]⟩
  · exact p1.elim
theorem simi_itms {elts : List Expr} {kk : Nat} {tpos : Pos} (he : SimE X W e m) (hbase : attributeBase e "items" X.env (eval e X.env) = eval e X.env := by rfl) (hline : (apos.endLine == cpos.line) = true := by rfl) :
    SimI X W (.Tuple elts kk tpos) (.Call (.Attribute e "items" apos) [] [] cpos) (itmI m) := by
  refine ⟨fun r l h s H Q S p => ?_⟩
  refine toI (pi_items pbE hbase hline) ?_
  refine he.thn S p fun x h1 r1 H1 v _ S1 n1 q1 p1 => ?_
  split at p1
  · rename_i kvs e1
    obtain ⟨a, o, ws, rfl, f1, f2, f3⟩ := dclOf_ok S1.hs e1 q1
    refine ⟨a, o, ws, rfl, f1, p1 r1 H1 _ (Nxt.refl S1.hs) S1.hs ?_⟩
    have ek : (kvs.map fun kv => kIV kv.1) = (ws.map (·.1)).map kIV := by rw [← f2, List.map_map]; rfl
    rw [ek]
    refine jsim_pair (vs := (ws.map (·.1)).map kV) f1 (RVs_keys _) f3 (by simp) (fun i H hH hi => ⟨hH, by simpa using hi⟩) (fun i H hH hi => ⟨hH, by simpa using hi⟩) fun i H v H' hi y => ?_
    obtain ⟨T, k, v', g1, rfl, g2, rfl⟩ := y
    exact ⟨T, kV k, v', rfl, g2, rfl, by simp [g1], by simp [g1]⟩
  · exact p1.elim
end
end Hs
end

section
set_option Elab.async false
set_option linter.all false
set_option maxRecDepth 100000
set_option maxHeartbeats 4000000
namespace Hs
open PySem L2 PyProof.Rows

/-! ### keys that are nested tuples: equality, depth -/
def natsEq : List Nat → List Nat → Bool
  | [], [] => true
  | a :: as, b :: bs => Nat.beq a b && natsEq as bs
  | _, _ => false
theorem natsEq_iff : ∀ a b : List Nat, natsEq a b = true ↔ a = b
  | [], [] => by simp [natsEq]
  | [], _ :: _ => by simp [natsEq]
  | _ :: _, [] => by simp [natsEq]
  | a :: as, b :: bs => by simp [natsEq, natsEq_iff as bs, Nat.beq_eq]
def strEq (a b : Str) : Bool := natsEq a.cps.toList b.cps.toList
theorem strEq_eq (a b : Str) : strEq a b = decide (a = b) := by
  have : strEq a b = true ↔ a = b := by
    unfold strEq
    rw [natsEq_iff]
    constructor
    · intro h
      cases a; cases b
      simp only at h
      rw [Array.toList_inj.mp h]
    · rintro rfl; rfl
  by_cases e : a = b
  · rw [this.mpr e, decide_eq_true e]
  · rw [decide_eq_false e]
    cases h : strEq a b with
    | false => rfl
    | true => exact absurd (this.mp h) e
def b2i (b : Bool) : Int := if b then 1 else 0
mutual
def keq : IV → IV → Bool
  | .non, .non => true
  | .bl a, .bl b => a == b
  | .bl a, .int b => decide (b2i a = b)
  | .int a, .bl b => decide (a = b2i b)
  | .int a, .int b => decide (a = b)
  | .str a, .str b => strEq a b
  | .tup a, .tup b => keqs a b
  | _, _ => false
def keqs : List IV → List IV → Bool
  | [], [] => true
  | x :: xs, y :: ys => keq x y && keqs xs ys
  | _, _ => false
end
mutual
theorem keq_ok : ∀ (x y : IV) (k j : NestedKey), nk x = some k → nk y = some j → keq x y = decide (k = j)
  | .non, y, k, j, e, f => by
    simp [nk] at e; subst e
    cases y <;> simp [nk] at f <;> (try subst f) <;> simp [keq]
    obtain ⟨a, _, rfl⟩ := f; simp
  | .bl a, y, k, j, e, f => by
    simp [nk] at e; subst e
    cases y with
    | tup ys =>
      simp only [nk, Option.map_eq_some_iff] at f
      obtain ⟨js, f1, rfl⟩ := f
      simp [keq]
    | bl b => simp [nk] at f; subst f; cases a <;> cases b <;> decide
    | _ => simp [nk] at f <;> (try subst f) <;> simp [keq, b2i] <;> congr
  | .int a, y, k, j, e, f => by
    simp [nk] at e; subst e
    cases y with
    | tup ys =>
      simp only [nk, Option.map_eq_some_iff] at f
      obtain ⟨js, f1, rfl⟩ := f
      simp [keq]
    | _ => simp [nk] at f <;> (try subst f) <;> simp [keq, b2i] <;> congr
  | .str a, y, k, j, e, f => by
    simp [nk] at e; subst e
    cases y <;> simp [nk] at f <;> (try subst f) <;> simp [keq, strEq_eq]
    obtain ⟨a, _, rfl⟩ := f; simp
  | .tup xs, y, k, j, e, f => by
    simp only [nk, Option.map_eq_some_iff] at e
    obtain ⟨ks, e1, rfl⟩ := e
    cases y with
    | tup ys =>
      simp only [nk, Option.map_eq_some_iff] at f
      obtain ⟨js, f1, rfl⟩ := f
      simp only [keq]
      rw [keqs_ok xs ys ks js e1 f1]
      simp
    | _ => simp [nk] at f <;> (try subst f) <;> simp [keq]
  | .lst _, _, _, _, e, _ => by simp [nk] at e
  | .frl _, _, _, _, e, _ => by simp [nk] at e
  | .obj _ _, _, _, _, e, _ => by simp [nk] at e
  | .st _, _, _, _, e, _ => by simp [nk] at e
  | .ref _, _, _, _, e, _ => by simp [nk] at e
theorem keqs_ok : ∀ (xs ys : List IV) (ks js : List NestedKey), nks xs = some ks → nks ys = some js → keqs xs ys = decide (ks = js)
  | [], [], ks, js, e, f => by simp [nks] at e f; subst e; subst f; simp [keqs]
  | [], y :: ys, ks, js, e, f => by
    simp only [nks] at e f
    cases e
    split at f
    · cases f; simp [keqs]
    · cases f
  | x :: xs, [], ks, js, e, f => by
    simp only [nks] at e f
    cases f
    split at e
    · cases e; simp [keqs]
    · cases e
  | x :: xs, y :: ys, ks, js, e, f => by
    simp only [nks] at e f
    split at e
    · rename_i k ks' e1 e2
      cases e
      split at f
      · rename_i j js' f1 f2
        cases f
        simp only [keqs]
        rw [keq_ok x y k j e1 f1, keqs_ok xs ys ks' js' e2 f2]
        simp
      · cases f
    · cases e
end
def atomI : IV → Bool | .non => true | .bl _ => true | .int _ => true | .str _ => true | _ => false
/-- a key of at most this depth -/
def kd : Nat → IV → Bool
  | 0, x => atomI x
  | n + 1, .tup xs => xs.all (kd n)
  | _ + 1, x => atomI x
theorem atom_nk {x : IV} (e : atomI x = true) : ∃ k, nk x = some k ∧ k.depth = 0 := by
  cases x <;> simp [atomI] at e <;> simp [nk, NestedKey.depth]
theorem kds_nk {n : Nat} (ih : ∀ x, kd n x = true → ∃ k, nk x = some k ∧ k.depth ≤ n) : ∀ xs : List IV, xs.all (kd n) = true → ∃ ks, nks xs = some ks ∧ NestedKey.depthAll ks ≤ n
  | [], _ => ⟨[], by simp [nks], by simp [NestedKey.depthAll]⟩
  | x :: xs, e => by
    rw [List.all_cons, Bool.and_eq_true] at e
    obtain ⟨k, e1, d1⟩ := ih x e.1
    obtain ⟨ks, e2, d2⟩ := kds_nk ih xs e.2
    exact ⟨k :: ks, by simp [nks, e1, e2], by simp [NestedKey.depthAll]; omega⟩
theorem kd_nk : ∀ (n : Nat) (x : IV), kd n x = true → ∃ k, nk x = some k ∧ k.depth ≤ n
  | 0, x, e => by obtain ⟨k, e1, e2⟩ := atom_nk e; exact ⟨k, e1, by omega⟩
  | n + 1, .tup xs, e => by
    obtain ⟨ks, e1, e2⟩ := kds_nk (kd_nk n) xs e
    exact ⟨.tup ks, by simp [nk, e1], by simp [NestedKey.depth]; omega⟩
  | n + 1, .non, e => by obtain ⟨k, e1, e2⟩ := atom_nk (x := .non) e; exact ⟨k, e1, by omega⟩
  | n + 1, .bl b, e => by obtain ⟨k, e1, e2⟩ := atom_nk (x := .bl b) e; exact ⟨k, e1, by omega⟩
  | n + 1, .int b, e => by obtain ⟨k, e1, e2⟩ := atom_nk (x := .int b) e; exact ⟨k, e1, by omega⟩
  | n + 1, .str b, e => by obtain ⟨k, e1, e2⟩ := atom_nk (x := .str b) e; exact ⟨k, e1, by omega⟩
  | n + 1, .lst _, e => by simp [kd, atomI] at e
  | n + 1, .frl _, e => by simp [kd, atomI] at e
  | n + 1, .obj _ _, e => by simp [kd, atomI] at e
  | n + 1, .st _, e => by simp [kd, atomI] at e
  | n + 1, .ref _, e => by simp [kd, atomI] at e

/-! ### the table, by its pairs -/
def getN (kvs : List (IV × IV)) (y : IV) : Option IV := (kvs.find? fun kv => keq kv.1 y).map (·.2)
def putN (kvs : List (IV × IV)) (y z : IV) : List (IV × IV) := if (kvs.any fun kv => keq kv.1 y) = true then kvs.map (fun kv => if keq kv.1 y = true then (kv.1, z) else kv) else kvs ++ [(y, z)]
def getW (ws : List (NestedKey × Addr × V)) (k : NestedKey) : Option V := (ws.find? fun x => decide (x.1 = k)).map (·.2.2)
def putW (ws : List (NestedKey × Addr × V)) (k : NestedKey) (a : Addr) (v : V) : List (NestedKey × Addr × V) := if (ws.any fun x => decide (x.1 = k)) = true then ws.map (fun x => if x.1 = k then (x.1, x.2.1, v) else x) else ws ++ [(k, a, v)]
abbrev PW3 : List (NestedKey × Addr × V) → List (NestedKey × Addr × Value) → Prop := Paired fun p q => p.1 = q.1 ∧ p.2.1 = q.2.1 ∧ RelV p.2.2 q.2.2
theorem getW_xs {ws : List (NestedKey × Addr × V)} {xs : List (NestedKey × Addr × Value)} (p : PW3 ws xs) (k : NestedKey) : RelO (getW ws k) ((atKey xs k).map (·.2)) := by
  unfold PW3 at p
  induction p with
  | nil => exact True.intro
  | @cons a b as bs h t ih =>
    obtain ⟨a1, a2, a3⟩ := a
    obtain ⟨b1, b2, b3⟩ := b
    obtain ⟨h1, h2, h3⟩ := h
    simp only at h1 h2 h3
    subst h1; subst h2
    unfold getW atKey
    by_cases e : a1 = k
    · simp [List.find?_cons, e]; exact h3
    · simp only [List.find?_cons, e, decide_false]; exact ih
theorem paired_any {ws : List (NestedKey × Addr × V)} {xs : List (NestedKey × Addr × Value)} (p : PW3 ws xs) (k : NestedKey) : (ws.any fun x => decide (x.1 = k)) = (atKey xs k).isSome := by
  unfold PW3 at p
  induction p with
  | nil => rfl
  | @cons a b as bs h t ih =>
    rw [List.any_cons, ih, h.1]
    unfold atKey
    by_cases e : b.1 = k
    · simp [List.find?_cons, e]
    · simp [List.find?_cons, e]
theorem putW_xs {ws : List (NestedKey × Addr × V)} {xs : List (NestedKey × Addr × Value)} (p : PW3 ws xs) (k : NestedKey) (a : Addr) {v : V} {u : Value} (q : RelV v u) : PW3 (putW ws k a v) (storedH xs k a u) := by
  have h1 : ∀ {ws : List (NestedKey × Addr × V)} {xs : List (NestedKey × Addr × Value)}, PW3 ws xs → PW3 (ws.map (fun x => if x.1 = k then (x.1, x.2.1, v) else x)) (xs.map (putAt k u)) := by
    intro ws xs p
    unfold PW3 at p ⊢
    induction p with
    | nil => exact .nil
    | @cons a b as bs h t ih =>
      refine .cons ?_ ih
      unfold putAt
      by_cases e : b.1 = k
      · have e' : a.1 = k := h.1.trans e
        simp only [if_pos e', if_pos e]; exact ⟨h.1, h.2.1, q⟩
      · have e' : ¬ a.1 = k := fun z => e (h.1.symm.trans z)
        simp only [if_neg e', if_neg e]; exact h
  have h2 : ∀ {ws : List (NestedKey × Addr × V)} {xs : List (NestedKey × Addr × Value)}, PW3 ws xs → PW3 (ws ++ [(k, a, v)]) (xs ++ [(k, a, u)]) := by
    intro ws xs p
    unfold PW3 at p ⊢
    induction p with
    | nil => exact .cons ⟨rfl, rfl, q⟩ .nil
    | cons h t ih => exact .cons h ih
  unfold putW storedH
  rw [paired_any p k]
  split
  · exact h1 p
  · exact h2 p
theorem pw_keys {ws : List (NestedKey × Addr × V)} {xs : List (NestedKey × Addr × Value)} (p : PW3 ws xs) : ws.map (·.1) = xs.map (·.1) := by
  unfold PW3 at p
  induction p with
  | nil => rfl
  | cons h t ih => simp [h.1, ih]
theorem putW_len (ws : List (NestedKey × Addr × V)) (k : NestedKey) (a : Addr) (v : V) : (putW ws k a v).length ≤ ws.length + 1 := by
  unfold putW; split <;> simp
section
variable {wd : Wd} {K : PySem.W.Frag} {mg : Str → Option Value} {r : List Addr} {H : Hp} {y z : IV} {v : V} {k : NestedKey} {a : Addr}
theorem RNV.nil : RNV wd K mg r H [] [] := ⟨rfl, by simp, by simp, by simp⟩
theorem RNV.cons_iff {kv : IV × IV} {kvs : List (IV × IV)} {x : NestedKey × Addr × V} {ws : List (NestedKey × Addr × V)} : RNV wd K mg r H (kv :: kvs) (x :: ws) ↔ (nk kv.1 = some x.1 ∧ x.1.depth ≤ 8 ∧ RV wd K mg r H kv.1 (.ref x.2.1) ∧ RV wd K mg r H kv.2 x.2.2) ∧ RNV wd K mg r H kvs ws := by
  unfold RNV
  simp only [List.map_cons, List.cons.injEq, RVs_cons, List.mem_cons, forall_eq_or_imp]
  constructor
  · rintro ⟨⟨h1, h2⟩, ⟨h3, h4⟩, ⟨v1, t1, e1, h5, h6⟩, ⟨v2, t2, e2, h7, h8⟩⟩
    obtain ⟨rfl, rfl⟩ := e1
    obtain ⟨rfl, rfl⟩ := e2
    exact ⟨⟨h1, h3, h5, h7⟩, h2, h4, h6, h8⟩
  · rintro ⟨⟨h1, h3, h5, h7⟩, h2, h4, h6, h8⟩
    exact ⟨⟨h1, h2⟩, ⟨h3, h4⟩, ⟨_, _, ⟨rfl, rfl⟩, h5, h6⟩, ⟨_, _, ⟨rfl, rfl⟩, h7, h8⟩⟩
theorem RNV.len {kvs : List (IV × IV)} {ws : List (NestedKey × Addr × V)} (q : RNV wd K mg r H kvs ws) : kvs.length = ws.length := by
  have := congrArg List.length q.1
  simpa using this
theorem RNV.get (hy : nk y = some k) : ∀ {kvs : List (IV × IV)} {ws : List (NestedKey × Addr × V)}, RNV wd K mg r H kvs ws → (getN kvs y = none → getW ws k = none) ∧ ∀ x, getN kvs y = some x → ∃ v, getW ws k = some v ∧ RV wd K mg r H x v
  | [], [], _ => ⟨fun _ => rfl, fun x e => by cases e⟩
  | [], _ :: _, q => by have := q.len; simp at this
  | _ :: _, [], q => by have := q.len; simp at this
  | kv :: kvs, x :: ws, q => by
    obtain ⟨⟨h1, h2, h3, h4⟩, q'⟩ := RNV.cons_iff.mp q
    have ih := RNV.get hy q'
    have e := keq_ok kv.1 y x.1 k h1 hy
    unfold getN getW
    simp only [List.find?_cons, e]
    by_cases hk : x.1 = k
    · simp only [hk, decide_true]
      exact ⟨fun z => by simp at z, fun z hz => by simp at hz; subst hz; exact ⟨_, rfl, h4⟩⟩
    · simp only [hk, decide_false]
      exact ih
theorem RNV.any (hy : nk y = some k) : ∀ {kvs : List (IV × IV)} {ws : List (NestedKey × Addr × V)}, RNV wd K mg r H kvs ws → (kvs.any fun kv => keq kv.1 y) = ws.any fun x => decide (x.1 = k)
  | [], [], _ => rfl
  | [], _ :: _, q => by have := q.len; simp at this
  | _ :: _, [], q => by have := q.len; simp at this
  | kv :: kvs, x :: ws, q => by
    obtain ⟨⟨h1, h2, h3, h4⟩, q'⟩ := RNV.cons_iff.mp q
    rw [List.any_cons, List.any_cons, keq_ok kv.1 y x.1 k h1 hy, RNV.any hy q']
theorem RNV.repl (hy : nk y = some k) (hz : RV wd K mg r H z v) : ∀ {kvs : List (IV × IV)} {ws : List (NestedKey × Addr × V)}, RNV wd K mg r H kvs ws → RNV wd K mg r H (kvs.map fun kv => if keq kv.1 y = true then (kv.1, z) else kv) (ws.map fun x => if x.1 = k then (x.1, x.2.1, v) else x)
  | [], [], q => q
  | [], _ :: _, q => by have := q.len; simp at this
  | _ :: _, [], q => by have := q.len; simp at this
  | kv :: kvs, x :: ws, q => by
    obtain ⟨⟨h1, h2, h3, h4⟩, q'⟩ := RNV.cons_iff.mp q
    have e := keq_ok kv.1 y x.1 k h1 hy
    rw [List.map_cons, List.map_cons]
    refine RNV.cons_iff.mpr ⟨?_, RNV.repl hy hz q'⟩
    by_cases hk : x.1 = k
    · rw [e, if_pos hk, if_pos (decide_eq_true hk)]; exact ⟨h1, h2, h3, hz⟩
    · rw [e, if_neg hk, if_neg (by simp [hk])]; exact ⟨h1, h2, h3, h4⟩
theorem RNV.snoc (hy : nk y = some k) (hd : k.depth ≤ 8) (ha : RV wd K mg r H y (.ref a)) (hz : RV wd K mg r H z v) : ∀ {kvs : List (IV × IV)} {ws : List (NestedKey × Addr × V)}, RNV wd K mg r H kvs ws → RNV wd K mg r H (kvs ++ [(y, z)]) (ws ++ [(k, a, v)])
  | [], [], q => RNV.cons_iff.mpr ⟨⟨hy, hd, ha, hz⟩, q⟩
  | [], _ :: _, q => by have := q.len; simp at this
  | _ :: _, [], q => by have := q.len; simp at this
  | kv :: kvs, x :: ws, q => by
    obtain ⟨h, q'⟩ := RNV.cons_iff.mp q
    exact RNV.cons_iff.mpr ⟨h, RNV.snoc hy hd ha hz q'⟩
theorem RNV.put {kvs : List (IV × IV)} {ws : List (NestedKey × Addr × V)} (hy : nk y = some k) (hd : k.depth ≤ 8) (ha : RV wd K mg r H y (.ref a)) (hz : RV wd K mg r H z v) (q : RNV wd K mg r H kvs ws) : RNV wd K mg r H (putN kvs y z) (putW ws k a v) := by
  unfold putN putW
  rw [q.any hy]
  split
  · exact q.repl hy hz
  · exact q.snoc hy hd ha hz
theorem RNV.mem {kvs : List (IV × IV)} {ws : List (NestedKey × Addr × V)} (q : RNV wd K mg r H kvs ws) : ∀ x ∈ ws, ∃ y, nk y = some x.1 ∧ RV wd K mg r H y (.ref x.2.1) ∧ x.1.depth ≤ 8 := by
  induction ws generalizing kvs with
  | nil => intro x hx; simp at hx
  | cons w ws ih =>
    cases kvs with
    | nil => have := q.len; simp at this
    | cons kv kvs =>
      obtain ⟨⟨h1, h2, h3, h4⟩, q'⟩ := RNV.cons_iff.mp q
      intro x hx
      rcases List.mem_cons.mp hx with rfl | hx
      · exact ⟨kv.1, h1, h3, h2⟩
      · exact ih q' x hx
end
end Hs
end

section
set_option Elab.async false
set_option linter.all false
set_option maxRecDepth 100000
set_option maxHeartbeats 4000000
namespace Hs
open PySem L2 PyProof.Rows

/-! ### nested keys in the machine's heap -/
section
variable {X : Cx} {pins : List (Addr × Obj)} {σ : L2.St} {H : Hp} {s : Shared} {r : List Addr}
mutual
theorem nk_is (I : Inv X pins σ H s) : ∀ (x : IV) (v : V) (u : Value) (k : NestedKey), nk x = some k → RV X.wd X.K X.mg r H x v → RelV v u → NestedIs s.heap k u
  | .non, v, u, k, e, q, ru => by
    rw [RV_non] at q; subst q; simp [nk] at e; subst e
    cases (show u = Value.none from ru); exact .none
  | .bl b, v, u, k, e, q, ru => by
    rw [RV_bl] at q; subst q; simp [nk] at e; subst e
    cases (show u = Value.bool b from ru); exact .bool rfl
  | .int i, v, u, k, e, q, ru => by
    rw [RV_int] at q; subst q; simp [nk] at e; subst e
    obtain ⟨t, hu⟩ := (show ∃ t, u = Value.int i t from ru); subst hu; exact .int i t
  | .str x, v, u, k, e, q, ru => by
    rw [RV_str] at q; subst q; simp [nk] at e; subst e
    obtain ⟨t, hu⟩ := (show ∃ t, u = Value.str x t from ru); subst hu; exact .text x t
  | .tup xs, v, u, k, e, q, ru => by
    simp only [nk, Option.map_eq_some_iff] at e
    obtain ⟨ks, e1, rfl⟩ := e
    obtain ⟨a, vs, rfl, q1, q2⟩ := RV_tup.mp q
    cases (show u = Value.ref a from ru)
    obtain ⟨its, rel, ⟨o, ho, hc, n, hd⟩, _⟩ := I.tuple q1.sq
    exact .tup ho hc hd (by simpa using nks_are I xs vs its ks e1 q2 rel)
  | .lst _, _, _, _, e, _, _ => by simp [nk] at e
  | .frl _, _, _, _, e, _, _ => by simp [nk] at e
  | .obj _ _, _, _, _, e, _, _ => by simp [nk] at e
  | .st _, _, _, _, e, _, _ => by simp [nk] at e
  | .ref _, _, _, _, e, _, _ => by simp [nk] at e
theorem nks_are (I : Inv X pins σ H s) : ∀ (xs : List IV) (vs : List V) (us : List Value) (ks : List NestedKey), nks xs = some ks → RVs X.wd X.K X.mg r H xs vs → Vals vs us → NestedAll s.heap ks us
  | [], vs, us, ks, e, q, ru => by
    rw [RVs_nil] at q; subst q; simp [nks] at e; subst e
    cases ru; exact .nil
  | x :: xs, vs, us, ks, e, q, ru => by
    simp only [nks] at e
    split at e
    · rename_i k ks' e1 e2
      cases e
      obtain ⟨v, t, rfl, q1, q2⟩ := RVs_cons.mp q
      cases ru with
      | cons r1 r2 => exact .cons (nk_is I x v _ k e1 q1 r1) (nks_are I xs t _ ks' e2 q2 r2)
    · cases e
end
end
/-- what stands at a key: the dict, the key, what is found -/
def NRd (wd : Wd) (K : PySem.W.Frag) (mg : Str → Option Value) (H : Hp) (d y : V) (o : Option V) : Prop :=
  ∃ (a b : Addr) (r : List Addr) (kvs : List (IV × IV)) (ws : List (NestedKey × Addr × V)) (iy : IV) (k : NestedKey), d = .ref a ∧ y = .ref b ∧ Rd H a (DN wd.w a ws) ∧ RNV wd K mg r H kvs ws ∧ nk iy = some k ∧ k.depth ≤ 8 ∧ RV wd K mg r H iy (.ref b) ∧ o = getW ws k
section
variable {X : Cx} {pins : List (Addr × Obj)} {σ : L2.St} {H : Hp} {s : Shared} {a : Addr} {A : Around} {E : Value → Shared → Prop}
theorem dn_get {w : World} {ws : List (NestedKey × Addr × V)} (I : Inv X pins σ H s) (e : Rd H a (DN w a ws)) : DNp w a ws s.heap := by
  have := e.ok I.hok
  exact this.1
theorem dn_at {r : List Addr} {kvs : List (IV × IV)} {ws : List (NestedKey × Addr × V)} (I : Inv X pins σ H s) (e : Rd H a (DN X.w a ws)) (q : RNV X.wd X.K X.mg r H kvs ws) :
    (a == sysModules) = false ∧ ws.length ≤ sizeLine ∧ ∃ xs, PW3 ws xs ∧ s.heap.DictOfH (nestedKind X.prog X.w) a xs := by
  obtain ⟨hs, hz, hn, xs, pr, o, es, ep, ho, hx, hd, he⟩ := dn_get I e
  refine ⟨hs, hz, xs, pr, o, es, ep, ho, hx, hd, he, fun x hx' => ?_, by rw [← pw_keys pr]; exact hn⟩
  obtain ⟨i, hi⟩ := List.mem_iff_getElem?.mp hx'
  have hlen : ws.length = xs.length := Paired.length pr
  have hi2 : i < ws.length := by rw [hlen]; exact (List.getElem?_eq_some_iff.mp hi).1
  obtain ⟨b, hb, e1, e2, e3⟩ := paired_get pr (List.getElem?_eq_getElem hi2)
  rw [hi] at hb; cases hb
  obtain ⟨y, f1, f2, f3⟩ := q.mem _ (List.getElem_mem hi2)
  exact ⟨by rw [← e1, ← e2]; exact nk_is I y _ _ _ f1 f2 rfl, by rw [← e1]; exact f3⟩
theorem dn_ok {w : World} {ws : List (NestedKey × Addr × V)} {h : Heap} {P : Program} {H' : Hp} (p : DNp w a ws h) : ObjOk P w H' h a (DN w a ws) := by
  refine ⟨p, ?_, fun h1 h2 q k => ?_⟩
  · obtain ⟨_, _, _, xs, _, o, _, _, ho, _⟩ := p; exact ⟨o, ho⟩
  · obtain ⟨h1', h2', h3, xs, pr, o, es, ep, ho, r⟩ := q
    exact ⟨h1', h2', h3, xs, pr, o, es, ep, k o ho, r⟩
theorem room8 (hu : A.units + 200 < cLine) : (nestedKind X.prog X.w).room A.in1 := by
  show A.in1.units + 8 < cLine
  have : A.in1.units = A.units + 1 := rfl
  omega
theorem nrd_at {d y : V} {o : Option V} (I : Inv X pins σ H s) (g : NRd X.wd X.K X.mg H d y o) : ∃ a b k xs, d = .ref a ∧ y = .ref b ∧ (a == sysModules) = false ∧ xs.length ≤ sizeLine ∧ s.heap.DictOfH (nestedKind X.prog X.w) a xs ∧ (nestedKind X.prog X.w).is s.heap k b ∧ RelO o ((atKey xs k).map (·.2)) := by
  obtain ⟨a, b, r, kvs, ws, iy, k, rfl, rfl, e, q, hk, hd, hb, rfl⟩ := g
  obtain ⟨hs, hz, xs, pr, dd⟩ := dn_at I e q
  exact ⟨a, b, k, xs, rfl, rfl, hs, by rw [← Paired.length pr]; exact hz, dd, ⟨nk_is I iy _ _ _ hk hb rfl, hd⟩, getW_xs pr k⟩
end
section
variable {X : Cx}
abbrev rInN (wd : Wd) (K : PySem.W.Frag) (mg : Str → Option Value) (f : Bool → Bool) : R2 := fun x y H Q => ∃ o, NRd wd K mg H y x o ∧ Q (.bl (f o.isSome)) H
theorem op_inN (hu : X.A.units + 200 < cLine) : OpR X (compareOp .In) (rInN X.wd X.K X.mg id) := by
  intro pins s σ H x y v u Q I rx ry h
  obtain ⟨o, g, q⟩ := h
  obtain ⟨a, b, k, xs, rfl, rfl, hs, hz, dd, hk, ro⟩ := nrd_at I g
  cases (show v = Value.ref b from rx)
  cases (show u = Value.ref a from ry)
  refine wpAny_in_heap (room8 hu) hk hs dd ?_
  have e := ro.isSome_eq
  rw [Option.isSome_map] at e
  rw [← e]
  exact ⟨.bl o.isSome, H, I.tok _, rfl, q⟩
theorem op_notInN (hu : X.A.units + 200 < cLine) : OpR X (compareOp .NotIn) (rInN X.wd X.K X.mg not) := by
  intro pins s σ H x y v u Q I rx ry h
  obtain ⟨o, g, q⟩ := h
  obtain ⟨a, b, k, xs, rfl, rfl, hs, hz, dd, hk, ro⟩ := nrd_at I g
  cases (show v = Value.ref b from rx)
  cases (show u = Value.ref a from ry)
  refine wpAny_notIn_heap (room8 hu) hk hs dd ?_
  have e := ro.isSome_eq
  rw [Option.isSome_map] at e
  rw [← e]
  exact ⟨.bl (!o.isSome), H, I.tok _, rfl, q⟩
abbrev rIxN (wd : Wd) (K : PySem.W.Frag) (mg : Str → Option Value) : R2 := fun x y H Q => ∃ v, NRd wd K mg H x y (some v) ∧ Q v H
theorem pe_nget {o i : Expr} {td ty : TE} {pos : Pos} (hu : X.A.units + 200 < cLine) (ho : PE X o td) (hi : PE X i ty) (hs : NoSl i) : PE X (.Subscript o i pos) (tOp (rIxN X.wd X.K X.mg) td ty) := by
  refine ⟨fun pins s σ H Q I h => subD_of PySem.F.slot_dict_getitem.lookup hs (thn (ho.run pins s σ H _ I h) fun u s1 ⟨x, H1, I1, rx, q1⟩ => thn (hi.run pins s1 σ H1 _ I1 q1) fun iv s2 ⟨y, H2, I2, ry, v, g, q2⟩ => ?_)⟩
  obtain ⟨a, b, k, xs, rfl, rfl, hs, hz, dd, hk, ro⟩ := nrd_at I2 g
  cases (show u = Value.ref a from rx)
  cases (show iv = Value.ref b from ry)
  obtain ⟨w', hw, rw'⟩ := RelO.some_of (v := v) ro
  obtain ⟨p, hp, hp2⟩ := Option.map_eq_some_iff.mp hw
  refine ⟨dd.typeIs, wpAny_getItem_heap (room8 hu) hk dd hp ?_⟩
  rw [hp2]
  exact ⟨v, H2, I2.tok _, rw', q2⟩
/-- d[y] = v -/
abbrev rSetN (wd : Wd) (K : PySem.W.Frag) (mg : Str → Option Value) : TSet := fun o i v H Q => ∃ (a b : Addr) (r : List Addr) (kvs : List (IV × IV)) (ws : List (NestedKey × Addr × V)) (iy : IV) (k : NestedKey),
  o = .ref a ∧ i = .ref b ∧ H a = some (DN wd.w a ws) ∧ RNV wd K mg r H kvs ws ∧ nk iy = some k ∧ k.depth ≤ 8 ∧ RV wd K mg r H iy (.ref b) ∧ ws.length < sizeLine ∧ Q (upd H a (DN wd.w a (putW ws k b v)))
theorem dn_put {pins : List (Addr × Obj)} {σ : L2.St} {H : Hp} {s : Shared} {a b : Addr} {h' : Heap} {t' : Nat} {ws : List (NestedKey × Addr × V)} {xs : List (NestedKey × Addr × Value)} {k : NestedKey} {v : V} {u : Value} (I : Inv X pins σ H s) (ha : H a = some (DN X.w a ws)) (hs : (a == sysModules) = false) (hl : ws.length < sizeLine) (pr : PW3 ws xs) (rv : RelV v u)
    (dd : h'.DictOfH (nestedKind X.prog X.w) a (storedH xs k b u)) (sb : Heap.SameBut a s.heap h') : Inv X pins σ (upd H a (DN X.w a (putW ws k b v))) { s with heap := h', toks := t' } := by
  obtain ⟨o, es, ep, ho, hx, hd, he, _, hn⟩ := dd
  have pr' := putW_xs pr k b rv
  refine d_write I (by rw [ha]; exact True.intro) sb ⟨o, ho⟩ (dn_ok ⟨hs, ?_, by rw [pw_keys pr']; exact hn, _, pr', o, es, ep, ho, hx, hd, he⟩)
  have := putW_len ws k b v
  omega
theorem set_nest (hu : X.A.units + 200 < cLine) : PSet X (rSetN X.wd X.K X.mg) := by
  intro pins s σ H o i v ov iv u Q I ro ri rv h
  obtain ⟨a, b, r, kvs, ws, iy, k, rfl, rfl, ha, q, hk, hd, hb, hl, hq⟩ := h
  cases (show ov = Value.ref a from ro)
  cases (show iv = Value.ref b from ri)
  obtain ⟨hs, hz, xs, pr, dd⟩ := dn_at I (.inl ha) q
  refine wpAny_setItem_heap (hsz := by rw [← Paired.length pr]; exact hz) (room8 hu) ⟨nk_is I iy _ _ _ hk hb rfl, hd⟩ dd fun h' dd' sb => ?_
  exact ⟨_, dn_put I ha hs hl pr rv dd' sb, hq⟩
/-- len(d) -/
theorem call_lenN : CallR X (.builtin "len") (fun xs H Q => ∃ a r kvs ws, xs = [V.ref a] ∧ Rd H a (DN X.w a ws) ∧ RNV X.wd X.K X.mg r H kvs ws ∧ Q (.int ws.length) H) := by
  intro pins s σ H xs us Q I r h
  obtain ⟨a, r', kvs, ws, rfl, ha, q, hq⟩ := h
  obtain ⟨u, rfl, ru⟩ := vals1 r
  cases ru
  obtain ⟨hs, hz, xs, pr, dd⟩ := dn_at I ha q
  have e : ws.length = xs.length := Paired.length pr
  refine PySem.call_len_dictH hs dd (by rw [← e]; rw [sizeLine_eq] at hz; omega) ?_
  rw [← e]
  exact ⟨.int ws.length, H, I.tok _, ⟨_, rfl⟩, hq⟩
/-- {} -/
theorem dn_empty {P : Program} {w : World} {H : Hp} (h : Heap) (hb : sysModules < h.objs.size) : ObjOk P w H (h.push { cls := .type "dict", data := .dict #[] }) h.objs.size (DN w h.objs.size []) :=
  dn_ok ⟨beq_eq_false_iff_ne.mpr (Ne.symm (Nat.ne_of_lt hb)), Nat.zero_le _, List.nodup_nil, [], .nil, _, #[], 0, Heap.get?_push_size _ rfl, ⟨rfl, rfl, rfl⟩, rfl, rfl⟩
theorem pe_dnewN {pos : Pos} : PE X (.Dict [] [] pos) (fun _ H Q => ∀ p, H p = none → Q (.ref p) (upd H p (DN X.w p []))) := ⟨fun pins s σ H Q I h =>
  wpAny_Dict_empty ⟨.ref s.heap.objs.size, _, I.laid (a := s.heap.objs.size) (o := DN X.w s.heap.objs.size []) (t' := s.toks) (fun _ _ q => Heap.get?_push_of_some _ q) (Nat.le_refl _) (dn_empty s.heap I.big), rfl, h _ (I.hok.fresh (Nat.le_refl _))⟩⟩
end

/-! ### mirrors -/
def dcnOf (h : Hv) : IV → Option (List (IV × IV)) | .ref n => (match h[n]? with | some (.dcn kvs) => some kvs | some (.dnl kvs) => some kvs | _ => none) | _ => none
def isTupI : IV → Bool | .tup _ => true | _ => false
section
variable {wd : Wd} {K : PySem.W.Frag} {mg : Str → Option Value} {r : List Addr} {H : Hp} {h : Hv} {x y : IV} {v u : V}
theorem dcnOf_ok {kvs : List (IV × IV)} (S : HSim wd K mg r h H) (e : dcnOf h x = some kvs) (q : RV wd K mg r H x v) : ∃ n a ws, x = .ref n ∧ r[n]? = some a ∧ v = .ref a ∧ lstOf h x = none ∧ dctOf h x = none ∧ Rd H a (DN wd.w a ws) ∧ RNV wd K mg r H kvs ws := by
  cases x with
  | ref n =>
    obtain ⟨a, e1, e2⟩ := RV_ref.mp q
    obtain ⟨o, e3, e4⟩ := S.get e2
    simp only [dcnOf, e3] at e
    cases o with
    | dcn ks =>
      cases e
      obtain ⟨ws, e5, e6⟩ := e4
      exact ⟨n, a, ws, rfl, e2, e1, by simp only [lstOf, e3], by simp only [dctOf, e3], .inl e5, e6⟩
    | dnl ks =>
      cases e
      obtain ⟨o, ws, e5, e6⟩ := e4
      exact ⟨n, a, ws, rfl, e2, e1, by simp only [lstOf, e3], by simp only [dctOf, e3], .inr ⟨o, e5⟩, e6⟩
    | _ => cases e
  | _ => cases e
theorem key_ref (t : isTupI y = true) (q : RV wd K mg r H y v) : ∃ b, v = .ref b := by
  cases y <;> simp [isTupI] at t
  obtain ⟨a, vs, rfl, _⟩ := RV_tup.mp q
  exact ⟨a, rfl⟩
theorem nrd_of {kvs : List (IV × IV)} (S : HSim wd K mg r h H) (e : dcnOf h x = some kvs) (t : isTupI y = true) (hk : kd 8 y = true) (q : RV wd K mg r H x v) (p : RV wd K mg r H y u) :
    ∃ o, NRd wd K mg H v u o ∧ (getN kvs y = none → o = none) ∧ ∀ z, getN kvs y = some z → ∃ w, o = some w ∧ RV wd K mg r H z w := by
  obtain ⟨n, a, ws, rfl, _, rfl, _, _, f1, f2⟩ := dcnOf_ok S e q
  obtain ⟨b, rfl⟩ := key_ref t p
  obtain ⟨k, g1, g2⟩ := kd_nk 8 y hk
  have := f2.get g1
  exact ⟨_, ⟨a, b, r, kvs, ws, y, k, rfl, rfl, f1, f2, g1, g2, p, rfl⟩, this.1, this.2⟩
end
def nestB (x y : IV) (h : Hv) : Option Bool := match dcnOf h y with | some kvs => if kd 8 x = true then some (getN kvs x).isSome else none | none => none
def inB2 (x y : IV) (h : Hv) : Option Bool := if isTupI x = true then (match nestB x y h with | some b => some b | none => inB x y h) else inB x y h
def inI2 (x y : IV) (h : Hv) : R IV := match inB2 x y h with | some k => .ok (.bl k) h | none => .bad
def notInI2 (x y : IV) (h : Hv) : R IV := match inB2 x y h with | some k => .ok (.bl (!k)) h | none => .bad
section
variable {X : Cx}
abbrev aIn2 (X : Cx) (f : Bool → Bool) : R2 := fun x y H Q => aIn X.K f x y H Q ∨ rInN X.wd X.K X.mg f x y H Q
theorem r_in2 (hu : X.A.units + 200 < cLine) : OpR X (compareOp .In) (aIn2 X id) := (r_in hu).or (op_inN hu)
theorem r_notIn2 (hu : X.A.units + 200 < cLine) : OpR X (compareOp .NotIn) (aIn2 X not) := (r_notIn hu).or (op_notInN hu)
theorem inB2_go {f : Bool → Bool} {r : List Addr} {h : Hv} {H : Hp} {x y : IV} {v u : V} {Q : VK} {k : Bool} (S : HSim X.wd X.K X.mg r h H) (q1 : RV X.wd X.K X.mg r H x v) (q2 : RV X.wd X.K X.mg r H y u) (e : inB2 x y h = some k) (q : Q (.bl (f k)) H) : aIn2 X f v u H Q := by
  unfold inB2 at e
  split at e
  · rename_i ht
    split at e
    · rename_i b e1
      cases e
      unfold nestB at e1
      split at e1
      · rename_i kvs e2
        split at e1
        · rename_i hk
          cases e1
          obtain ⟨o, g, g1, g2⟩ := nrd_of S e2 ht hk q2 q1
          refine .inr ⟨o, g, ?_⟩
          have : o.isSome = (getN kvs x).isSome := by
            cases e3 : getN kvs x with
            | none => rw [g1 e3]; rfl
            | some z => obtain ⟨w, rfl, _⟩ := g2 z e3; rfl
          rw [this]; exact q
        · cases e1
      · cases e1
    · exact .inl (inB_go S q1 q2 e q)
  · exact .inl (inB_go S q1 q2 e q)
theorem s_in2 : OpS X (aIn2 X id) inI2 := by
  refine ⟨fun r h H x y v u Q W S q1 q2 p => ?_⟩
  unfold inI2 at p
  split at p
  · rename_i k e; exact inB2_go (f := id) S q1 q2 e (p.done S (by simp))
  · exact p.elim
theorem s_notIn2 : OpS X (aIn2 X not) notInI2 := by
  refine ⟨fun r h H x y v u Q W S q1 q2 p => ?_⟩
  unfold notInI2 at p
  split at p
  · rename_i k e; exact inB2_go (f := not) S q1 q2 e (p.done S (by simp))
  · exact p.elim
end
def ixT (x y : IV) (h : Hv) : R IV := match dcnOf h x with | some kvs => if kd 8 y = true then (match getN kvs y with | some v => .ok v h | none => .bad) else .bad | none => .bad
def ixA (x y : IV) (h : Hv) : R IV := if isTupI y = true then ixT x y h else ixI x y h
section
variable {X : Cx} {W : WX} {a b : Expr} {ma mb : ME} {pos : Pos}
theorem sim_sub_ix2 (un : X.A.units + 200 < cLine) (ha : SimE X W a ma) (hb : SimE X W b mb) (hs : PlainIx b := by exact fun _ _ => rfl) : SimE X W (.Subscript a b pos) (bin ixA ma mb) := by
  refine ⟨fun r l h s H Q S p => ?_⟩
  by_cases ht : ∃ x h1 y h2, ma l h = .ok x h1 ∧ mb l h1 = .ok y h2 ∧ isTupI y = true
  · obtain ⟨x, h1, y, h2, e1, e2, ht⟩ := ht
    refine toE (pe_nget un pbE pbE hs) ?_
    refine ha.thn S p fun x' h1' r1 H1 v e1' S1 n1 q1 p1 => ?_
    rw [e1] at e1'; cases e1'
    refine hb.thn S1 p1 fun y' h2' r2 H2 u e2' S2 n2 q2 p2 => ?_
    rw [e2] at e2'; cases e2'
    unfold ixA at p2
    rw [if_pos ht] at p2
    unfold ixT at p2
    split at p2
    · rename_i kvs e3
      split at p2
      · rename_i hk
        split at p2
        · rename_i z e4
          obtain ⟨o, g, _, g2⟩ := nrd_of S2.hs e3 ht hk (RV.mono n2 _ _ q1) q2
          obtain ⟨w, rfl, gw⟩ := g2 z e4
          exact ⟨w, g, p2.done S2.hs gw⟩
        · exact p2.elim
      · exact p2.elim
    · exact p2.elim
  · refine sim_sub_ix un ha hb hs r l h s H Q S ?_
    have : bin ixA ma mb l h = bin ixI ma mb l h := by
      unfold bin bindR
      cases e1 : ma l h with
      | ok x h1 =>
        simp only
        cases e2 : mb l h1 with
        | ok y h2 =>
          simp only
          unfold ixA
          rw [if_neg (fun z => ht ⟨x, h1, y, h2, e1, e2, z⟩)]
        | exc _ _ _ => rfl
        | bad => rfl
      | exc _ _ _ => rfl
      | bad => rfl
    rw [← this]; exact p
end
def putT (x y z : IV) (h : Hv) : Option Hv := match x with
  | .ref n => (match h[n]? with | some (.dcn kvs) => if kd 8 y = true ∧ kvs.length < sizeLine then some (h.set n (.dcn (putN kvs y z))) else none | _ => none)
  | _ => none
def putI2 (x y z : IV) (h : Hv) : Option Hv := if isTupI y = true then putT x y z h else putI x y z h
def putS2 (mo mi mv : ME) : MS := fun l h => bindS (mv l h) l fun z h1 => bindS (mo l h1) l fun x h2 => bindS (mi l h2) l fun y h3 => match putI2 x y z h3 with | some h4 => .ok (.nx l) h4 | none => .bad
section
variable {X : Cx} {W : WX} {o i value : Expr} {mo mi mv : ME} {pos pos' : Pos}
abbrev aSet2 (X : Cx) : TSet := fun o i v H Q => aSet o i v H Q ∨ rSetN X.wd X.K X.mg o i v H Q
theorem set_any2 (hu : X.A.units + 200 < cLine) : PSet X (aSet2 X) := fun pins s σ H o i v ov iv u Q I ro ri rv q => q.elim (set_any (by omega) pins s σ H o i v ov iv u Q I ro ri rv) (set_nest hu pins s σ H o i v ov iv u Q I ro ri rv)
theorem putI2_ok {r : List Addr} {H : Hp} {h h' : Hv} {x y z : IV} {v u w : V} (S : HSim X.wd X.K X.mg r h H) (e : putI2 x y z h = some h') (q : RV X.wd X.K X.mg r H x v) (p : RV X.wd X.K X.mg r H y u) (t : RV X.wd X.K X.mg r H z w) {Q : Hp → Prop}
    (k : ∀ H', Nxt r H r H' → HSim X.wd X.K X.mg r h' H' → Q H') : aSet2 X v u w H Q := by
  unfold putI2 at e
  split at e
  · rename_i ht
    unfold putT at e
    split at e
    · rename_i n
      obtain ⟨a, rfl, ha⟩ := RV_ref.mp q
      split at e
      · rename_i kvs e1
        split at e
        · rename_i hz
          cases e
          obtain ⟨b, rfl⟩ := key_ref ht p
          obtain ⟨key, g1, g2⟩ := kd_nk 8 y hz.1
          obtain ⟨ws, f1, f2⟩ := S.at_ _ _ _ e1 ha
          obtain ⟨n', S'⟩ := S.set (o := DN X.w a (putW ws key b w)) (ob := .dcn (putN kvs y z)) ha (nf_of f1) fun n6 => ⟨_, upd_same, (f2.put g1 g2 p t).mono n6⟩
          exact .inr ⟨a, b, r, kvs, ws, y, key, rfl, rfl, f1, f2, g1, g2, p, by rw [← f2.len]; exact hz.2, k _ n' S'⟩
        · cases e
      · cases e
    · cases e
  · exact .inl (putI_ok S e q p t k)
theorem sim_put2 (C : Cok X W) (ho : SimE X W o mo) (hi : SimE X W i mi) (hv : SimE X W value mv) (hs : swapsWithSole [.Subscript o i pos'] value pos.line X.env = pure false := by rfl) (hw : swappedStores [.Subscript o i pos'] value X.env = pure none := by rfl)
    (h1 : (assignEach [.Subscript o i pos'] X.env).map (·.2) = [assign (.Subscript o i pos') X.env] := by rfl)
    (ha : ∀ v, assign (.Subscript o i pos') X.env v = (do
      let ov ← holding [v] (eval o X.env)
      let iv ← holding [v, ov] (eval i X.env)
      standAt pos'
      holding [v, ov, iv] (setItem ov iv v)
      release [v, ov, iv] []) := by intro _; rfl) : SimS X W (.Assign [.Subscript o i pos'] value pos) (putS2 mo mi mv) := by
  refine ⟨fun r l h s H D S p => ?_⟩
  have un := C.un
  refine toS (ps_asg pbE (pg_sub pbE pbE (set_any2 un) ha) hs hw h1) ?_
  refine hv.thnS S p fun z h1 r1 H1 w _ S1 n1 q1 p1 => ?_
  refine ho.thnS S1 p1 fun x h2 r2 H2 v _ S2 n2 q2 p2 => ?_
  refine hi.thnS S2 p2 fun y h3 r3 H3 u _ S3 n3 q3 p3 => ?_
  split at p3
  · rename_i h4 e4
    exact putI2_ok S3.hs e4 (RV.mono n3 _ _ q2) q3 (RV.mono (n2.trans n3) _ _ q1) fun H' n' S' => p3 r3 H' s n' (S3.next n' S')
  · exact p3.elim
def dnewN : ME := fun _ h => .ok (.ref h.length) (h ++ [.dcn []])
theorem Pst.newN {wd : Wd} {K : PySem.W.Frag} {mg : Str → Option Value} {r : List Addr} {h : Hv} {H : Hp} {p : Addr} {Q : VK} {W : XK} {kvs : List (IV × IV)} {ws : List (NestedKey × Addr × V)} (q : Pst wd K mg (RV wd K mg) r H (.ok (.ref h.length) (h ++ [.dcn kvs])) Q W) (S : HSim wd K mg r h H) (e : RNV wd K mg r H kvs ws) (hp : H p = none) : Q (.ref p) (upd H p (DN wd.w p ws)) := by
  have na := nxt_alloc (o := DN wd.w p ws) S hp
  obtain ⟨n, S'⟩ := S.alloc (o := DN wd.w p ws) (ob := .dcn kvs) hp ⟨ws, upd_same, e.mono na⟩
  exact q _ _ _ n S' (RV_ref.mpr ⟨p, rfl, by rw [← S.len]; simp⟩)
theorem sim_dnewN {pos : Pos} : SimE X W (.Dict [] [] pos) dnewN := ⟨fun r l h s H Q S p => toE pe_dnewN fun D hD => p.newN (ws := []) S.hs RNV.nil hD⟩
/-- {k: v} -/
theorem pe_disp1N {k v : Expr} {tk tv : TE} {pos : Pos} (hu : X.A.units + 200 < cLine) (hk : PE X k tk) (hv : PE X v tv) : PE X (.Dict [some k] [v] pos) (fun σ H Q => ∀ p, H p = none → tk σ (upd H p (DN X.w p [])) fun y H1 => tv σ H1 fun z H2 =>
    ∃ (b : Addr) (r : List Addr) (iy : IV) (j : NestedKey), y = .ref b ∧ H2 p = some (DN X.w p []) ∧ nk iy = some j ∧ j.depth ≤ 8 ∧ RV X.wd X.K X.mg r H2 iy (.ref b) ∧ Q (.ref p) (upd H2 p (DN X.w p [(j, b, z)]))) := by
  refine ⟨fun pins s σ H Q I h => ?_⟩
  have hn := I.hok.fresh (Nat.le_refl s.heap.objs.size)
  have I1 := I.laid (a := s.heap.objs.size) (o := DN X.w s.heap.objs.size []) (h' := s.heap.push { cls := .type "dict", data := .dict #[] }) (t' := s.toks) (fun _ _ q => Heap.get?_push_of_some _ q) (Nat.le_refl _) (dn_empty s.heap I.big)
  refine wpAny_Dict_any rfl rfl (by simp) (by simp) (pairTrees_cons_walk (thn (hk.run pins _ σ _ _ I1 (h _ hn)) fun u s1 ⟨y, H1, I2, ry, q1⟩ => thn (hv.run pins s1 σ H1 _ I2 q1) fun w2 s2 ⟨z, H2, I3, rz, q2⟩ => pairTrees_nil_walk ?_))
  obtain ⟨b, r, iy, j, rfl, ha, e1, e2, e3, q⟩ := q2
  cases (show u = Value.ref b from ry)
  obtain ⟨hs, hz, xs, pr, dd⟩ := dn_at (r := r) (kvs := []) I3 (.inl ha) RNV.nil
  cases pr
  unfold storeAll
  rw [List.forIn_cons]
  refine wpAny_bind (wpAny_bind (wpAny_dictSet_heap (knd := nestedKind X.prog X.w) (hsz := Nat.zero_le _) (show X.A.units + 8 < cLine by omega) ⟨nk_is I3 iy _ _ _ e1 e3 rfl, e2⟩ dd fun h' dd' sb => wpAny_pure ?_))
  show wpAny _ _ (forIn [] _ _) _ _ _
  rw [List.forIn_nil]
  exact wpAny_pure ⟨.ref s.heap.objs.size, _, dn_put (t' := s2.toks + _) I3 ha hs (by decide) .nil rz dd' sb, rfl, q⟩
def disp1N (mk mv : ME) : ME := fun l h => bindR (mk l (h ++ [.dcn []])) fun y h1 => bindR (mv l h1) fun z h2 => match h2[h.length]? with
  | some (.dcn []) => if isTupI y = true ∧ kd 8 y = true then .ok (.ref h.length) (h2.set h.length (.dcn [(y, z)])) else .bad
  | _ => .bad
theorem sim_disp1N {k v : Expr} {mk mv : ME} {pos : Pos} (C : Cok X W) (hk : SimE X W k mk) (hv : SimE X W v mv) : SimE X W (.Dict [some k] [v] pos) (disp1N mk mv) := by
  refine ⟨fun r l h s H Q S p => ?_⟩
  refine toE (pe_disp1N C.un pbE pbE) ?_
  intro D hD
  have na := nxt_alloc (o := DN X.w D []) S.hs hD
  obtain ⟨_, S1⟩ := S.hs.alloc (o := DN X.w D []) (ob := .dcn []) hD ⟨[], upd_same, RNV.nil⟩
  have hn : (r ++ [D])[h.length]? = some D := by rw [← S.hs.len]; simp
  refine hk.thn (S.next na S1) (Pst.mono p na) fun y h1 r1 H1 u _ S2 n1 q1 p1 => ?_
  refine hv.thn S2 p1 fun z h2 r2 H2 w _ S3 n2 q2 p2 => ?_
  split at p2
  · rename_i e2
    split at p2
    · rename_i hz
      have q1' := RV.mono n2 _ _ q1
      obtain ⟨b, rfl⟩ := key_ref hz.1 q1'
      obtain ⟨key, g1, g2⟩ := kd_nk 8 y hz.2
      have hD2 : r2[h.length]? = some D := (n1.trans n2).get hn
      obtain ⟨ws, f1, f2⟩ := S3.hs.at_ _ _ _ e2 hD2
      have hw : ws = [] := List.eq_nil_of_length_eq_zero f2.len.symm
      subst hw
      refine ⟨b, r2, y, key, rfl, f1, g1, g2, q1', ?_⟩
      obtain ⟨n3, S4⟩ := S3.hs.set (o := DN X.w D [(key, b, w)]) (ob := .dcn [(y, z)]) hD2 (nf_of f1) fun n6 => ⟨_, upd_same, (RNV.cons_iff.mpr ⟨⟨g1, g2, q1', q2⟩, RNV.nil⟩ : RNV X.wd X.K X.mg r2 H2 [(y, z)] [(key, b, w)]).mono n6⟩
      exact p2 r2 _ _ n3 S4 (RV_ref.mpr ⟨D, rfl, hD2⟩)
    · exact p2.elim
  · exact p2.elim
end
end Hs
end

section
set_option Elab.async false
set_option linter.all false
set_option maxRecDepth 100000
set_option maxHeartbeats 4000000
namespace Hs
open PySem L2 PyProof.Rows PySem.Spec

/-! ### {k: v for ..} into a table of any description: `new D` says what the empty one is, `Pt` what a store asks -/
abbrev PutK := Addr → V → V → Hp → (Hp → Prop) → Prop
def tDcX (new : Addr → HO) (Pt : PutK) (wi : TI) (g : TG) (tt : TT) (tk tv : TE) (vs : List Nat) : TE := fun σ H Q => wi σ H fun J H1 => ∀ D, H1 D = none → ∃ W : Nat → Nat → Hp → Prop, (∃ m, W 0 m (upd H1 D (new D))) ∧ ∀ i m H, W i m H →
  (J.stop i H ∧ Q (.ref D) H) ∨ (J.go i H ∧ ∃ Nx : Hp → Prop, (∀ H', Nx H' → ∃ m', m' < m ∧ W (i + 1) m' H') ∧ ∀ x H', J.yld i H x H' → g x (L2.wipe σ vs) H' fun σ2 H2 => L2.wipe σ2 vs = L2.wipe σ vs ∧ tt σ2 H2 fun b H3 =>
    if b = true then tk σ2 H3 fun y H4 => tv σ2 H4 fun z H5 => Pt D y z H5 Nx else Nx H3)
section
variable {X : Cx}
/-- a store in the machine, in a context that differs from X by its names alone -/
def StoreOk (X : Cx) (Pt : PutK) : Prop := ∀ (Y : Cx), Y.prog = X.prog → Y.w = X.w → Y.K = X.K → Y.mg = X.mg → Y.A = X.A → ∀ (pins : List (Addr × Obj)) (σ : L2.St) (H : Hp) (s : Shared) (D : Addr) (y z : V) (u r : Value) (N : Hp → Prop) (E : Value → Shared → Prop),
  Inv Y pins σ H s → RelV y u → RelV z r → Pt D y z H N → wpAny (model X.prog X.w) X.A (dictSet D u r) (fun _ s' => ∃ H', Inv Y pins σ H' s' ∧ N H') E s
theorem pe_dcX {new : Addr → HO} {Pt : PutK} {kx vx tg iter : Expr} {ifs : List Expr} {scope : Scope} {own : List (Str × Nat)} {pos : Pos} {wi : TI} {g : TG} {tt : TT} {tk tv : TE}
    (hnew : ∀ (H : Hp) (h : Heap), sysModules < h.objs.size → ObjOk X.prog X.w H (h.push { cls := .type "dict", data := .dict #[] }) h.objs.size (new h.objs.size)) (hput : StoreOk X Pt)
    (hc : X.calm = true) (hN : X.N.Nodup) (hi : PI X tg iter wi) (ok : BlkOk X.N X.env.scope scope own)
    (hg : ∀ (s : Shared) (H : Hp) (C : Addr) (cl : List (Str × Addr)) (fp : List Addr), PG (X.blk s H scope (compEnvC scope cl C X.env) fp) tg g)
    (ht : ∀ (s : Shared) (H : Hp) (C : Addr) (cl : List (Str × Addr)) (fp : List Addr), PTs (X.blk s H scope (compEnvC scope cl C X.env) fp) ifs tt)
    (hk : ∀ (s : Shared) (H : Hp) (C : Addr) (cl : List (Str × Addr)) (fp : List Addr), PE (X.blk s H scope (compEnvC scope cl C X.env) fp) kx tk)
    (he : ∀ (s : Shared) (H : Hp) (C : Addr) (cl : List (Str × Addr)) (fp : List Addr), PE (X.blk s H scope (compEnvC scope cl C X.env) fp) vx tv) (hs : ∀ x, foldedSetIterable iter X.env x = pure x) :
    PE X (.DictComp kx vx [⟨tg, iter, ifs, 0⟩] scope pos) (tDcX new Pt wi g tt tk tv (own.map (·.2))) := by
  refine ⟨fun pins s σ H Q I h => ?_⟩
  rw [arm_eval_DictComp]
  have cells : ∀ y ∈ scope.names, y.2 = .free → ∃ c, X.env.cells.lookup y.1 = some c := by
    intro y hy e
    exact (ok.free y hy e).elim (fun k => I.ok.has _ (.inl k)) fun k => I.ok.has _ (.inr k)
  refine wpAny_comprehension_free (use := none) rfl hs (closure_ok cells) ok.kind (fun y hy e => by rw [ok.uniq y hy, e]) (thn (hi.run pins s σ H _ I h) fun xv sA hA => thn hA fun itv sB hB => ?_)
  obtain ⟨it, fp, tn, J, HB, rfl, IB, T, stB, fB, q⟩ := hB
  refine wpAny_newObj_type (newEnv_comp ?_)
  obtain ⟨D, hD⟩ : ∃ D, sB.heap.objs.size = D := ⟨_, rfl⟩
  rw [hD]
  obtain ⟨W, ⟨m0, w0⟩, turn⟩ := q D (IB.hok.fresh (Nat.le_of_eq hD))
  obtain ⟨sC, hC⟩ : ∃ z : Shared, ({ sB with heap := sB.heap.push { cls := .type "dict", data := .dict #[] } } : Shared) = z := ⟨_, rfl⟩
  have heapC : sC.heap = sB.heap.push { cls := .type "dict", data := .dict #[] } := by rw [← hC]
  have IC : Inv X pins σ (upd HB D (new D)) sC := by
    rw [← hC]
    refine IB.laid (t' := sB.toks) (fun b o e => Heap.get?_push_of_some _ e) (Nat.le_of_eq hD) ?_
    subst hD
    exact hnew _ _ IB.big
  have below : ∀ b ∈ fp, b < sB.heap.objs.size := fun b hb => by
    obtain ⟨o, e, _⟩ := T.obj _ _ stB b hb
    exact Heap.lt_size e
  have fC : ∀ b ∈ fp, FpOk X pins (upd HB D (new D)) b ∧ b < sC.heap.objs.size := fun b hb => by
    have hlt := below b hb
    refine ⟨⟨?_, (fB b hb).2⟩, by rw [heapC, Heap.size_push]; exact Nat.lt_succ_of_lt hlt⟩
    rw [upd_ne (by subst hD; exact Nat.ne_of_lt hlt)]
    exact (fB b hb).1
  have stC : tn 0 sC.heap := T.keep _ _ _ stB fun b _ o e => by rw [heapC]; exact Heap.get?_push_of_some _ e
  have ID := block_start IC ok hN fC
  have pg := hg sC (upd HB D (new D)) sC.heap.objs.size (cellsFrom (sC.heap.objs.size + 1) scope.names (cloFrom X.env.cells scope.names [])) fp
  have pt := ht sC (upd HB D (new D)) sC.heap.objs.size (cellsFrom (sC.heap.objs.size + 1) scope.names (cloFrom X.env.cells scope.names [])) fp
  have pk := hk sC (upd HB D (new D)) sC.heap.objs.size (cellsFrom (sC.heap.objs.size + 1) scope.names (cloFrom X.env.cells scope.names [])) fp
  have pe := he sC (upd HB D (new D)) sC.heap.objs.size (cellsFrom (sC.heap.objs.size + 1) scope.names (cloFrom X.env.cells scope.names [])) fp
  have nfp : ∀ b ∈ fp, (upd HB D (new D)) b = none := fun b hb => (fC b hb).1.1
  rw [hC]
  show codeAny _ _ (.compStart (.DictComp kx vx [⟨tg, iter, ifs, 0⟩] scope pos) 0 (.ref it) (.ref D) (compEnvC scope (cellsFrom (sC.heap.objs.size + 1) scope.names (cloFrom X.env.cells scope.names [])) sC.heap.objs.size X.env)) (compPost (model X.prog X.w) X.A X.xe none (EP X pins σ Q) (.ref D) sC.heap.objs.size) _
  generalize hce : compEnvC scope (cellsFrom (sC.heap.objs.size + 1) scope.names (cloFrom X.env.cells scope.names [])) sC.heap.objs.size X.env = ce at ID pg pt pk pe ⊢
  have cL : ce.locals = sC.heap.objs.size := by subst hce; rfl
  generalize hHC : upd HB D (new D) = HC at IC ID pg pt pk pe w0 nfp fC
  generalize hsD : ({ sC with heap := pushCells (sC.heap.push { cls := .type "dict", data := .dict #[] }) scope.names } : Shared) = sD at ID ⊢
  have stD : tn 0 sD.heap := T.keep _ _ _ stC fun b _ o e => by rw [← hsD]; exact pushCells_keeps _ _ _ _ (Heap.get?_push_of_some _ e)
  have own1 : ∀ {σ' : L2.St} {H' : Hp} {s' : Shared}, Inv (X.blk sC HC scope ce fp) [] σ' H' s' → (∀ b ∈ fp, H' b = none) → ∀ b ∈ fp, FpOk (X.blk sC HC scope ce fp) [] H' b := fun {σ' H' s'} I' hn b hb =>
    ⟨hn b hb, (I'.ok.exf b hb).1, I'.ok.exfs b hb, .inl hb, fun x c e => (I'.ok.exf b hb).2 x c e, fun p hp => absurd (show p ∈ ([] : List (Addr × Obj)) ++ [] from hp) (by simp)⟩
  have loop : codeAny (model X.prog X.w) X.A (.compLoop (.DictComp kx vx [⟨tg, iter, ifs, 0⟩] scope pos) 0 (.ref it) (.ref D) ce) (compPost (model X.prog X.w) X.A X.xe none (EP X pins σ Q) (.ref D) sC.heap.objs.size) sD := by
    refine compLoop_anyD (fun n s' => ∃ i H', Inv (X.blk sC HC scope ce fp) [] (L2.wipe σ (own.map (·.2))) H' s' ∧ tn i s'.heap ∧ (∀ b ∈ fp, H' b = none) ∧ W i n H') ?_ m0 ⟨0, HC, ID, stD, nfp, w0⟩
    rintro n s5 ⟨i, H5, I5, st5, n5, w5⟩
    rcases turn i n H5 w5 with ⟨stop, qq⟩ | ⟨go, Nx, hNx, step⟩
    · refine thnF (T.done (X.blk sC HC scope ce fp) rfl rfl rfl hc i [] s5 _ H5 (fun _ _ => False) I5 (own1 I5 n5) st5 stop) fun r s6 ⟨hr, I6⟩ => ?_
      subst hr
      have I7 : Inv X pins σ H5 s6 := IC.call' (ch := fp) I6.os I6.base I6.hok I6.bare fun b hb => ⟨(fC b hb).1.2.2.2.1, (fC b hb).1.2.1, (fC b hb).1.2.2.2.2.1, (fC b hb).1.2.2.2.2.2⟩
      have nC : H5 sC.heap.objs.size = none := by
        have z : H5 ce.locals = none := I6.free
        rwa [cL] at z
      obtain ⟨m, hn, _⟩ := I6.loc
      have hn : s6.heap.Ns ce.locals m := hn
      rw [cL] at hn
      obtain ⟨g0, g1, g2, g3, g4, g5⟩ := IC.fpOk (Nat.le_refl _) nC
      exact ⟨m, hn, fun h'' sb => ⟨.ref D, H5, I7.turned (t' := s6.toks) (fun b o hb e => (sb.2 b hb).trans e) g0 g1 g3 g4 g5, rfl, qq⟩⟩
    · refine thnF (T.item (X.blk sC HC scope ce fp) rfl rfl rfl hc i [] s5 _ H5 (fun _ _ => False) I5 (own1 I5 n5) st5 go) fun r s6 ⟨u, hr, h6⟩ => ?_
      subst hr
      refine thnF h6 fun _ s7 ⟨x, H7, I7, r7, y7, st7, n7⟩ => ?_
      have I7' := I7.pinned (own1 I7 n7) (T.obj _ _ st7)
      refine thnF (pg.run _ s7 _ H7 x u _ I7' r7 (step x H7 y7)) fun _ s8 ⟨σ8, H8, I8, hw8, q8⟩ => thnF (pt.run _ s8 σ8 H8 _ I8 q8) fun b s9 ⟨H9, I9, q9⟩ => ?_
      have next : ∀ {s' : Shared} {H' : Hp}, Inv (X.blk sC HC scope ce fp) ([] ++ pinsAt fp s7.heap) σ8 H' s' → Nx H' → ∃ m, m < n ∧ ∃ i H', Inv (X.blk sC HC scope ce fp) [] (L2.wipe σ (own.map (·.2))) H' s' ∧ tn i s'.heap ∧ (∀ b ∈ fp, H' b = none) ∧ W i m H' := by
        intro s' H' I' nx
        obtain ⟨m', hm, w'⟩ := hNx H' nx
        have held : ∀ b ∈ fp, ∀ o, s7.heap.get? b = some o → s'.heap.get? b = some o ∧ H' b = none := fun b hb o e =>
          (I'.pin (b, o) (List.mem_append_right _ (List.mem_append_right _ (mem_pinsAt hb e)))).imp id And.left
        have hl : (L2.wipe σ (own.map (·.2))).length = σ8.length := by rw [← hw8, wipe_length]
        refine ⟨m', hm, i + 1, H', (I'.unpinned (pins := [])).weak hl (fun j v e => ?_), T.keep _ _ _ st7 fun b hb o e => (held b hb o e).1, fun b hb => ?_, w'⟩
        · rw [← hw8] at e
          exact (wipe_some e).1
        · obtain ⟨o, e, _⟩ := T.obj _ _ st7 b hb
          exact (held b hb o e).2
      cases b with
      | false =>
        simp only [Bool.false_eq_true, if_false] at q9 ⊢
        exact next I9 q9
      | true =>
        simp only [if_true] at q9 ⊢
        refine thnF (pk.run _ s9 σ8 H9 _ I9 q9) fun z s10 ⟨yk, H10, I10, r10, q10⟩ => thnF (pe.run _ s10 σ8 H10 _ I10 q10) fun z2 s11 ⟨yv, H11, I11, r11, st⟩ => ?_
        refine L2.thn (hput (X.blk sC HC scope ce fp) rfl rfl rfl rfl rfl _ σ8 H11 s11 D yk yv z z2 Nx _ I11 r10 r11 st) fun _ s12 ⟨H12, I12, nx⟩ => next I12 nx
  exact codeAny_compStart_dict loop (T.self X.A 0 _ _ _ stD loop)
end

/-! ### nested keys -/
def dcGoN (src : Src) (g : MG) (tt : MB) (mk mv : ME) (l : Loc) (n : Nat) : Nat → Nat → Hv → R IV
  | 0, _, _ => .bad
  | k + 1, i, h => match itemAt src h i with
    | none => .bad
    | some none => .ok (.ref n) h
    | some (some x) => match g x l with
      | none => .bad
      | some l1 => match tt l1 h with
        | .ok true h1 => (match mk l1 h1 with
          | .ok y h2 => (match mv l1 h2 with
            | .ok z h3 => (match h3[n]? with
              | some (.dcn acc) => if isTupI y = true ∧ kd 8 y = true ∧ acc.length < sizeLine then dcGoN src g tt mk mv l n k (i + 1) (h3.set n (.dcn (putN acc y z))) else .bad
              | _ => .bad)
            | _ => .bad)
          | _ => .bad)
        | .ok false h1 => dcGoN src g tt mk mv l n k (i + 1) h1
        | _ => .bad
def dcN (mi : MI) (g : MG) (tt : MB) (mk mv : ME) (own : List Nat) : ME := fun l h => bindR (mi l h) fun src h1 => dcGoN src g tt mk mv (wipeI l own) h1.length (srcLen src h1 + 1) 0 (h1 ++ [.dcn []])
abbrev PtN (wd : Wd) (K : PySem.W.Frag) (mg : Str → Option Value) : PutK := fun D y z H N => rSetN wd K mg (.ref D) y z H N
theorem store_nest {X : Cx} (hu : X.A.units + 200 < cLine) : StoreOk X (PtN X.wd X.K X.mg) := by
  intro Y e1 e2 e3 e4 e5 pins σ H s D y z u r N E I ry rz h
  obtain ⟨a, b, r', kvs, ws, iy, k, ea, rfl, ha, q, hk, hd, hb, hl, hq⟩ := h
  cases ea
  cases (show u = Value.ref b from ry)
  have q' : RNV Y.wd Y.K Y.mg r' H kvs ws := by unfold L2.Cx.wd; rw [e1, e2, e3, e4]; exact q
  have hb' : RV Y.wd Y.K Y.mg r' H iy (.ref b) := by unfold L2.Cx.wd; rw [e1, e2, e3, e4]; exact hb
  have ha' : H D = some (DN Y.w D ws) := by rw [e2]; exact ha
  obtain ⟨hs, hz, xs, pr, dd⟩ := dn_at I (.inl ha') q'
  rw [e1, e2] at dd
  refine wpAny_dictSet_heap (knd := nestedKind X.prog X.w) (hsz := by rw [← Paired.length pr]; exact hz) (show X.A.units + 8 < cLine by omega) ⟨nk_is I iy _ _ _ hk hb' rfl, hd⟩ dd fun h' dd' sb => ?_
  rw [← e1, ← e2] at dd'
  refine ⟨_, dn_put (t' := s.toks + _) I ha' hs hl pr rz dd' sb, ?_⟩
  rw [e2]; exact hq
section
variable {X : Cx} {W : WX} {kx vx tg iter e : Expr} {ifs : List Expr} {scope : Scope} {own : List (Str × Nat)} {pos : Pos} {mi : MI} {g : MG} {tt : MB} {mk mv : ME}
theorem dcN_read {sl : List Nat} (hi : SimI X W tg iter mi) (hsl : ∀ i ∈ sl, i ∈ own.map (·.2))
    (hgi : ∀ (sh : Shared) (H : Hp) (Cc : Addr) (cl : List (Str × Addr)) (fp : List Addr), SimG (X.blk sh H scope (compEnvC scope cl Cc X.env) fp) tg g sl)
    (hti : ∀ (sh : Shared) (H : Hp) (Cc : Addr) (cl : List (Str × Addr)) (fp : List Addr), SimTs (X.blk sh H scope (compEnvC scope cl Cc X.env) fp) ifs tt)
    (hki : ∀ (sh : Shared) (H : Hp) (Cc : Addr) (cl : List (Str × Addr)) (fp : List Addr), SimE (X.blk sh H scope (compEnvC scope cl Cc X.env) fp) WN kx mk)
    (hei : ∀ (sh : Shared) (H : Hp) (Cc : Addr) (cl : List (Str × Addr)) (fp : List Addr), SimE (X.blk sh H scope (compEnvC scope cl Cc X.env) fp) WN vx mv)
    {r : List Addr} {l : Loc} {h : Hv} {s : L2.St} {H : Hp} {Q : VK} (S : Sim X r l h s H) (p : Pst X.wd X.K X.mg (RV X.wd X.K X.mg) r H (dcN mi g tt mk mv (own.map (·.2)) l h) Q (fun c d H' => W c d s H')) :
    tDcX (fun D => DN X.w D []) (PtN X.wd X.K X.mg) (bI X tg iter) (uG X scope tg) (uTs X scope ifs) (uE X scope kx) (uE X scope vx) (own.map (·.2)) s H Q := by
  refine hi r l h s H _ S (p.bind' fun src h1 r1 H1 J _ n1 S1 j1 p1 => ?_)
  intro D hD
  have L1 := S.lo.mono n1
  have na := nxt_alloc (o := DN X.w D []) S1 hD
  obtain ⟨_, S2⟩ := S1.alloc (o := DN X.w D []) (ob := .dcn []) hD ⟨[], upd_same, RNV.nil⟩
  have hn : (r1 ++ [D])[h1.length]? = some D := by rw [← S1.len]; simp
  refine ⟨fun i m H2 => ∃ r2 h2, Nxt r1 H1 r2 H2 ∧ HSim X.wd X.K X.mg r2 h2 H2 ∧ r2[h1.length]? = some D ∧ Pst X.wd X.K X.mg (RV X.wd X.K X.mg) r2 H2 (dcGoN src g tt mk mv (wipeI l (own.map (·.2))) h1.length m i h2) Q (fun c d H' => W c d s H'),
    ⟨_, r1 ++ [D], h1 ++ [.dcn []], na, S2, hn, Pst.mono p1 na⟩, ?_⟩
  rintro i m H2 ⟨r2, h2, n2, S3, hD2, p2⟩
  cases m with
  | zero => exact p2.elim
  | succ k =>
    have J2 := j1 r2 h2 H2 i n2 S3
    simp only [dcGoN] at p2
    cases e1 : itemAt src h2 i with
    | none => rw [e1] at p2; exact p2.elim
    | some o =>
      cases o with
      | none =>
        rw [e1] at p2 J2
        exact .inl ⟨J2, p2.done S3 (RV_ref.mpr ⟨D, rfl, hD2⟩)⟩
      | some x =>
        rw [e1] at p2 J2
        simp only at p2 J2
        obtain ⟨J3, J4⟩ := J2
        refine .inr ⟨J3, fun H' => ∃ r2 h2, Nxt r1 H1 r2 H' ∧ HSim X.wd X.K X.mg r2 h2 H' ∧ r2[h1.length]? = some D ∧ Pst X.wd X.K X.mg (RV X.wd X.K X.mg) r2 H' (dcGoN src g tt mk mv (wipeI l (own.map (·.2))) h1.length k (i + 1) h2) Q (fun c d H' => W c d s H'),
          fun H' q => ⟨k, Nat.lt_succ_self k, q⟩, fun v H3 hy => ?_⟩
        obtain ⟨n3, S4, q3⟩ := J4 v H3 hy
        have Sw : Sim X r2 (wipeI l (own.map (·.2))) h2 (L2.wipe s (own.map (·.2))) H3 := ⟨S4, (L1.mono (n2.trans n3)).wipe _⟩
        cases e2 : g x (wipeI l (own.map (·.2))) with
        | none => rw [e2] at p2; exact p2.elim
        | some l1 =>
          rw [e2] at p2
          simp only at p2
          intro sh H0 Cc cl fp
          refine hgi sh H0 Cc cl fp r2 _ h2 _ H3 x v l1 _ Sw.blk q3 e2 fun s3 S5 o5 => ?_
          refine ⟨o5.wipe hsl, ?_⟩
          have p3 := Pst.mono p2 n3
          intro sh' H0' Cc' cl' fp'
          cases e3 : tt l1 h2 with
          | bad => rw [e3] at p3; exact p3.elim
          | exc _ _ _ => rw [e3] at p3; exact p3.elim
          | ok b h3 =>
            rw [e3] at p3
            refine hti sh' H0' Cc' cl' fp' r2 l1 h2 s3 H3 _ ⟨S5.hs, S5.lo⟩ ?_
            rw [e3]
            intro r4 H4 b' n4 S6 eb
            cases eb
            have p4 : Pst X.wd X.K X.mg (RV X.wd X.K X.mg) r4 H4 _ Q _ := Pst.mono p3 n4
            cases b with
            | false =>
              rw [if_neg Bool.false_ne_true]
              exact ⟨r4, h3, (n2.trans n3).trans n4, S6, n4.get hD2, p4⟩
            | true =>
              rw [if_pos rfl]
              intro sh2 H02 Cc2 cl2 fp2
              simp only at p4
              cases e4 : mk l1 h3 with
              | bad => rw [e4] at p4; exact p4.elim
              | exc _ _ _ => rw [e4] at p4; exact p4.elim
              | ok y h4 =>
                rw [e4] at p4
                refine hki sh2 H02 Cc2 cl2 fp2 r4 l1 h3 s3 H4 _ ⟨S6, S5.lo.mono n4⟩ ?_
                rw [e4]
                intro r5 H5 u n5 S7 qu
                have p5 := Pst.mono p4 n5
                simp only at p5
                intro sh3 H03 Cc3 cl3 fp3
                cases e5 : mv l1 h4 with
                | bad => rw [e5] at p5; exact p5.elim
                | exc _ _ _ => rw [e5] at p5; exact p5.elim
                | ok z h5 =>
                  rw [e5] at p5
                  refine hei sh3 H03 Cc3 cl3 fp3 r5 l1 h4 s3 H5 _ ⟨S7, (S5.lo.mono n4).mono n5⟩ ?_
                  rw [e5]
                  intro r6 H6 u6 n6 S8 qz
                  have p6 := Pst.mono p5 n6
                  simp only at p6
                  have hD6 : r6[h1.length]? = some D := n6.get (n5.get (n4.get hD2))
                  cases e7 : h5[h1.length]? with
                  | none => rw [e7] at p6; exact p6.elim
                  | some ob =>
                    rw [e7] at p6
                    cases ob with
                    | dcn acc =>
                      simp only at p6
                      split at p6
                      · rename_i hz
                        obtain ⟨b6, rfl⟩ := key_ref hz.1 qu
                        obtain ⟨key, g1, g2⟩ := kd_nk 8 y hz.2.1
                        obtain ⟨ws, f1, f2⟩ := S8.at_ _ _ _ e7 hD6
                        have qu' := RV.mono n6 _ _ qu
                        refine ⟨D, b6, r6, acc, ws, y, key, rfl, rfl, f1, f2, g1, g2, qu', by rw [← f2.len]; exact hz.2.2, ?_⟩
                        obtain ⟨n7, S9⟩ := S8.set (o := DN X.w D (putW ws key b6 u6)) (ob := .dcn (putN acc y z)) hD6 (nf_of f1) fun n7 => ⟨_, upd_same, (f2.put g1 g2 qu' qz).mono n7⟩
                        exact ⟨r6, _, ((((n2.trans n3).trans n4).trans n5).trans n6).trans n7, S9, hD6, Pst.mono p6 n7⟩
                      · exact p6.elim
                    | _ => exact p6.elim
theorem sim_dcN {sl : List Nat} (C : Cok X W) (hi : SimI X W tg iter mi) (ok : BlkOk X.N X.env.scope scope own) (hsl : ∀ i ∈ sl, i ∈ own.map (·.2))
    (hgi : ∀ (sh : Shared) (H : Hp) (Cc : Addr) (cl : List (Str × Addr)) (fp : List Addr), SimG (X.blk sh H scope (compEnvC scope cl Cc X.env) fp) tg g sl)
    (hti : ∀ (sh : Shared) (H : Hp) (Cc : Addr) (cl : List (Str × Addr)) (fp : List Addr), SimTs (X.blk sh H scope (compEnvC scope cl Cc X.env) fp) ifs tt)
    (hki : ∀ (sh : Shared) (H : Hp) (Cc : Addr) (cl : List (Str × Addr)) (fp : List Addr), SimE (X.blk sh H scope (compEnvC scope cl Cc X.env) fp) WN kx mk)
    (hei : ∀ (sh : Shared) (H : Hp) (Cc : Addr) (cl : List (Str × Addr)) (fp : List Addr), SimE (X.blk sh H scope (compEnvC scope cl Cc X.env) fp) WN vx mv) (hs : ∀ x, foldedSetIterable iter X.env x = pure x := by intro _; rfl) :
    SimE X W (.DictComp kx vx [⟨tg, iter, ifs, 0⟩] scope pos) (dcN mi g tt mk mv (own.map (·.2))) := .mk fun r l h s H Q S p =>
  toE (pe_dcX (fun H h hb => dn_empty h hb) (store_nest C.un) C.calm C.nd pbI ok (fun sh H0 Cc cl fp => ⟨fun pins s0 s H v u Q I rr hh => hh sh H0 Cc cl fp pins s0 u I rr⟩) (fun sh H0 Cc cl fp => ⟨fun pins s0 s H Q I hh => hh sh H0 Cc cl fp pins s0 I⟩) (fun sh H0 Cc cl fp => ⟨fun pins s0 s H Q I hh => hh sh H0 Cc cl fp pins s0 I⟩) (fun sh H0 Cc cl fp => ⟨fun pins s0 s H Q I hh => hh sh H0 Cc cl fp pins s0 I⟩) hs)
    (dcN_read hi hsl hgi hti hki hei S p)
end
end Hs
end

section
set_option Elab.async false
set_option linter.all false
set_option maxRecDepth 100000
set_option maxHeartbeats 4000000
namespace Hs
open PySem L2 PyProof.Rows

/-! ### the frame: a def that is handed no numbers runs with nothing around it -/
def frameF (F : List IV → Hv → R IV) : List IV → Hv → R IV := fun xs h =>
  if cloVs 0 xs = true then (match F xs [] with
    | .ok x [] => if (nk x).isSome = true then .ok x h else F xs h
    | .bad => .bad
    | _ => F xs h) else F xs h
section
variable {wd : Wd} {K : PySem.W.Frag} {mg : Str → Option Value} {r : List Addr} {H H' : Hp} {h : Hv}
mutual
theorem RV.outr (S : HSim wd K mg r h H) : ∀ (x : IV) (v : V) (k : NestedKey), nk x = some k → RV wd K mg [] H x v → RV wd K mg r H x v
  | .non, v, _, _, q => by simpa using q
  | .bl _, v, _, _, q => by simpa using q
  | .int _, v, _, _, q => by simpa using q
  | .str _, v, _, _, q => by simpa using q
  | .tup xs, v, k, e, q => by
    simp only [nk, Option.map_eq_some_iff] at e
    obtain ⟨ks, e1, _⟩ := e
    obtain ⟨a, vs, ea, q1, q2⟩ := RV_tup.mp q
    refine RV_tup.mpr ⟨a, vs, ea, q1.imp (fun z => ⟨fun m => ?_, z.2⟩) id, RVs.outr S xs vs ks e1 q2⟩
    obtain ⟨n, en⟩ := List.mem_iff_getElem?.mp m
    obtain ⟨o, _, ro⟩ := S.get en
    have z2 := z.2
    unfold Rd at z2
    cases o with
    | lst _ => obtain ⟨_, f, _⟩ := ro; rw [f] at z2; rcases z2 with z2 | ⟨_, z2⟩ <;> cases z2
    | dct _ => obtain ⟨_, f, _⟩ := ro; rw [f] at z2; rcases z2 with z2 | ⟨_, z2⟩ <;> cases z2
    | dcl _ => obtain ⟨_, _, f, _⟩ := ro; rw [f] at z2; rcases z2 with z2 | ⟨_, z2⟩ <;> cases z2
    | dcn _ => obtain ⟨_, f, _⟩ := ro; rw [f] at z2; rcases z2 with z2 | ⟨_, z2⟩ <;> cases z2
    | dnl _ => obtain ⟨_, _, f, _⟩ := ro; rw [f] at z2; rcases z2 with z2 | ⟨_, z2⟩ <;> cases z2
    | ins _ _ => obtain ⟨_, _, _, _, f, _⟩ := ro; rw [f] at z2; rcases z2 with z2 | ⟨_, z2⟩ <;> cases z2
  | .lst _, _, _, e, _ => by simp [nk] at e
  | .frl _, _, _, e, _ => by simp [nk] at e
  | .obj _ _, _, _, e, _ => by simp [nk] at e
  | .st _, _, _, e, _ => by simp [nk] at e
  | .ref _, _, _, e, _ => by simp [nk] at e
theorem RVs.outr (S : HSim wd K mg r h H) : ∀ (xs : List IV) (vs : List V) (ks : List NestedKey), nks xs = some ks → RVs wd K mg [] H xs vs → RVs wd K mg r H xs vs
  | [], vs, _, _, q => by simpa using q
  | x :: xs, vs, ks, e, q => by
    simp only [nks] at e
    split at e
    · rename_i k ks' e1 e2
      obtain ⟨v, t, ev, q1, q2⟩ := RVs_cons.mp q
      exact RVs_cons.mpr ⟨v, t, ev, RV.outr S x v k e1 q1, RVs.outr S xs t ks' e2 q2⟩
    · cases e
end
theorem frame_sim (S : HSim wd K mg r h H) (N : Nxt [] H [] H') : Nxt r H r H' ∧ HSim wd K mg r h H' := by
  have keep : ∀ a o, H a = some o → H' a = some o := fun a o e => N.keep a o e (by simp)
  have n : Nxt r H r H' := ⟨⟨[], by simp, by simp⟩, fun a o e _ => keep a o e, fun a ha => by obtain ⟨o, e⟩ := S.live a ha; exact ⟨o, keep a o e⟩, N.lock⟩
  refine ⟨n, S.len, S.nd, fun i o a h1 h2 => ?_⟩
  have q := S.at_ i o a h1 h2
  obtain ⟨u, e⟩ := q.live
  exact q.mono n ((keep a u e).trans e.symm)
theorem Pst.frame {F : List IV → Hv → R IV} {xs : List IV} {Q : VK} {W : XK} (S : HSim wd K mg r h H) (p : Pst wd K mg (RV wd K mg) r H (frameF F xs h) Q W) :
    Pst wd K mg (RV wd K mg) r H (F xs h) Q W ∨ (cloVs 0 xs = true ∧ Pst wd K mg (RV wd K mg) [] H (F xs []) Q W) := by
  unfold frameF at p
  split at p
  · rename_i hc
    split at p
    · rename_i x e1
      split at p
      · rename_i hk
        refine .inr ⟨hc, ?_⟩
        rw [e1]
        intro r' H' v N S' q
        have er : r' = [] := List.eq_nil_of_length_eq_zero S'.len
        subst er
        obtain ⟨n, S2⟩ := frame_sim S N
        obtain ⟨k, ek⟩ := Option.isSome_iff_exists.mp hk
        exact p r H' v n S2 (RV.outr S2 x v k ek q)
      · exact .inl p
    · exact p.elim
    · exact .inl p
  · exact .inl p
end
theorem FnG.frame {P : Program} {w : World} {K : PySem.W.Frag} {mg : Str → Option Value} {base : Heap} {k : Nat} {f : Addr} {fd : FuncData} {ps : List Str} {F : List IV → Hv → R IV} (G : FnG P w K mg base k f fd ps F) : FnG P w K mg base k f fd ps (frameF F) := by
  refine ⟨fun A outer s H args us vs r h xs Q E hr hg he hb hv hl S q p => ?_⟩
  rcases p.frame S with p | ⟨hc, p⟩
  · exact G.run A outer s H args us vs r h xs Q E hr hg he hb hv hl S q p
  · have q0 := RVs.shrink (n := 0) xs vs hc q
    rw [List.take_zero] at q0
    exact G.run A outer s H args us vs [] [] xs Q E hr hg he hb hv hl ⟨rfl, List.nodup_nil, fun n o a e => by simp at e⟩ q0 p

/-! ### x += e -/
def augS (i : Nat) (m : ME) : MS := fun l h => match l[i]? with
  | some (some (.int a)) => bindS (m l h) l fun y h1 => (match y with | .int b => .ok (.nx (l.set i (some (.int (a + b))))) h1 | _ => .bad)
  | _ => .bad
theorem sim_aug {X : Cx} {W : WX} {e : Expr} {m : ME} {pos pos' : Pos} (C : Cok X W) (i : Nat) {x : Str} (he : SimE X W e m) (hi : X.N[i]? = some x := by rfl) (hx : L2.Loc X.env.scope x := by first | exact Or.inl rfl | exact Or.inr rfl)
    (hf : X.fn x = true ∨ X.env.scope.names.lookup x = some .local := by first | exact .inl rfl | exact .inr rfl) : SimS X W (.AugAssign (.Name x pos') .Add e pos) (augS i m) := by
  refine ⟨fun r l h s H D S p => ?_⟩
  refine toS (ps_aug (ti := rI0 fun i j => .int (i + j)) C.nd hi hx pbE in_add hf) ?_
  unfold augS at p
  split at p
  · rename_i a e1
    obtain ⟨v, e2, q2⟩ := S.lo.2 i _ e1
    rw [RV_int] at q2; subst q2
    refine ⟨.int a, e2, ?_⟩
    refine he.thnS S p fun y h1 r1 H1 u _ S1 n1 q1 p1 => ?_
    split at p1
    · rename_i b
      rw [RV_int] at q1; subst q1
      exact ⟨_, _, rfl, rfl, p1 r1 H1 _ (Nxt.refl S1.hs) ⟨S1.hs, S1.lo.set (by simp)⟩⟩
    · exact p1.elim
  · exact p.elim

/-! ### enumerate(tuple), zip(tuple, tuple) -/
theorem meets_enum1 {v : Value} {o : Obj} {Hh : Heap → Prop} (B : Begins v o Hh) :
    Meets (Builtin.«enumerate.__new__» ⟨[.type "enumerate", v], []⟩) (fun _ R s => Hh s.heap ∧
      R (.ok (.ret (.ref (s.heap.push o).objs.size))) { s with heap := (s.heap.push o).push { cls := .type "enumerate", data := .fields #[.none, .bool false, .ref s.heap.objs.size, rawInt 0, .none, .none] } }) :=
  .of_wp fun prog w A R s h => by
    obtain ⟨hp, g, d, tk, os⟩ := s
    obtain ⟨h1, h⟩ := h
    have hsub := sub_enumerate
    have q1 : ∀ {A' : Around} {E : Value → Shared → Prop} {Q : Value → Shared → Prop}, Q (.ref hp.objs.size) ⟨hp.push o, g, d, tk, os⟩ → wpAny (model prog w) A' (pyIter v) Q E ⟨hp, g, d, tk, os⟩ :=
      fun q => B.iter prog w _ _ ⟨hp, g, d, tk, os⟩ _ h1 q
    wp_walk using q1
    refine wpAny_stack_any fun st => wpAny_pure ?_
    split
    · rename_i c _ _ _ _ _
      cases (c == Value.type "enumerate") <;> (wp_walk using q1; exact ⟨_, rfl, h⟩)
    · wp_walk using q1
      exact ⟨_, rfl, h⟩
theorem call_enum1 {prog : Program} {w : World} {A : Around} {E : Value → Shared → Prop} {s : Shared} {v : Value} {o : Obj} {Hh : Heap → Prop} {Q : Value → Shared → Prop} (B : Begins v o Hh) (h1 : Hh s.heap)
    (h : ∀ h', IsEnum h' (s.heap.objs.size + 1) s.heap.objs.size 0 .none → h'.get? s.heap.objs.size = some o → h'.objs.size = s.heap.objs.size + 2 → (∀ b o, s.heap.get? b = some o → h'.get? b = some o) → Q (.ref (s.heap.objs.size + 1)) { s with heap := h' }) :
    wpAny (model prog w) A (call (.type "enumerate") [v]) Q E s := by
  refine callType_new F.called_enumerate (by decide) (F.typeCall_enumerate_1 _) (F.newCall_enumerate_1 _) (fun obj => F.args_object_init_2 obj _) F.entry_enumerate_new (meets_enum1 B) ⟨h1, ?_⟩
  have hz : (s.heap.push o).objs.size = s.heap.objs.size + 1 := Heap.size_push ..
  show _ ∧ _
  rw [hz]
  have he : IsEnum ((s.heap.push o).push { cls := .type "enumerate", data := .fields #[.none, .bool false, .ref s.heap.objs.size, rawInt 0, .none, .none] }) (s.heap.objs.size + 1) s.heap.objs.size 0 .none := by
    have z := Heap.get?_push_size (s.heap.push o) (o := { cls := .type "enumerate", data := .fields #[.none, .bool false, .ref s.heap.objs.size, rawInt 0, .none, .none] }) rfl
    rwa [hz] at z
  exact ⟨⟨_, he, rfl⟩, h _ he (Heap.get?_push_of_some _ (Heap.get?_push_size _ B.free)) (by rw [Heap.size_push, hz]) fun b o x => Heap.get?_push_of_some _ (Heap.get?_push_of_some _ x)⟩
/-- pairs of a place and an item of the tuple at a -/
def IteT (K : PySem.W.Frag) (a : Addr) : It :=
  ⟨fun i H => ∃ (xs : List V) (x : V), SqT K H a xs ∧ xs[i]? = some x, fun i H v H' => ∃ T x, v = .ref T ∧ H T = none ∧ H' = upd H T (.tup [.int (i : Nat), x]) ∧ ∀ xs, SqT K H a xs → xs[i]? = some x, fun i H => ∃ xs : List V, SqT K H a xs ∧ xs.length ≤ i⟩
theorem draws_end {prog : Program} {w : World} {A : Around} (hh : A.handled = none) (it t : Addr) (items : Array Value) {n : Nat} (hn : items.size ≤ n) :
    Draws prog w A it [it, t] n (fun i v => items[i]? = some v) (fun i h => i = n ∧ h.IsTupleIter it t i ∧ h.IsTuple t items) where
  live := fun _ _ st => let ⟨o, ho, _⟩ := st.2.1; ⟨o, ho⟩
  frame := fun _ _ _ st hk => ⟨st.1, st.2.1.at fun o e => hk it (by simp) o e, st.2.2.at fun o e => hk t (by simp) o e⟩
  item := fun i s Q E hi st hQ => absurd st.1 (Nat.ne_of_lt hi)
  done := fun s Q E st hE => wpAny_nextOf_tuple_end hh st.2.1 st.2.2 (by simp; omega) hE
theorem turn_enumT {P : Program} {w : World} {K : PySem.W.Frag} {elts : List Expr} {kk : Nat} {tpos : Pos} (a e it : Addr) :
    Turn P w K (.Tuple elts kk tpos) (IteT K a) [e, it] e (fun i h => (∃ old, IsEnum h e it ((i : Nat) : Int) old) ∧ h.IsTupleIter it a i ∧ e ≠ it ∧ a ≠ e ∧ a ≠ it) where
  mem := by simp
  obj := fun i h st b hb => by
    obtain ⟨⟨old, he⟩, ⟨o, ho, hc, hd⟩, _⟩ := st
    rcases (show b = e ∨ b = it by simpa using hb) with z | z
    · subst z; exact ⟨_, he, fun v q => nomatch q⟩
    · subst z; exact ⟨o, ho, fun v q => by rw [hd] at q; cases q⟩
  keep := fun i h h' st k => let ⟨⟨old, he⟩, hi, hne⟩ := st; ⟨⟨old, k e (by simp) _ he⟩, hi.at fun o q => k it (by simp) o q, hne⟩
  item := by
    intro X hP hw hK hc i pins s σ H E I hf st hg
    subst hP hw hK
    obtain ⟨⟨old, he⟩, hit, hne, hae, hai⟩ := st
    obtain ⟨xs, x, hq, hx⟩ := hg
    obtain ⟨its, rv, p, hz⟩ := I.tuple hq
    obtain ⟨u, hu, ru⟩ := rv.get hx
    have hel : e < s.heap.objs.size := Heap.lt_size he
    have hil : it < s.heap.objs.size := let ⟨_, q, _⟩ := hit; Heap.lt_size q
    have hlt : i < its.toArray.size := by simpa using (List.getElem?_eq_some_iff.mp hu).1
    refine wpAny_pyNext_enum_itemC (Draws.tuple (A := X.A.in1) (I.ok.hd hc) it a hai its.toArray) he ⟨hit, p⟩ hlt hne (by simp only [List.mem_cons, List.not_mem_nil, or_false, not_or]; exact ⟨hne, Ne.symm hae⟩) fun x' h' tk hx' ho hst hT hsz hk => ?_
    have ex : x' = u := by
      have h1 : its[i]? = some x' := by simpa using hx'
      rw [hu] at h1; exact (Option.some.inj h1).symm
    subst ex
    refine ⟨_, rfl, wpAny_letOwnedTupleGo_enum (s := { s with heap := h', toks := tk + 1 }) ho fun h'' he' sb => ?_⟩
    have hT2 : h''.get? s.heap.objs.size = some { cls := .type "tuple", data := .seq #[.int i tk, x'] } := (sb.2 _ (Nat.ne_of_gt hel)).trans hT
    have new : ObjOk X.prog X.w (upd H s.heap.objs.size (.tup [.int (i : Nat), x])) h'' s.heap.objs.size (.tup [.int (i : Nat), x]) :=
      ⟨by show 2 ≤ sizeLine; decide, [.int i tk, x'], .cons ⟨_, rfl⟩ (.cons ru .nil), ⟨_, hT2, rfl, _, rfl⟩⟩
    have I1 : Inv X pins σ (upd H s.heap.objs.size (.tup [.int (i : Nat), x])) { s with heap := h'', toks := tk + 1 } :=
      I.turnedNew (ch := [e, it]) (fun b ob hb q => (sb.2 b (fun z => hb (by simp [z]))).trans (hk b ob (fun z => hb (by simp [z])) (fun z => hb (by simp [z])) q)) hf (Nat.le_refl _) new
    refine ⟨.ref s.heap.objs.size, _, I1, rfl, ⟨_, x, rfl, I.hok.fresh (Nat.le_refl _), rfl, fun ys hy => by rw [I.tuple_inj hy hq]; exact hx⟩, ⟨⟨x', ?_⟩, hst.1.at fun o q => (sb.2 it (Ne.symm hne)).trans q, hne, hae, hai⟩, fun b hb => ?_⟩
    · rw [show ((i + 1 : Nat) : Int) = (i : Int) + 1 by omega]; exact he'
    · have hb' : b < s.heap.objs.size := by
        rcases (show b = e ∨ b = it by simpa using hb) with z | z
        · rw [z]; exact hel
        · rw [z]; exact hil
      rw [upd_ne (Nat.ne_of_lt hb')]
      exact (hf b hb).1
  done := by
    intro X hP hw hK hc i pins s σ H E I hf st hg
    subst hP hw hK
    obtain ⟨⟨old, he⟩, hit, hne, hae, hai⟩ := st
    obtain ⟨xs, hq, hx⟩ := hg
    obtain ⟨its, rv, p, hz⟩ := I.tuple hq
    obtain ⟨f0, f1, f2, f3, f4, f5⟩ := hf it (by simp)
    have hl : its.toArray.size ≤ i := by rw [List.size_toArray, ← rv.length]; exact hx
    refine wpAny_pyNext_enum_endD (draws_end (A := X.A.in1) (I.ok.hd hc) it a its.toArray hl) he ⟨rfl, hit, p⟩ fun h' eb => ⟨rfl, I.turned (t' := s.toks) (fun b o hb q => eb b o hb q) f0 f1 f3 f4 f5⟩
  self := fun A i s Q E st h => let ⟨⟨_, he⟩, _⟩ := st; wpAny_pyIter_enum he h
theorem pi_enumT {X : Cx} {e : Expr} {ta : TA} {p pos tpos : Pos} {elts : List Expr} {kk : Nat} (hg : Gl X "enumerate") (hm : X.mg "enumerate" = none) (ha : PA X [e] ta) (hs : starEach [e] X.env = [(false, eval e X.env)] := by rfl) :
    PI X (.Tuple elts kk tpos) (.Call (.Name "enumerate" p) [e] [] pos) (fun σ H R => ta σ H fun vs H1 => ∃ a xs, vs = [.ref a] ∧ SqT X.K H1 a xs ∧ R (IteT X.K a) H1) := by
  refine ⟨fun pins s σ H R I h => Call_ (ld_blt I hg hm boot_enumerate (PyProof.Rows.callWith_type1 (thn (ha.run pos pins s σ H _ I h) fun us s1 ⟨vs, H1, I1, r1, q1⟩ => ?_) hs rfl))⟩
  obtain ⟨a, xs, rfl, hq, q⟩ := q1
  cases r1 with
  | cons r rr =>
    cases rr
    cases r
    obtain ⟨its, rv, p', hz⟩ := I1.tuple hq
    have hal : a < s1.heap.objs.size := let ⟨_, q, _⟩ := p'; Heap.lt_size q
    refine call_enum1 (begins_tuple a its.toArray) p' fun h' he hit hsz hk => wpAny_pyIter_enum he ?_
    refine ⟨s1.heap.objs.size + 1, [s1.heap.objs.size + 1, s1.heap.objs.size], _, _, H1, rfl, I1.kept (t' := s1.toks) hk, turn_enumT a (s1.heap.objs.size + 1) s1.heap.objs.size, ⟨⟨.none, he⟩, ⟨_, hit, rfl, rfl⟩, Nat.succ_ne_self _, Nat.ne_of_lt (Nat.lt_succ_of_lt hal), Nat.ne_of_lt hal⟩, fun b hb => ?_, q⟩
    have hle : s1.heap.objs.size ≤ b := by
      rcases (show b = s1.heap.objs.size + 1 ∨ b = s1.heap.objs.size by simpa using hb) with z | z
      · rw [z]; exact Nat.le_succ _
      · rw [z]; exact Nat.le_refl _
    exact I1.fpOk hle (I1.hok.fresh hle)
def enumL : Nat → List IV → List IV
  | _, [] => []
  | n, x :: xs => .tup [.int n, x] :: enumL (n + 1) xs
theorem enumL_get : ∀ (xs : List IV) (n i : Nat), (enumL n xs)[i]? = xs[i]?.map fun x => .tup [.int ((n + i : Nat) : Int), x]
  | [], n, i => by simp [enumL]
  | x :: xs, n, 0 => by simp [enumL]
  | x :: xs, n, i + 1 => by
    simp only [enumL, List.getElem?_cons_succ]
    rw [enumL_get xs (n + 1) i]
    congr 2
    funext y
    congr 3
    omega
section
variable {X : Cx} {W : WX} {tg e e2 : Expr} {m : ME} {ms : MA} {p pos : Pos}
theorem jsim_enumT {r0 : List Addr} {H0 : Hp} {a : Addr} {xs : List IV} {vs : List V} (f1 : TupAt X.K r0 H0 a vs) (f2 : RVs X.wd X.K X.mg r0 H0 xs vs) : JSim X r0 H0 (IteT X.K a) (.its (enumL 0 xs)) := by
  intro r h H i N S
  simp only [itemAt, enumL_get]
  have g1 := (N.tup f1).sq
  have g2 := RVs.mono N _ _ f2
  cases e : xs[i]? with
  | none =>
    simp only [Option.map_none]
    exact ⟨vs, g1, by rw [← g2.length]; exact List.getElem?_eq_none_iff.mp e⟩
  | some x =>
    simp only [Option.map_some]
    obtain ⟨v, e3, q3⟩ := g2.get e
    refine ⟨⟨vs, v, g1, e3⟩, fun u H' y => ?_⟩
    obtain ⟨T, x', rfl, hT, rfl, hx⟩ := y
    have := hx vs g1
    rw [e3] at this; cases this
    exact yl_tup S hT (RVs_cons.mpr ⟨_, _, rfl, by simp, RVs_cons.mpr ⟨_, _, rfl, q3, by simp⟩⟩)
def enmA (ms : MA) : MI := fun l h => match ms l h with
  | .ok [.tup xs] h1 => .ok (.its (enumL 0 xs)) h1
  | _ => enmI ms l h
theorem simi_enumA {elts : List Expr} {kk : Nat} {tpos : Pos} (hm : X.mg "enumerate" = none) (ha : SimA X W [e] ms) (hg : Gl X "enumerate" := by rfl) (hs : starEach [e] X.env = [(false, eval e X.env)] := by rfl) :
    SimI X W (.Tuple elts kk tpos) (.Call (.Name "enumerate" p) [e] [] pos) (enmA ms) := by
  refine ⟨fun r l h s H Q S q => ?_⟩
  unfold enmA at q
  split at q
  · rename_i xs h1 e1
    refine toI (pi_enumT hg hm pbA hs) ?_
    refine ha.thn (k := fun _ h1 => (.ok (.its (enumL 0 xs)) h1 : R Src)) (M := fun r' H' x J => JSim X r' H' J x) S (by rw [e1]; exact q) fun ys h1' r1 H1 vs e2 S1 n1 q1 p1 => ?_
    rw [e1] at e2; cases e2
    obtain ⟨v, rfl, q2⟩ := q1.one
    obtain ⟨a, us, rfl, f1, f2⟩ := RV_tup.mp q2
    exact ⟨a, us, rfl, f1.sq, p1 r1 H1 _ (Nxt.refl S1.hs) S1.hs (jsim_enumT f1 f2)⟩
  · exact simi_enum hm ha hg hs r l h s H Q S q
theorem jsim_zipT {r0 : List Addr} {H0 : Hp} {a b : Addr} {xs ys : List IV} {vs us : List V} (f1 : TupAt X.K r0 H0 a vs) (f2 : RVs X.wd X.K X.mg r0 H0 xs vs) (g1 : TupAt X.K r0 H0 b us) (g2 : RVs X.wd X.K X.mg r0 H0 ys us) : JSim X r0 H0 (RZ.ItzT X.K a b) (.its ((xs.zip ys).map fun p => .tup [p.1, p.2])) := by
  intro r h H i N S
  simp only [itemAt]
  have f1' := (N.tup f1).sq
  have f2' := RVs.mono N _ _ f2
  have g1' := (N.tup g1).sq
  have g2' := RVs.mono N _ _ g2
  cases e : ((xs.zip ys).map fun p => IV.tup [p.1, p.2])[i]? with
  | none =>
    have := List.getElem?_eq_none_iff.mp e
    simp only [List.length_map, List.length_zip, f2.length, g2.length] at this
    exact ⟨vs, us, f1', g1', by omega⟩
  | some z =>
    rw [List.getElem?_map, Option.map_eq_some_iff] at e
    obtain ⟨⟨x, y⟩, e1, rfl⟩ := e
    rw [List.getElem?_zip_eq_some] at e1
    obtain ⟨v, k1, k2⟩ := f2'.get e1.1
    obtain ⟨u, k3, k4⟩ := g2'.get e1.2
    refine ⟨⟨vs, us, v, u, f1', g1', k1, k3⟩, fun w H' yy => ?_⟩
    obtain ⟨T, x', y', rfl, hT, rfl, hx, hy⟩ := yy
    have t1 := hx vs f1'
    rw [k1] at t1; cases t1
    have t2 := hy us g1'
    rw [k3] at t2; cases t2
    exact yl_tup S hT (RVs_cons.mpr ⟨_, _, rfl, k2, RVs_cons.mpr ⟨_, _, rfl, k4, by simp⟩⟩)
def zipA (ms : MA) : MI := fun l h => match ms l h with
  | .ok [.tup xs, .tup ys] h1 => .ok (.its ((xs.zip ys).map fun p => .tup [p.1, p.2])) h1
  | _ => zipI ms l h
theorem simi_zipA {elts : List Expr} {kk : Nat} {tpos : Pos} (hm : X.mg "zip" = none) (ha : SimA X W [e, e2] ms) (hg : Gl X "zip" := by rfl) (hs : starEach [e, e2] X.env = (false, eval e X.env) :: starEach [e2] X.env := by rfl)
    (hpl : (backTo pos (starEach [e2] X.env)).any (·.1) = false := by rfl) : SimI X W (.Tuple elts kk tpos) (.Call (.Name "zip" p) [e, e2] [] pos) (zipA ms) := by
  refine ⟨fun r l h s H Q S q => ?_⟩
  unfold zipA at q
  split at q
  · rename_i xs ys h1 e1
    refine toI (RZ.pi_zipA hg hm pbA hs hpl) ?_
    refine ha.thn (k := fun _ h1 => (.ok (.its ((xs.zip ys).map fun p => .tup [p.1, p.2])) h1 : R Src)) (M := fun r' H' x J => JSim X r' H' J x) S (by rw [e1]; exact q) fun zs h1' r1 H1 vs e2 S1 n1 q1 p1 => ?_
    rw [e1] at e2; cases e2
    obtain ⟨v, u, rfl, q2, q3⟩ := q1.two
    obtain ⟨a, vs, rfl, f1, f2⟩ := RV_tup.mp q2
    obtain ⟨b, us, rfl, g1, g2⟩ := RV_tup.mp q3
    exact ⟨a, b, vs, us, rfl, .inr ⟨f1.sq, g1.sq, p1 r1 H1 _ (Nxt.refl S1.hs) S1.hs (jsim_zipT f1 f2 g1 g2)⟩⟩
  · exact simi_zip hm ha hg hs hpl r l h s H Q S q
end

/-! ### t[lo:hi].index(x), the cut tuple a new one -/
section
variable {X : Cx} {W : WX}
theorem sl_tupF : SlR X (fun x lo hi H Q => ∃ a xs, x = .ref a ∧ SqT X.K H a xs ∧ ¬ (HT.sIx xs.length 0 lo = 0 ∧ HT.sIx xs.length xs.length hi = xs.length) ∧ ∀ (p : Addr) (o : Obj), H p = none → o.dict = none → Q (.ref p) (upd H p (.frz o (.tup (cutV xs lo hi))))) := by
  intro pins s σ H x v vl vu lo hi sl Q I rx hs pl pu h
  obtain ⟨a, xs, rfl, hx, hw, q⟩ := h
  cases rx
  obtain ⟨its, r, ht, hz⟩ := I.tuple hx
  have hlen : its.toArray.size = xs.length := by rw [List.size_toArray]; exact r.length.symm
  refine ⟨"tuple", _, PyProof.Rows.slot_tuple_getitem.lookup, ht.typeIs, HT.getItem_tuple_cut ht hs pl pu (by rw [hlen]; exact hw) ?_ (by rw [hlen]; exact hz)⟩
  rw [hlen]
  refine ⟨.ref s.heap.objs.size, _, I.laid (t' := s.toks) (o := .frz { cls := .type "tuple", data := .seq ((its.toArray.toList.drop (HT.sIx xs.length 0 lo)).take (HT.sIx xs.length xs.length hi - HT.sIx xs.length 0 lo)).toArray } (.tup (cutV xs lo hi))) (fun b ob q => Heap.get?_push_of_some _ q) (Nat.le_refl _) ⟨Heap.get?_push_size _ rfl, ?_⟩, rfl, q _ _ (I.hok.fresh (Nat.le_refl _)) rfl⟩
  exact ⟨Nat.le_trans (cutV_length xs lo hi) hz, _, (r.drop (HT.sIx xs.length 0 lo)).take (HT.sIx xs.length xs.length hi - HT.sIx xs.length 0 lo), IsTup.new _ _⟩
theorem pe_tix {o e : Expr} {apos cpos : Pos} {to te : TE} (ho : PE X o to) (he : PE X e te) (m : M1 X o "index" apos e cpos) : PE X (.Call (.Attribute o "index" apos) [e] [] cpos)
    (fun σ H Q => to σ H fun x H1 => ∃ (p : Addr) (ob : Obj) (ns : List Int), x = .ref p ∧ H1 p = some (.frz ob (.tup (ns.map V.int))) ∧ ob.dict = none ∧ te σ H1 fun y H2 => ∃ (i : Int) (j : Nat), y = .int i ∧ H2 p = some (.frz ob (.tup (ns.map V.int))) ∧ ns[j]? = some i ∧ (∀ m, m < j → ns[m]? ≠ some i) ∧ Q (.int (j : Nat)) H2) := by
  refine ⟨fun pins s σ H Q I h => ?_⟩
  refine wpAny_Call_method m.base m.few m.line PySem.F.plainAttrs_tuple PySem.F.slot_tuple_index PySem.F.type_tuple_index (thn (ho.run pins s σ H _ I h) fun u s1 ⟨x, H1, I1, rx, p, ob, ns, ex, hp, hd, q1⟩ => ?_)
  subst ex
  obtain rfl : u = Value.ref p := rx
  have hg : s1.heap.get? p = some ob := (I1.hok p _ hp).1
  obtain ⟨its0, r0, pl0, hz0⟩ := I1.tuple (xs := ns.map V.int) (.inl (.inr ⟨ob, hp⟩))
  refine ⟨pl0.typeIs, fun b eb => ⟨ob, by cases eb; exact hg, hd⟩, ?_⟩
  rw [m.trees]
  refine Calls.callWith_builtin rfl (Calls.evalArgs_plain (Calls.spliced_cons (thn (he.run pins s1 σ H1 _ I1 q1) fun iv s2 ⟨y, H2, I2, ry, i, j, ey, hp2, hj, hno, q2⟩ => Calls.spliced_nil ?_)))
  subst ey
  obtain ⟨tk, rfl⟩ := (show ∃ t, iv = Value.int i t from ry)
  obtain ⟨its, r, pl, hz⟩ := I2.tuple (xs := ns.map V.int) (.inl (.inr ⟨ob, hp2⟩))
  obtain ⟨⟨cls, dd, dt, sl⟩, ho2, hc, n, hdt⟩ := pl
  simp only at hc hdt
  subst hc; subst hdt
  have hl : its.toArray.size = ns.length := by rw [List.size_toArray, ← r.length, List.length_map]
  have hjl : j < its.toArray.size := by rw [hl]; exact (List.getElem?_eq_some_iff.mp hj).1
  have at' : ∀ (k : Nat) (hk : k < its.toArray.size), ∃ y t', ns[k]? = some y ∧ its.toArray[k] = Value.int y t' := fun k hk => by
    have hk' : k < ns.length := by rw [← hl]; exact hk
    obtain ⟨w, hw, t', hw'⟩ := r.get (i := k) (x := .int ns[k]) (by simp [hk'])
    refine ⟨ns[k], t', List.getElem?_eq_getElem hk', ?_⟩
    rw [← hw', ← (List.getElem?_eq_some_iff.mp hw).2]
    simp
  have flat : (ns.map V.int).all flatV = true := by simp [flatV]
  refine call_meets PySem.F.slot_tuple_index ⟨_, ho2, rfl⟩ PySem.F.entry_tuple_index (PySem.F.args_tuple_index_2 _ _) (TI.tuple_indexAt p its.toArray n dd sl (.int i tk) (eqU (.int i)) j hjl ?_ ?_)
    ⟨ho2, fun w hw => mem_eqAt (x := .int i) ⟨tk, rfl⟩ rfl r flat w (by simpa using hw), ⟨.int (j : Nat), H2, I2.tok _, ⟨_, rfl⟩, q2⟩⟩
  · obtain ⟨y, t', h1, h2⟩ := at' j hjl
    rw [hj] at h1; cases h1
    rw [h2]
    show (i == i) = true
    exact beq_self_eq_true i
  · intro k hk hkj
    obtain ⟨y, t', h1, h2⟩ := at' k hk
    rw [h2]
    show (y == i) = false
    have : y ≠ i := fun z => hno k hkj (by rw [h1, z])
    simpa using this
end
end Hs
end

section
set_option Elab.async false
set_option linter.all false
set_option maxRecDepth 100000
set_option maxHeartbeats 4000000
namespace Hs
open PySem L2 PyProof.Rows

/-! ### t[lo:hi].index(x) -/
def intsOf : List IV → Option (List Int)
  | [] => some []
  | .int i :: r => (intsOf r).map (i :: ·)
  | _ => none
theorem intsOf_eq : ∀ {xs : List IV} {ns : List Int}, intsOf xs = some ns → xs = ns.map IV.int
  | [], _, e => by simp [intsOf] at e; subst e; rfl
  | .int b :: r, ns, e => by
    simp only [intsOf, Option.map_eq_some_iff] at e
    obtain ⟨cs, e1, rfl⟩ := e
    rw [intsOf_eq e1]; rfl
  | .non :: _, _, e => by simp [intsOf] at e
  | .bl _ :: _, _, e => by simp [intsOf] at e
  | .str _ :: _, _, e => by simp [intsOf] at e
  | .tup _ :: _, _, e => by simp [intsOf] at e
  | .lst _ :: _, _, e => by simp [intsOf] at e
  | .frl _ :: _, _, e => by simp [intsOf] at e
  | .obj _ _ :: _, _, e => by simp [intsOf] at e
  | .st _ :: _, _, e => by simp [intsOf] at e
  | .ref _ :: _, _, e => by simp [intsOf] at e
def ixFirst : List Int → Int → Option Nat
  | [], _ => none
  | a :: r, i => if a = i then some 0 else (ixFirst r i).map (· + 1)
theorem ixFirst_ok : ∀ {ns : List Int} {i : Int} {j : Nat}, ixFirst ns i = some j → ns[j]? = some i ∧ ∀ m, m < j → ns[m]? ≠ some i
  | [], _, _, e => by cases e
  | a :: r, i, j, e => by
    unfold ixFirst at e
    split at e
    · rename_i h; cases e; exact ⟨by simp [h], fun m hm => absurd hm (Nat.not_lt_zero _)⟩
    · rename_i h
      simp only [Option.map_eq_some_iff] at e
      obtain ⟨k, e1, rfl⟩ := e
      obtain ⟨f1, f2⟩ := ixFirst_ok e1
      refine ⟨by simpa using f1, fun m hm => ?_⟩
      cases m with
      | zero => simpa using h
      | succ m => simpa using f2 m (by omega)
def tixM (ma : ME) (mlo mhi : MO) (me : ME) : ME := fun l h => bindR (ma l h) fun x h1 => bindR (mlo l h1) fun lo h2 => bindR (mhi l h2) fun hi h3 => match x with
  | .tup xs => if ¬ (HT.sIx xs.length 0 lo = 0 ∧ HT.sIx xs.length xs.length hi = xs.length) then (match intsOf (cutI xs lo hi) with
    | some ns => bindR (me l h3) fun y h4 => (match y with | .int i => (match ixFirst ns i with | some j => .ok (.int (j : Nat)) h4 | none => .bad) | _ => .bad)
    | none => .bad) else .bad
  | _ => .bad
theorem Pst.grow {A B : Type} {wd : Wd} {K : PySem.W.Frag} {mg : Str → Option Value} {L : List Addr → Hp → A → B → Prop} {r : List Addr} {H H1 : Hp} {res : R A} {Q : B → Hp → Prop} {W : XK} (p : Pst wd K mg L r H res Q W) (n : Nxt r H r H1) : Pst wd K mg L r H1 res Q W := p.mono n
section
variable {X : Cx} {W : WX} {a e : Expr} {ma me : ME} {p2 p3 apos cpos : Pos} {lo hi : Option Expr} {mlo mhi : MO}
theorem sim_tix (ha : SimE X W a ma) (hl : SimO X W lo mlo) (hh : SimO X W hi mhi) (he : SimE X W e me) (m : M1 X (.Subscript a (.Slice lo hi none p2) p3) "index" apos e cpos) :
    SimE X W (.Call (.Attribute (.Subscript a (.Slice lo hi none p2) p3) "index" apos) [e] [] cpos) (tixM ma mlo mhi me) := by
  refine ⟨fun r l h s H Q S p => ?_⟩
  refine toE (pe_tix (pe_slice sl_tupF pbE pbO pbO) pbE m) ?_
  refine ha.thn S p fun x h1 r1 H1 v _ S1 n1 q1 p1 => ?_
  refine hl r1 l h1 s H1 _ S1 (p1.bind' fun lo' h2 r2 H2 lo2 _ n2 S2 e2 p2' => ?_)
  cases e2
  have S2' := S1.next n2 S2
  refine hh r2 l h2 s H2 _ S2' (p2'.bind' fun hi' h3 r3 H3 hi2 _ n3 S3 e3 p3' => ?_)
  cases e3
  have S3' := S2'.next n3 S3
  have q3 := RV.mono (n2.trans n3) _ _ q1
  split at p3'
  · rename_i xs _
    obtain ⟨ad, vs, rfl, f1, f2⟩ := RV_tup.mp q3
    split at p3'
    · rename_i hw
      split at p3'
      · rename_i ns e4
        have e4' := intsOf_eq e4
        have f3 : RVs X.wd X.K X.mg r3 H3 (cutI xs lo' hi') (cutV vs lo' hi') := cutI_ok f2
        rw [e4'] at f3
        have f4 := f3.ints
        refine ⟨ad, vs, rfl, f1.sq, by rw [← f2.length]; exact hw, fun pp o hp ho => ?_⟩
        rw [f4]
        refine ⟨pp, o, ns, rfl, upd_same, ho, ?_⟩
        obtain ⟨n4, S4⟩ := S3.grow (o := .frz o (.tup (ns.map V.int))) hp
        refine he.thn (S3'.next n4 S4) (Pst.mono p3' n4) fun y h5 r5 H5 u _ S5 n5 q5 p5 => ?_
        split at p5
        · rename_i i _
          split at p5
          · rename_i j e5
            rw [RV_int] at q5; subst q5
            obtain ⟨g1, g2⟩ := ixFirst_ok e5
            exact ⟨i, j, rfl, n5.lock _ _ _ upd_same, g1, g2, p5.done S5.hs (by simp)⟩
          · exact p5.elim
        · exact p5.elim
      · exact p3'.elim
    · exact p3'.elim
  · exact p3'.elim
end

/-! ### d.update([(k, v), ..]) -/
section
variable {X : Cx}
def rUpd (K : PySem.W.Frag) : V → List V → Hp → VK → Prop := fun x xs H Q => ∃ (d a : Addr) (ps : List Addr) (kvs ws : List (Key × V)), x = .ref d ∧ xs = [.ref a] ∧ H d = some (.dK ws) ∧ SqL K H a (ps.map V.ref) ∧ Paired (fun p kv => SqT K H p [kV kv.1, kv.2]) ps kvs ∧ ws.length + kvs.length ≤ sizeLine ∧ Q .non (upd H d (.dK (mergeK ws kvs)))
theorem mt_update (hcalm : X.calm = true) : MtR X "dict.update" (rUpd X.K) := by
  intro pins s σ H x xs v us Q I rx rs h
  obtain ⟨d, a, ps, kvs, ws, rfl, rfl, hd, hq, hp, hz, q⟩ := h
  cases rx
  obtain ⟨u, rfl, ru⟩ := vals1 rs
  cases ru
  obtain ⟨its, rv, pl, _⟩ := I.list hq
  have ei := refs_at rv
  subst ei
  obtain ⟨prs, rel, hl, hpr⟩ := pairs_of I hp
  obtain ⟨o, n, ho, hc, hdn, hdat⟩ := pl
  obtain ⟨zz, hs, vs, rw', dd⟩ := dk_of I.hok hd
  have hlen : prs.length = kvs.length := rel.length.symm
  obtain ⟨od, ed, epd, hod, hxd, hdd, _⟩ := id dd
  have hTs : ∀ j, j < prs.length → ∃ (b : Addr) (u : Value) (qq : Key × Value), ps[j]? = some b ∧ prs[j]? = some qq ∧ IsTup s.heap b #[u, qq.2] ∧ keyIs qq.1 u = true := fun j hj => by
    obtain ⟨b, u, e1, e2, e3⟩ := hpr j prs[j] (List.getElem?_eq_getElem hj)
    exact ⟨b, u, _, e1, List.getElem?_eq_getElem hj, e2, e3⟩
  -- the machine's pairs
  have hex : ∀ j : Nat, ∃ uv : Value × Value, j < prs.length → ∃ (b : Addr) (qq : Key × Value), ps[j]? = some b ∧ prs[j]? = some qq ∧ IsTup s.heap b #[uv.1, uv.2] ∧ keyIs qq.1 uv.1 = true ∧ uv.2 = qq.2 := fun j => by
    by_cases hj : j < prs.length
    · obtain ⟨b, u, qq, e1, e2, e3, e4⟩ := hTs j hj
      exact ⟨(u, qq.2), fun _ => ⟨b, qq, e1, e2, e3, e4, rfl⟩⟩
    · exact ⟨(.none, .none), fun z => absurd z hj⟩
  let f : Nat → Value × Value := fun j => Classical.choose (hex j)
  have hf : ∀ j, j < prs.length → ∃ (b : Addr) (qq : Key × Value), ps[j]? = some b ∧ prs[j]? = some qq ∧ IsTup s.heap b #[(f j).1, (f j).2] ∧ keyIs qq.1 (f j).1 = true ∧ (f j).2 = qq.2 := fun j => Classical.choose_spec (hex j)
  have hget : ∀ (j : Nat) (k v : Value), ((List.range prs.length).map f)[j]? = some (k, v) → j < prs.length ∧ f j = (k, v) := fun j k v e => by
    rw [List.getElem?_map, Option.map_eq_some_iff] at e
    obtain ⟨i, e1, e2⟩ := e
    obtain ⟨h1, h2⟩ := List.getElem?_eq_some_iff.mp e1
    simp at h1 h2
    subst h2
    exact ⟨h1, e2⟩
  refine call_update_pairs (knd := mixKind X.prog X.w) (PairArg.list a (ps.map Value.ref).toArray (fun j => ps.getD j 0) ((List.range prs.length).map f)) (I.ok.hd hcalm) (kvs := prs) (acc := vs) ⟨⟨o, n, ho, hc, hdn, hdat⟩, ?_, ?_⟩ ?_ ⟨?_, ?_⟩ dd ?_ fun h' tk dd' keep => ?_
  · simp [hl]
  · intro j k v e
    obtain ⟨hj, ef⟩ := hget j k v e
    obtain ⟨b, qq, e1, _, e3, _⟩ := hf j hj
    rw [ef] at e3
    refine ⟨by simp [e1], ?_⟩
    show PairAt s.heap (ps.getD j 0) k v
    rw [show ps.getD j 0 = b by simp [List.getD, e1]]
    exact .inl e3
  · intro hm
    rcases List.mem_cons.mp hm with e | hm
    · subst e
      rw [ho] at hod; cases hod
      have := hxd.1
      rw [hc] at this; injection this with z; exact absurd z (by decide)
    · obtain ⟨j, hj, e⟩ := List.mem_map.mp hm
      have hj : j < prs.length := by simpa using hj
      obtain ⟨b, qq, e1, _, ⟨ob, g1, g2, _⟩, _⟩ := hf j hj
      have eb : b = d := by rw [← e]; simp [List.getD, e1]
      subst eb
      rw [g1] at hod; cases hod
      have := hxd.1
      rw [g2] at this; injection this with z; exact absurd z (by decide)
  · simp
  · intro j key v e
    obtain ⟨hj, ef⟩ := hget j key v e
    obtain ⟨b, qq, e1, e2, _, e4, e5⟩ := hf j hj
    rw [ef] at e4 e5
    simp only at e4 e5
    exact ⟨qq.1, by rw [e2, e5], e4⟩
  · have := rw'.length
    simp
    omega
  · have hlen2 : (mergeK ws kvs).length ≤ sizeLine := Nat.le_trans (length_mergeK kvs ws) hz
    obtain ⟨oe, _, _, hoe, _⟩ := id dd'
    refine ⟨.non, _, I.write (t' := tk) (x := d) (e := d) (by rw [hd]; exact True.intro) (.inl rfl) (fun b o hb e => keep b o hb (by simp) e) ⟨oe, hoe⟩ (dk_new hlen2 hs (KV.merge rel rw') dd'), rfl, q⟩
def updI (x : IV) (ys : List IV) (h : Hv) : R IV := match x, ys with
  | .ref n, [y] => (match h[n]? with
    | some (.dct kvs) => (match lstOf h y with
      | some zs => (match pairsOf zs with | some more => if kvs.length + more.length ≤ sizeLine then .ok .non (h.set n (.dct (mergeKI kvs more))) else .bad | none => .bad)
      | none => .bad)
    | _ => .bad)
  | _, _ => .bad
theorem m_update : MtS X (rUpd X.K) updI := by
  refine ⟨fun r h H x xs v vs Q W S q1 q2 p => ?_⟩
  unfold updI at p
  split at p
  · rename_i n y
    obtain ⟨a, rfl, ha⟩ := RV_ref.mp q1
    obtain ⟨u, rfl, q3⟩ := q2.one
    split at p
    · rename_i kvs e1
      split at p
      · rename_i zs e2
        split at p
        · rename_i more e3
          split at p
          · rename_i hz
            obtain ⟨ws, f1, f2, f3⟩ := S.at_ _ _ _ e1 ha
            obtain ⟨b, us, rfl, g1, g2⟩ := lstOf_ok S e2 q3
            obtain ⟨ps, wm, rfl, k1, k2, k3⟩ := pairsOf_ok e3 g2
            have z := merge_ok k2 k3 f2 f3
            have l1 : kvs.length = ws.length := by simpa using congrArg List.length f2
            have l2 : more.length = wm.length := by simpa using congrArg List.length k2
            exact ⟨a, b, ps, wm, ws, rfl, rfl, f1, g1, k1, by rw [← l1, ← l2]; exact hz, p.setD S ha (nf_of f1) z.1 z.2 (by simp)⟩
          · exact p.elim
        · exact p.elim
      · exact p.elim
    · exact p.elim
  · exact p.elim
end
end Hs
end

section
set_option Elab.async false
set_option linter.all false
set_option maxRecDepth 100000
set_option maxHeartbeats 4000000
namespace Hs
open PySem L2 PyProof.Rows

/-! ### f(k = v, ..): every argument by its name -/
def pm {A : Type} (perm : List Nat) (us : List A) : List A := perm.filterMap fun i => us[i]?
theorem RVs.pm {wd : Wd} {K : PySem.W.Frag} {mg : Str → Option Value} {r : List Addr} {H : Hp} {xs : List IV} {vs : List V} (q : RVs wd K mg r H xs vs) : ∀ perm : List Nat, RVs wd K mg r H (pm perm xs) (pm perm vs)
  | [] => by simp [Hs.pm]
  | i :: perm => by
    have ih := q.pm perm
    unfold Hs.pm at ih ⊢
    simp only [List.filterMap_cons]
    cases e : xs[i]? with
    | none =>
      have : vs[i]? = none := by rw [List.getElem?_eq_none_iff, ← q.length]; exact List.getElem?_eq_none_iff.mp e
      rw [this]; exact ih
    | some x =>
      obtain ⟨v, e2, q2⟩ := q.get e
      rw [e2]
      exact RVs_cons.mpr ⟨_, _, rfl, q2, ih⟩
theorem vals_pm {vs : List V} {us : List Value} (q : Vals vs us) : ∀ perm : List Nat, Vals (pm perm vs) (pm perm us)
  | [] => .nil
  | i :: perm => by
    have ih := vals_pm q perm
    unfold pm at ih ⊢
    simp only [List.filterMap_cons]
    cases e : vs[i]? with
    | none => rw [q.none_of e]; exact ih
    | some x =>
      obtain ⟨v, e2, q2⟩ := q.get e
      rw [e2]
      exact .cons q2 ih
def bK (X : Cx) (kws : List Keyword) : TA := fun s H Q => ∀ pos pins sh, Inv X pins s H sh → wpAny (model X.prog X.w) X.A (evalAll ((backToKw pos (keywordEach kws X.env)).map (·.2))) (AP X pins s Q) X.xe sh
theorem pbK {X : Cx} {kws : List Keyword} : PK X kws (bK X kws) := ⟨fun pos pins sh s H Q I h => h pos pins sh I⟩
structure SimK (X : Cx) (W : WX) (kws : List Keyword) (m : MA) : Prop where
  run : ∀ r l h s H Q, Sim X r l h s H → Pst X.wd X.K X.mg (RVs X.wd X.K X.mg) r H (m l h) Q (fun c d H' => W c d s H') → bK X kws s H Q
instance {X : Cx} {W : WX} {kws : List Keyword} {m : MA} : CoeFun (SimK X W kws m) (fun _ => ∀ r l h s H Q, Sim X r l h s H → Pst X.wd X.K X.mg (RVs X.wd X.K X.mg) r H (m l h) Q (fun c d H' => W c d s H') → bK X kws s H Q) := ⟨fun q => q.run⟩
section
variable {X : Cx} {W : WX} {e : Expr} {kws : List Keyword} {m : ME} {ms : MA} {nm : Option Str} {kpos : Pos}
theorem toK {t : TA} {s : L2.St} {H : Hp} {Q : List V → Hp → Prop} (p : PK X kws t) (h : t s H Q) : bK X kws s H Q := fun pos pins sh I => p.run pos pins sh s H Q I h
theorem simk_nil : SimK X W [] nilA := ⟨fun r l h s H Q S p => toK pk_nil (p r H [] (Nxt.refl S.hs) S.hs (by simp))⟩
theorem simk_cons (ha : SimE X W e m) (hr : SimK X W kws ms) : SimK X W (⟨nm, e, kpos⟩ :: kws) (consA m ms) := by
  refine ⟨fun r l h s H Q S p => ?_⟩
  refine toK (pk_cons pbE pbK) ?_
  refine ha.thn S p fun x h1 r1 H1 v _ S1 n1 q1 p1 => ?_
  refine hr r1 l h1 s H1 _ S1 (p1.bind' fun xs h2 r2 H2 vs _ n2 S2 q2 p2 => ?_)
  exact p2 r2 H2 _ (Nxt.refl S2) S2 (RVs_cons.mpr ⟨_, _, rfl, RV.mono n2 _ _ q1, q2⟩)
end
structure GKw (P : Program) (w : World) (K : PySem.W.Frag) (mg : Str → Option Value) (base : Heap) (k : Nat) (x : Str) (ps ks : List Str) (perm : List Nat) (F : List IV → Hv → R IV) : Prop where
  ex : ∃ (f : Addr) (fd : FuncData), mg x = some (.ref f) ∧ PySem.W.keepIn K (.ref f) = true ∧ (∀ (s : Shared) (us : List Value), us.length = ks.length → BindsTo s fd ⟨[], ks.zip us⟩ (ps.zip (pm perm us))) ∧ FnG P w K mg base k f fd ps F
def kwF (n m : Nat) (perm : List Nat) (F : List IV → Hv → R IV) : List IV → Hv → R IV := fun xs h => if xs.length = n ∧ (pm perm xs).length = m then F (pm perm xs) h else .bad
section
variable {X : Cx} {W : WX} {k : Nat} {f : Addr} {fd : FuncData} {ps ks : List Str} {perm : List Nat} {F : List IV → Hv → R IV} {x : Str} {kws : List Keyword} {ms : MA} {p pos : Pos}
theorem sim_callK (G : GKw X.prog X.w X.K X.mg X.base k x ps ks perm F) (cok : Cok X W) (hr : Room k X.A) (ha : SimK X W kws ms) (hg : Gl X x := by rfl) (hdb : (x == ("__debug__" : Str)) = false := by decide +kernel)
    (hall : (backToKw pos (keywordEach kws X.env)).all (·.1.isSome) = true := by rfl) (hks : (backToKw pos (keywordEach kws X.env)).filterMap (·.1) = ks := by rfl)
    (hpl : ((backTo pos (starEach [] X.env)).any (·.1) || (backToKw pos (keywordEach kws X.env)).any (·.1.isNone)) = false := by rfl) :
    SimE X W (.Call (.Name x p) [] kws pos) (callM (kwF ks.length ps.length perm F) ms) := by
  obtain ⟨f, fd, hm, hk, hb, G⟩ := G.ex
  refine ⟨fun r l h s H Q S q => ?_⟩
  intro pins sh I
  refine wpAny_Call_Name_kw (ld_glob I hg hm ?_ hdb)
  have run : bK X kws s H (fun vs H1 => ∃ r1 h1 xs, HSim X.wd X.K X.mg r1 h1 H1 ∧ RVs X.wd X.K X.mg r1 H1 xs vs ∧ Pst X.wd X.K X.mg (RV X.wd X.K X.mg) r1 H1 (kwF ks.length ps.length perm F xs h1) Q (fun c d H' => W c d s H')) :=
    ha r l h s H _ S (Pst.bind' q fun xs h1 r1 H1 vs _ n1 S1 q1 p1 => ⟨r1, h1, xs, S1, q1, p1⟩)
  refine PySem.W.callWith_KW0 (h₀ := X.base) I.ok.mod.kin hk hall (L2.thn (run pos pins sh I) fun us s1 ⟨vs, H1, I1, rv, r1, h1, xs, S1, q1, p1⟩ => ⟨I1.kIn, ?_⟩) hpl
  rw [hks]
  unfold kwF at p1
  split at p1
  · rename_i hn
    have l1 : us.length = ks.length := by rw [← rv.length, ← q1.length]; exact hn.1
    refine wpAny_call (codeAny_mono (G.run X.A X.stack s1 H1 ⟨[], ks.zip us⟩ (pm perm us) (pm perm vs) r1 h1 (pm perm xs) Q (fun c d H' => W c d s H') hr cok.gd I1.env0 (hb s1 us l1) (vals_pm rv perm) (by rw [← (q1.pm perm).length]; exact hn.2) S1 (q1.pm perm) p1) fun res s' hq => ?_)
    cases res with
    | error ex => exact cok.tk _ _ (XE.of_call I1 (fun _ _ _ z => z) hq)
    | ok fl =>
      cases fl with
      | ret u => exact I1.after hq
      | next => exact hq.elim
      | brk => exact hq.elim
      | cont => exact hq.elim
  · exact p1.elim
end
theorem binds_kw {K : PySem.W.Frag} {x qual : Str} {params : Arguments} {body : List Stmt} {scope : Scope} {kws : List (Str × V)} {f : Addr} {fd : FuncData} {ps ks : List Str} {perm : List Nat} (F : FunD K x qual params body scope [] kws f fd)
    (h : ∀ (kV doc pmv : Value) (an : Option Addr) (cdv ct : Value) (us : List Value), us.length = ks.length → bindArgs (PySem.W.fnOf x qual params body scope .none kV doc pmv an cdv ct) ⟨[], ks.zip us⟩ = pure (ps.zip (pm perm us))) (s : Shared) (us : List Value) (hl : us.length = ks.length) : BindsTo s fd ⟨[], ks.zip us⟩ (ps.zip (pm perm us)) := by
  obtain ⟨oc, od, dV, kV, doc, pmv, an, cdv, ct, osl, rfl, lk, hcd, hD, hK⟩ := F.ex
  rcases hD with ⟨_, rfl⟩ | ⟨e, _⟩
  · exact .of_eq (h kV doc pmv an cdv ct us hl)
  · exact absurd rfl e
end Hs
end

section
set_option Elab.async false
set_option linter.all false
set_option maxRecDepth 100000
set_option maxHeartbeats 4000000
namespace Hs
open PySem L2 PyProof.Rows

/-! ### len of any table -/
def lenI2 (xs : List IV) (h : Hv) : R IV := match xs with
  | [x] => (match dcnOf h x with | some kvs => .ok (.int kvs.length) h | none => lenI [x] h)
  | _ => .bad
section
variable {X : Cx}
abbrev aLen2 (X : Cx) : List V → Hp → VK → Prop := fun xs H Q => aLen X.K xs H Q ∨ ∃ a r kvs ws, xs = [V.ref a] ∧ Rd H a (DN X.w a ws) ∧ RNV X.wd X.K X.mg r H kvs ws ∧ Q (.int ws.length) H
theorem c_len2 : CallR X (.builtin "len") (aLen2 X) := CallR.or c_len call_lenN
theorem b_len2 : BuS X (aLen2 X) lenI2 := by
  refine ⟨fun r h H xs vs Q W S q p => ?_⟩
  unfold lenI2 at p
  split at p
  · rename_i x
    split at p
    · rename_i kvs e
      obtain ⟨v, rfl, q1⟩ := q.one
      obtain ⟨n, a, ws, rfl, _, rfl, _, _, f1, f2⟩ := dcnOf_ok S e q1
      exact .inr ⟨a, r, kvs, ws, rfl, f1, f2, by rw [← f2.len]; exact p.done S (by simp)⟩
    · exact .inl (b_len r h H _ vs Q W S q p)
  · exact p.elim
end
/-! ### d.get(k, x), nested keys -/
def getN2 (mo my mx : ME) : ME := fun l h => bindR (mo l h) fun x h1 => match dcnOf h1 x with
  | some _ => bindR (my l h1) fun y h2 => bindR (mx l h2) fun z h3 => (match dcnOf h3 x with | some kvs => if isTupI y = true ∧ kd 8 y = true then .ok ((getN kvs y).getD z) h3 else .bad | none => .bad)
  | none => .bad
section
variable {X : Cx} {W : WX} {o e f : Expr} {mo my mx : ME} {apos cpos : Pos}
theorem pe_nget2 {td ty tx : TE} (hu : X.A.units + 200 < cLine) (ho : PE X o td) (he : PE X e ty) (hf : PE X f tx) (m : M2 X o "get" apos e f cpos) : PE X (.Call (.Attribute o "get" apos) [e, f] [] cpos)
    (fun σ H Q => td σ H fun x H1 => (∃ a r kvs ws, x = .ref a ∧ Rd H1 a (DN X.w a ws) ∧ RNV X.wd X.K X.mg r H1 kvs ws) ∧ ty σ H1 fun y H2 => tx σ H2 fun z H3 => ∃ o, NRd X.wd X.K X.mg H3 x y o ∧ Q (o.getD z) H3) := by
  refine ⟨fun pins s σ H Q I h => ?_⟩
  refine wpAny_Call_method m.base m.few m.line PySem.F.plainAttrs_dict PySem.F.slot_dict_get PySem.F.type_dict_get (thn (ho.run pins s σ H _ I h) fun u s1 ⟨x, H1, I1, rx, ⟨a, r, kvs, ws, ex, hd, hq⟩, q1⟩ => ?_)
  subst ex
  obtain rfl : u = Value.ref a := rx
  obtain ⟨_, _, xs, _, dd⟩ := dn_at I1 hd hq
  refine ⟨dd.typeIs, dictOfH_noDict dd, ?_⟩
  rw [m.trees]
  refine Calls.callWith_builtin rfl (Calls.evalArgs_plain (Calls.spliced_cons (thn (he.run pins s1 σ H1 _ I1 q1) fun iv s2 ⟨y, H2, I2, ry, q2⟩ =>
    Calls.spliced_cons (thn (hf.run pins s2 σ H2 _ I2 q2) fun fv s3 ⟨z, H3, I3, rz, ov, g, q3⟩ => Calls.spliced_nil ?_))))
  obtain ⟨a', b, k, xs, ea, rfl, hs, hz, dd, hk, ro⟩ := nrd_at I3 g
  cases ea
  cases (show iv = Value.ref b from ry)
  exact call_meetsIn PySem.F.slot_dict_get dd.typeIs PySem.F.entry_dict_get (PySem.F.args_dict_get_3 _ _ _) (meetsH_dict_get_default (nestedKind X.prog X.w) a b hs fv) ⟨room8 hu, k, xs, hk, dd, ⟨_, H3, I3.tok _, ro.getD rz, q3⟩⟩
theorem sim_getN2 (C : Cok X W) (ho : SimE X W o mo) (he : SimE X W e my) (hf : SimE X W f mx) (m : M2 X o "get" apos e f cpos) : SimE X W (.Call (.Attribute o "get" apos) [e, f] [] cpos) (getN2 mo my mx) := by
  refine ⟨fun r l h s H Q S p => ?_⟩
  refine toE (pe_nget2 C.un pbE pbE pbE m) ?_
  refine ho.thn S p fun x h1 r1 H1 v _ S1 n1 q1 p1 => ?_
  split at p1
  · rename_i kvs0 e0
    obtain ⟨n, a, ws, rfl, _, rfl, _, _, f1, f2⟩ := dcnOf_ok S1.hs e0 q1
    refine ⟨⟨a, r1, kvs0, ws, rfl, f1, f2⟩, ?_⟩
    refine he.thn S1 p1 fun y h2 r2 H2 u _ S2 n2 q2 p2 => ?_
    refine hf.thn S2 p2 fun z h3 r3 H3 w _ S3 n3 q3 p3 => ?_
    split at p3
    · rename_i kvs e1
      split at p3
      · rename_i hk
        obtain ⟨ov, g, g1, g2⟩ := nrd_of S3.hs e1 hk.1 hk.2 (RV.mono (n2.trans n3) _ _ q1) (RV.mono n3 _ _ q2)
        refine ⟨ov, g, ?_⟩
        cases e5 : getN kvs y with
        | none => rw [e5] at p3; rw [g1 e5]; exact p3.done S3.hs q3
        | some y' =>
          rw [e5] at p3
          obtain ⟨v', rfl, q6⟩ := g2 _ e5
          exact p3.done S3.hs q6
      · exact p3.elim
    · exact p3.elim
  · exact p1.elim
end
theorem binds_df {K : PySem.W.Frag} {x qual : Str} {params : Arguments} {body : List Stmt} {scope : Scope} {dvs : List V} {kws : List (Str × V)} {f : Addr} {fd : FuncData} {ps : List Str} (F : FunD K x qual params body scope dvs kws f fd) (n j : Nat) (hd : dvs ≠ []) (hn : n + (dvs.length - j) = ps.length)
    (h : ∀ (T : Addr) (kV doc pm : Value) (an : Option Addr) (cdv ct : Value) (us its : List Value), us.length = n → its.length = dvs.length →
      ∃ k, bindArgs (PySem.W.fnOf x qual params body scope (.ref T) kV doc pm an cdv ct) ⟨us, []⟩ = seqItems? (.ref T) >>= k ∧ k (some its.toArray) = pure (ps.zip (us ++ its.drop j))) : ∃ ds, Vals (dvs.drop j) ds ∧ Binds K fd ps ds := F.binds1 n j hd hn h
end Hs
namespace Hs
open PySem L2 PyProof.Rows
/-- an empty tuple of the written part -/
def tupAtB (K : PySem.W.Frag) (a : Addr) : Bool := match K.lookup a with
  | some ⟨.type c, _, .seq its _, _⟩ => decide (c = "tuple") && decide (its.size = 0)
  | _ => false
theorem tupAtB_ok {K : PySem.W.Frag} {a : Addr} (h : tupAtB K a = true) (H : Hp) : SqT K H a [] := by
  unfold tupAtB at h
  split at h
  · rename_i c d its n sl e
    simp only [Bool.and_eq_true, decide_eq_true_eq] at h
    obtain ⟨rfl, h2⟩ := h
    refine .inr ⟨_, its, n, e, rfl, rfl, by rw [h2]; exact Nat.zero_le _, ?_⟩
    have : its.toList = [] := by
      apply List.eq_nil_of_length_eq_zero
      rw [Array.length_toList]; exact h2
    rw [this]; exact .nil
  · cases h
theorem rvs_e {wd : Wd} {K : PySem.W.Frag} {mg : Str → Option Value} {r : List Addr} {H : Hp} {a : Addr} {xs : List IV} {vs : List V} (h : ∀ H, SqT K H a []) (q : RVs wd K mg r H xs vs) : RVs wd K mg r H (.tup [] :: xs) (.ref a :: vs) :=
  RVs_cons.mpr ⟨_, _, rfl, RV_tup.mpr ⟨a, [], rfl, .inr (h _), by simp⟩, q⟩
end Hs
end

section
set_option Elab.async false
set_option linter.all false
set_option maxRecDepth 100000
set_option maxHeartbeats 4000000
namespace Hs
open PySem L2 PyProof.Rows

/-! ### the same steps, quick for the kernel: texts are compared code by code -/
theorem strEq_beq (a b : Str) : (a == b) = strEq a b := by
  rw [strEq_eq, Bool.eq_iff_iff]; simp
def okS (s : Str) : Bool := s.cps.toList.all fun c => Nat.blt c 1114112
theorem okS_eq (s : Str) : PyData.strOk s = okS s := by
  unfold PyData.strOk okS
  rw [← Array.all_toList]
  congr 1
  funext c
  rw [Bool.eq_iff_iff]
  simp [Nat.blt, Nat.lt_iff_add_one_le]
mutual
def deq : IV → IV → Bool
  | .non, .non => true
  | .bl a, .bl b => a == b
  | .bl a, .int b => decide (b2i a = b)
  | .int a, .bl b => decide (a = b2i b)
  | .int a, .int b => decide (a = b)
  | .str a, .str b => strEq a b
  | .tup a, .tup b => deqs a b
  | .lst a, .lst b => deqs a b
  | .lst a, .frl b => deqs a b
  | .frl a, .lst b => deqs a b
  | .frl a, .frl b => deqs a b
  | _, _ => false
def deqs : List IV → List IV → Bool
  | [], [] => true
  | x :: xs, y :: ys => deq x y && deqs xs ys
  | _, _ => false
end
/-- plain data that can be compared -/
def okd : Nat → IV → Bool
  | 0, _ => false
  | _ + 1, .non => true
  | _ + 1, .bl _ => true
  | _ + 1, .int _ => true
  | _ + 1, .str s => okS s
  | n + 1, .tup xs => xs.all (okd n)
  | n + 1, .lst xs => xs.all (okd n)
  | n + 1, .frl xs => xs.all (okd n)
  | _ + 1, _ => false
theorem okds_toD {h : Hv} {n : Nat} (ih : ∀ x, okd n x = true → ∃ d, toD h n x = some d ∧ d.canLay0 = true ∧ d.depth ≤ n) : ∀ xs : List IV, xs.all (okd n) = true → ∃ ds, xs.mapM (toD h n) = some ds ∧ PyData.canLayAll0 ds = true ∧ PyData.depthAll ds ≤ n
  | [], _ => ⟨[], rfl, by simp [PyData.canLayAll0], by simp [PyData.depthAll]⟩
  | x :: xs, e => by
    rw [List.all_cons, Bool.and_eq_true] at e
    obtain ⟨d, e1, e2, e3⟩ := ih x e.1
    obtain ⟨ds, f1, f2, f3⟩ := okds_toD ih xs e.2
    refine ⟨d :: ds, ?_, by simp [PyData.canLayAll0, e2, f2], by simp [PyData.depthAll]; omega⟩
    rw [List.mapM_cons, e1, f1]; rfl
theorem okd_toD {h : Hv} : ∀ (n : Nat) (x : IV), okd n x = true → ∃ d, toD h n x = some d ∧ d.canLay0 = true ∧ d.depth ≤ n
  | 0, _, e => by cases e
  | n + 1, .non, _ => ⟨.none, rfl, by simp [PyData.canLay0], by simp [PyData.depth]⟩
  | n + 1, .bl b, _ => ⟨.bool b, rfl, by simp [PyData.canLay0], by simp [PyData.depth]⟩
  | n + 1, .int b, _ => ⟨.int b, rfl, by simp [PyData.canLay0], by simp [PyData.depth]⟩
  | n + 1, .str b, e => ⟨.str b, rfl, by simp only [PyData.canLay0]; rw [okS_eq]; exact e, by simp [PyData.depth]⟩
  | n + 1, .tup xs, e => by
    obtain ⟨ds, f1, f2, f3⟩ := okds_toD (okd_toD (h := h) n) xs e
    exact ⟨.tuple ds, by simp [toD, f1], by simp [PyData.canLay0, f2], by simp [PyData.depth]; omega⟩
  | n + 1, .lst xs, e => by
    obtain ⟨ds, f1, f2, f3⟩ := okds_toD (okd_toD (h := h) n) xs e
    exact ⟨.list ds, by simp [toD, lstOf, f1], by simp [PyData.canLay0, f2], by simp [PyData.depth]; omega⟩
  | n + 1, .frl xs, e => by
    obtain ⟨ds, f1, f2, f3⟩ := okds_toD (okd_toD (h := h) n) xs e
    exact ⟨.list ds, by simp [toD, lstOf, f1], by simp [PyData.canLay0, f2], by simp [PyData.depth]; omega⟩
  | n + 1, .obj _ _, e => by cases e
  | n + 1, .st _, e => by cases e
  | n + 1, .ref _, e => by cases e
theorem deqs_ok {h : Hv} {n m : Nat} (ih : ∀ x y d e, okd n x = true → okd m y = true → toD h n x = some d → toD h m y = some e → deq x y = PyData.eqv d e) : ∀ (xs ys : List IV) (ds es : List PyData), xs.all (okd n) = true → ys.all (okd m) = true → xs.mapM (toD h n) = some ds → ys.mapM (toD h m) = some es → deqs xs ys = PyData.eqvAll ds es
  | [], [], ds, es, _, _, e, f => by simp at e f; subst e; subst f; simp [deqs, PyData.eqvAll]
  | [], y :: ys, ds, es, _, _, e, f => by
    simp only [List.mapM_cons, Option.bind_eq_bind, Option.bind_eq_some_iff] at f
    obtain ⟨d, f1, ds', f2, f3⟩ := f
    simp at e f3; subst e; subst f3; simp [deqs, PyData.eqvAll]
  | x :: xs, [], ds, es, _, _, e, f => by
    simp only [List.mapM_cons, Option.bind_eq_bind, Option.bind_eq_some_iff] at e
    obtain ⟨d, f1, ds', f2, f3⟩ := e
    simp at f f3; subst f; subst f3; simp [deqs, PyData.eqvAll]
  | x :: xs, y :: ys, ds, es, a, b, e, f => by
    simp only [List.mapM_cons, Option.bind_eq_bind, Option.bind_eq_some_iff] at e f
    obtain ⟨d, e1, ds', e2, e3⟩ := e
    obtain ⟨d', f1, es', f2, f3⟩ := f
    simp at e3 f3; subst e3; subst f3
    rw [List.all_cons, Bool.and_eq_true] at a b
    simp only [deqs, PyData.eqvAll]
    rw [ih x y d d' a.1 b.1 e1 f1, deqs_ok ih xs ys ds' es' a.2 b.2 e2 f2]
theorem deq_ok {h : Hv} : ∀ (n m : Nat) (x y : IV) (d e : PyData), okd n x = true → okd m y = true → toD h n x = some d → toD h m y = some e → deq x y = PyData.eqv d e
  | 0, _, _, _, _, _, a, _, _, _ => by cases a
  | _ + 1, 0, _, _, _, _, _, b, _, _ => by cases b
  | n + 1, m + 1, x, y, d, e, a, b, f, g => by
    have ih := fun x y d e => deq_ok (h := h) n m x y d e
    cases x with
    | non => cases y <;> simp [okd] at b <;> simp [toD, lstOf] at f g <;> (try subst f) <;> (try subst g) <;> (try (obtain ⟨ds, _, rfl⟩ := g)) <;> simp [deq, PyData.eqv]
    | bl p => cases y <;> simp [okd] at b <;> simp [toD, lstOf] at f g <;> (try subst f) <;> (try subst g) <;> (try (obtain ⟨ds, _, rfl⟩ := g)) <;> simp [deq, PyData.eqv, b2i] <;> (rw [Bool.eq_iff_iff]; simp) <;> (try exact decide_eq_true_iff)
    | int p => cases y <;> simp [okd] at b <;> simp [toD, lstOf] at f g <;> (try subst f) <;> (try subst g) <;> (try (obtain ⟨ds, _, rfl⟩ := g)) <;> simp [deq, PyData.eqv, b2i] <;> (rw [Bool.eq_iff_iff]; simp) <;> (try exact decide_eq_true_iff)
    | str p => cases y <;> simp [okd] at b <;> simp [toD, lstOf] at f g <;> (try subst f) <;> (try subst g) <;> (try (obtain ⟨ds, _, rfl⟩ := g)) <;> simp [deq, PyData.eqv, strEq_beq]
    | tup xs =>
      simp only [toD, Option.map_eq_some_iff] at f
      obtain ⟨ds, f1, rfl⟩ := f
      cases y with
      | tup ys =>
        simp only [toD, Option.map_eq_some_iff] at g
        obtain ⟨es, g1, rfl⟩ := g
        simp only [deq, PyData.eqv]
        exact deqs_ok ih xs ys ds es a b f1 g1
      | _ => simp [okd] at b <;> simp [toD, lstOf] at g <;> (try subst g) <;> (try (obtain ⟨ds, _, rfl⟩ := g)) <;> simp [deq, PyData.eqv]
    | lst xs =>
      simp only [toD, lstOf, Option.map_eq_some_iff] at f
      obtain ⟨ds, f1, rfl⟩ := f
      cases y with
      | lst ys =>
        simp only [toD, lstOf, Option.map_eq_some_iff] at g
        obtain ⟨es, g1, rfl⟩ := g
        simp only [deq, PyData.eqv]
        exact deqs_ok ih xs ys ds es a b f1 g1
      | frl ys =>
        simp only [toD, lstOf, Option.map_eq_some_iff] at g
        obtain ⟨es, g1, rfl⟩ := g
        simp only [deq, PyData.eqv]
        exact deqs_ok ih xs ys ds es a b f1 g1
      | _ => simp [okd] at b <;> simp [toD, lstOf] at g <;> (try subst g) <;> (try (obtain ⟨ds, _, rfl⟩ := g)) <;> simp [deq, PyData.eqv]
    | frl xs =>
      simp only [toD, lstOf, Option.map_eq_some_iff] at f
      obtain ⟨ds, f1, rfl⟩ := f
      cases y with
      | lst ys =>
        simp only [toD, lstOf, Option.map_eq_some_iff] at g
        obtain ⟨es, g1, rfl⟩ := g
        simp only [deq, PyData.eqv]
        exact deqs_ok ih xs ys ds es a b f1 g1
      | frl ys =>
        simp only [toD, lstOf, Option.map_eq_some_iff] at g
        obtain ⟨es, g1, rfl⟩ := g
        simp only [deq, PyData.eqv]
        exact deqs_ok ih xs ys ds es a b f1 g1
      | _ => simp [okd] at b <;> simp [toD, lstOf] at g <;> (try subst g) <;> (try (obtain ⟨ds, _, rfl⟩ := g)) <;> simp [deq, PyData.eqv]
    | obj _ _ => cases a
    | st _ => cases a
    | ref _ => cases a
/-- a numbered list, seen through -/
def seeL (h : Hv) (x : IV) : IV := match x with | .ref n => (match h[n]? with | some (.lst xs) => .lst xs | _ => x) | x => x
theorem seeL_toD {h : Hv} (n : Nat) (x : IV) : toD h n (seeL h x) = toD h n x := by
  cases n with
  | zero => rfl
  | succ n =>
    cases x with
    | ref i =>
      simp only [seeL]
      cases e : h[i]? with
      | none => rfl
      | some o =>
        cases o with
        | lst xs => simp [toD, lstOf, e]
        | _ => rfl
    | _ => rfl
def eqQ (x y : IV) (h : Hv) : R IV := if okd 16 (seeL h x) && okd 16 (seeL h y) then .ok (.bl (deq (seeL h x) (seeL h y))) h else eqI x y h
def neQ (x y : IV) (h : Hv) : R IV := if okd 16 (seeL h x) && okd 16 (seeL h y) then .ok (.bl (!deq (seeL h x) (seeL h y))) h else neI x y h
theorem eqQ_eq : eqI = eqQ := by
  funext x y h
  unfold eqQ
  split
  · rename_i c
    rw [Bool.and_eq_true] at c
    obtain ⟨d, d1, d2, d3⟩ := okd_toD (h := h) 16 _ c.1
    obtain ⟨e, e1, e2, e3⟩ := okd_toD (h := h) 16 _ c.2
    have k := deq_ok (h := h) 16 16 _ _ d e c.1 c.2 d1 e1
    rw [seeL_toD] at d1 e1
    unfold eqI
    rw [d1, e1]
    simp only [SeqAt.shaped, d2, e2, Bool.true_and]
    rw [if_pos (by simp; omega), k]
  · rfl
theorem neQ_eq : neI = neQ := by
  funext x y h
  unfold neQ
  split
  · rename_i c
    rw [Bool.and_eq_true] at c
    obtain ⟨d, d1, d2, d3⟩ := okd_toD (h := h) 16 _ c.1
    obtain ⟨e, e1, e2, e3⟩ := okd_toD (h := h) 16 _ c.2
    have k := deq_ok (h := h) 16 16 _ _ d e c.1 c.2 d1 e1
    rw [seeL_toD] at d1 e1
    unfold neI
    rw [d1, e1]
    simp only [SeqAt.shaped, d2, e2, Bool.true_and]
    rw [if_pos (by simp; omega), k]
  · rfl
theorem s_eqQ {X : Cx} : OpS X (rEqD X.K) eqQ := eqQ_eq ▸ s_eq
theorem s_neQ {X : Cx} : OpS X (rNeD X.K) neQ := neQ_eq ▸ s_ne

/-! ### keys, fields -/
def keyQ : Key → Key → Bool
  | .inl a, .inl b => decide (a = b)
  | .inr a, .inr b => strEq a b
  | _, _ => false
theorem keyQ_eq (a b : Key) : decide (a = b) = keyQ a b := by
  cases a <;> cases b <;> simp [keyQ, strEq_eq]
def getKQ (kvs : List (Key × IV)) (k : Key) : Option IV := (kvs.find? fun kv => keyQ kv.1 k).map (·.2)
theorem getKQ_eq (kvs : List (Key × IV)) (k : Key) : getK kvs k = getKQ kvs k := by simp only [getK, getKQ, keyQ_eq]
def putKQ (kvs : List (Key × IV)) (k : Key) (x : IV) : List (Key × IV) :=
  if (kvs.any fun kv => keyQ kv.1 k) = true then kvs.map (fun kv => if keyQ kv.1 k = true then (kv.1, x) else kv) else kvs ++ [(k, x)]
theorem putKQ_eq (kvs : List (Key × IV)) (k : Key) (x : IV) : putKI kvs k x = putKQ kvs k x := by
  unfold putKI putKQ
  simp only [keyQ_eq]
  congr 1
  refine List.map_congr_left fun kv _ => ?_
  rw [← keyQ_eq]
  simp
def lookQ (f : Str) : List (Str × IV) → Option IV
  | [] => none
  | (g, x) :: r => if strEq f g = true then some x else lookQ f r
theorem lookQ_eq (f : Str) : ∀ fs : List (Str × IV), fs.lookup f = lookQ f fs
  | [] => rfl
  | (g, x) :: r => by
    rw [List.lookup_cons, lookQ, strEq_beq, lookQ_eq f r]
    cases strEq f g <;> rfl
def fldOkQ (ct : FldT) (c f : Str) : Bool := ct.any fun p => strEq p.1 c && p.2.any fun g => strEq f g
theorem fldOkQ_eq (ct : FldT) (c f : Str) : fldOk ct c f = fldOkQ ct c f := by
  unfold fldOk fldOkQ
  congr 1
  funext p
  rw [← strEq_eq]
  congr 1
  rw [Bool.eq_iff_iff]
  simp [strEq_eq]
def fldIQ (ct : FldT) (f : Str) (x : IV) (h : Hv) : R IV := match insOf h x with
  | some (c, fs) => if fldOkQ ct c f = true then (match lookQ f fs with | some y => .ok y h | none => .bad) else .bad
  | none => .bad
theorem fldIQ_eq : fldI = fldIQ := by
  funext ct f x h
  unfold fldI fldIQ
  cases insOf h x with
  | none => rfl
  | some p => simp only [fldOkQ_eq, lookQ_eq]; try rfl
def fldQ (ct : FldT) (f : Str) (m : ME) : ME := fun l h => bindR (m l h) (fldIQ ct f)
theorem fldQ_eq : fldM = fldQ := by funext ct f m l h; unfold fldM fldQ; rw [fldIQ_eq]
def putFQ (f : Str) (y : IV) : List (Str × IV) → List (Str × IV)
  | [] => [(f, y)]
  | (g, x) :: r => if strEq g f = true then (g, y) :: r else (g, x) :: putFQ f y r
theorem putFQ_eq (f : Str) (y : IV) : ∀ fs : List (Str × IV), putFI f y fs = putFQ f y fs
  | [] => rfl
  | (g, x) :: r => by
    unfold putFI putFQ
    rw [putFQ_eq f y r, strEq_eq]
    simp
def setFIQ (ct : FldT) (f : Str) (x y : IV) (h : Hv) : Option Hv := match x with
  | .ref n => (match h[n]? with | some (.ins c fs) => if fldOkQ ct c f = true ∧ fs.length < 1000 then some (h.set n (.ins c (putFQ f y fs))) else none | _ => none)
  | _ => none
theorem setFIQ_eq : setFI = setFIQ := by
  funext ct f x y h
  unfold setFI setFIQ
  simp only [fldOkQ_eq, putFQ_eq]
  try rfl
def setFQ (ct : FldT) (f : Str) (mo mv : ME) : MS := fun l h => bindS (mv l h) l fun y h1 => bindS (mo l h1) l fun x h2 => match setFIQ ct f x y h2 with | some h3 => .ok (.nx l) h3 | none => .bad
theorem setFQ_eq : setFS = setFQ := by funext ct f mo mv l h; unfold setFS setFQ; rw [setFIQ_eq]; try rfl
def methQ (c m : Str) (n : Nat) (dxs : List IV) (F : List IV → Hv → R IV) (mo : ME) (ms : MA) : ME := fun l h => bindR (mo l h) fun x h1 => match insOf h1 x with
  | some (c', fs) => if strEq c' c = true ∧ (lookQ m fs).isNone = true then bindR (ms l h1) fun xs h2 => argM n dxs F (x :: xs) h2 else .bad
  | none => .bad
theorem methQ_eq : methM = methQ := by
  funext c m n dxs F mo ms l h
  unfold methM methQ
  congr 1
  funext x h1
  cases insOf h1 x with
  | none => rfl
  | some p =>
    obtain ⟨c', fs⟩ := p
    simp only [lookQ_eq, strEq_eq, decide_eq_true_eq, Option.isNone_iff_eq_none]
def metL (g : IV → List IV → Hv → R IV) (mo : ME) (ms : MA) : ME := fun l h => bindR (mo l h) fun x h1 => if (lstOf h1 x).isSome = true then bindR (ms l h1) fun xs h2 => g x xs h2 else .bad
def metD (g : IV → List IV → Hv → R IV) (mo : ME) (ms : MA) : ME := fun l h => bindR (mo l h) fun x h1 => if (dctW h1 x).isSome = true then bindR (ms l h1) fun xs h2 => g x xs h2 else .bad
def isStrI : IV → Bool | .str _ => true | _ => false
def metT (g : IV → List IV → Hv → R IV) (mo : ME) (ms : MA) : ME := fun l h => bindR (mo l h) fun x h1 => if isStrI x = true then bindR (ms l h1) fun xs h2 => g x xs h2 else .bad
theorem metL_eq : metM "list" = metL := by funext g mo ms l h; rfl
theorem metD_eq : metM "dict" = metD := by funext g mo ms l h; rfl
theorem metT_eq : metM "str" = metT := by
  funext g mo ms l h
  unfold metM metT
  congr 1
end Hs
end

section
set_option Elab.async false
set_option linter.all false
set_option maxRecDepth 100000
set_option maxHeartbeats 4000000
namespace Hs
open PySem L2 PyProof.Rows

def natMem (c : Nat) : List Nat → Bool | [] => false | a :: r => Nat.beq c a || natMem c r
theorem natMem_eq (c : Nat) : ∀ l : List Nat, decide (c ∈ l) = natMem c l
  | [] => by simp [natMem]
  | a :: r => by
    rw [natMem, ← natMem_eq c r, Bool.eq_iff_iff]
    simp [Nat.beq_eq]
def strInQ (a b : Str) : Bool := match a.cps.toList with | [c] => natMem c b.cps.toList | _ => strIn a b
theorem strInQ_eq (a b : Str) : strIn a b = strInQ a b := by
  unfold strInQ
  split
  · rename_i c e
    unfold strIn
    rw [e]
    simp only [natMem_eq]
  · rfl
def eqFQ : IV → IV → Bool
  | .str a, .str b => strEq a b
  | x, y => eqF x y
theorem eqFQ_eq (x y : IV) : eqF x y = eqFQ x y := by
  cases x <;> cases y <;> simp [eqFQ, eqF, strEq_beq]
/-- membership by data -/
def inDQ (x y : IV) (h : Hv) : Option Bool := match lstOf h y with
  | some ys => if okd 16 x && ys.all (okd 15) then some (ys.any fun z => deq z x) else (match toD h 16 x, lstOf h y, toD h 16 y with
        | some d, some _, some (.list ds) => if SeqAt.shaped d && SeqAt.shaped (.list ds) then some (ds.any fun z => PyData.eqv z d) else none
        | _, _, _ => none)
  | none => none
theorem toD_lst {h : Hv} {y : IV} {ys : List IV} {n : Nat} (e : lstOf h y = some ys) : toD h (n + 1) y = (ys.mapM (toD h n)).map .list := by
  cases y with
  | lst xs => cases e; rfl
  | frl xs => cases e; rfl
  | ref i => simp only [toD, e]
  | _ => cases e
theorem any_deq {h : Hv} {x : IV} {d : PyData} (hx : okd 16 x = true) (hd : toD h 16 x = some d) : ∀ (ys : List IV) (ds : List PyData), ys.all (okd 15) = true → ys.mapM (toD h 15) = some ds → (ds.any fun z => PyData.eqv z d) = ys.any fun z => deq z x
  | [], ds, _, e => by simp at e; subst e; rfl
  | y :: ys, ds, a, e => by
    simp only [List.mapM_cons, Option.bind_eq_bind, Option.bind_eq_some_iff] at e
    obtain ⟨d', e1, ds', e2, e3⟩ := e
    simp at e3; subst e3
    rw [List.all_cons, Bool.and_eq_true] at a
    rw [List.any_cons, List.any_cons, any_deq hx hd ys ds' a.2 e2, deq_ok (h := h) 15 16 y x d' d a.1 hx e1 hd]
theorem inDQ_eq (x y : IV) (h : Hv) : (match toD h 16 x, lstOf h y, toD h 16 y with
        | some d, some _, some (.list ds) => if SeqAt.shaped d && SeqAt.shaped (.list ds) then some (ds.any fun z => PyData.eqv z d) else none
        | _, _, _ => none) = inDQ x y h := by
  unfold inDQ
  cases e : lstOf h y with
  | none => simp only; split <;> simp_all
  | some ys =>
    simp only
    by_cases c : (okd 16 x && ys.all (okd 15)) = true
    · rw [if_pos c]
      rw [Bool.and_eq_true] at c
      obtain ⟨d, d1, d2, d3⟩ := okd_toD (h := h) 16 x c.1
      obtain ⟨ds, f1, f2, f3⟩ := okds_toD (okd_toD (h := h) 15) ys c.2
      have e1 : toD h 16 y = some (.list ds) := by rw [toD_lst e, f1]; rfl
      rw [d1, e1]
      simp only [SeqAt.shaped, d2, PyData.canLay0, f2, PyData.depth, Bool.true_and]
      rw [if_pos (by simp; omega), any_deq c.1 d1 ys ds c.2 f1]
    · rw [if_neg c]
def inBQ (x y : IV) (h : Hv) : Option Bool :=
  match x, y with
  | .str a, .str b => some (strInQ a b)
  | x, y => match seqOf h y with
    | some ys => if flatI x && ys.all flatI then some (ys.any fun z => eqFQ z x) else inDQ x y h
    | none => match dctOf h y, keyOf x with
      | some kvs, some k => some (getKQ kvs k).isSome
      | _, _ => none
theorem inBQ_eq (x y : IV) (h : Hv) : inB x y h = inBQ x y h := by
  unfold inB inBQ
  split
  · rw [strInQ_eq]
  · simp only [eqFQ_eq, getKQ_eq]
    cases seqOf h _ with
    | some ys =>
      simp only
      split
      · rfl
      · exact inDQ_eq _ _ h
    | none => rfl
def inB2Q (x y : IV) (h : Hv) : Option Bool := if isTupI x = true then (match nestB x y h with | some b => some b | none => inBQ x y h) else inBQ x y h
def inQ (x y : IV) (h : Hv) : R IV := match inB2Q x y h with | some k => .ok (.bl k) h | none => .bad
def notInQ (x y : IV) (h : Hv) : R IV := match inB2Q x y h with | some k => .ok (.bl (!k)) h | none => .bad
theorem inB2Q_eq (x y : IV) (h : Hv) : inB2 x y h = inB2Q x y h := by unfold inB2 inB2Q; simp only [inBQ_eq]; try rfl
theorem inQ_eq : inI2 = inQ := by funext x y h; unfold inI2 inQ; rw [inB2Q_eq]; try rfl
theorem notInQ_eq : notInI2 = notInQ := by funext x y h; unfold notInI2 notInQ; rw [inB2Q_eq]; try rfl
theorem s_inQ {X : Cx} : OpS X (aIn2 X id) inQ := inQ_eq ▸ s_in2
theorem s_notInQ {X : Cx} : OpS X (aIn2 X not) notInQ := notInQ_eq ▸ s_notIn2

def ixIQ (x y : IV) (h : Hv) : R IV :=
  match y with
  | .int i => match x with
    | .str z => if z.length ≤ sizeLine then (match atI z.cps.toList i with | some c => .ok (.str ⟨#[c]⟩) h | none => .bad) else .bad
    | x => match seqOf h x with
      | some xs => (match atI xs i with | some v => .ok v h | none => .bad)
      | none => (match dctOf h x with | some kvs => (match getKQ kvs (.inl i) with | some v => .ok v h | none => .bad) | none => .bad)
  | .str k => (match dctOf h x with | some kvs => (match getKQ kvs (.inr k) with | some v => .ok v h | none => .bad) | none => .bad)
  | _ => .bad
theorem ixIQ_eq (x y : IV) (h : Hv) : ixI x y h = ixIQ x y h := by unfold ixI ixIQ; simp only [getKQ_eq]; try rfl
def ixQ (x y : IV) (h : Hv) : R IV := if isTupI y = true then ixT x y h else ixIQ x y h
theorem ixQ_eq : ixA = ixQ := by funext x y h; unfold ixA ixQ; rw [ixIQ_eq]
theorem sim_ixQ {X : Cx} {W : WX} {a b : Expr} {ma mb : ME} {pos : Pos} (un : X.A.units + 200 < cLine) (ha : SimE X W a ma) (hb : SimE X W b mb) (hs : PlainIx b := by exact fun _ _ => rfl) : SimE X W (.Subscript a b pos) (bin ixQ ma mb) := ixQ_eq ▸ sim_sub_ix2 un ha hb hs
def putIQ (x y z : IV) (h : Hv) : Option Hv := match x with
  | .ref n => (match h[n]? with
    | some (.dct kvs) => (match keyOf y with | some k => if kvs.length < sizeLine then some (h.set n (.dct (putKQ kvs k z))) else none | none => none)
    | some (.lst xs) => (match y with | .int i => (match ixN xs.length i with | some j => some (h.set n (.lst (xs.set j z))) | none => none) | _ => none)
    | _ => none)
  | _ => none
theorem putIQ_eq (x y z : IV) (h : Hv) : putI x y z h = putIQ x y z h := by unfold putI putIQ; simp only [putKQ_eq]; try rfl
def putI2Q (x y z : IV) (h : Hv) : Option Hv := if isTupI y = true then putT x y z h else putIQ x y z h
def putQ (mo mi mv : ME) : MS := fun l h => bindS (mv l h) l fun z h1 => bindS (mo l h1) l fun x h2 => bindS (mi l h2) l fun y h3 => match putI2Q x y z h3 with | some h4 => .ok (.nx l) h4 | none => .bad
theorem putQ_eq : putS2 = putQ := by funext mo mi mv l h; unfold putS2 putQ putI2 putI2Q; simp only [putIQ_eq]; try rfl
def dcGoQ (src : Src) (g : MG) (tt : MB) (mk mv : ME) (l : Loc) (n : Nat) : Nat → Nat → Hv → R IV
  | 0, _, _ => .bad
  | k + 1, i, h => match itemAt src h i with
    | none => .bad
    | some none => .ok (.ref n) h
    | some (some x) => match g x l with
      | none => .bad
      | some l1 => match tt l1 h with
        | .ok true h1 => (match mk l1 h1 with
          | .ok y h2 => (match mv l1 h2 with
            | .ok z h3 => (match keyOf y, h3[n]? with
              | some key, some (.dct acc) => if acc.length < sizeLine then dcGoQ src g tt mk mv l n k (i + 1) (h3.set n (.dct (putKQ acc key z))) else .bad
              | _, _ => .bad)
            | _ => .bad)
          | _ => .bad)
        | .ok false h1 => dcGoQ src g tt mk mv l n k (i + 1) h1
        | _ => .bad
theorem dcGoQ_eq (src : Src) (g : MG) (tt : MB) (mk mv : ME) (l : Loc) (n : Nat) : ∀ (k i : Nat) (h : Hv), dcGo src g tt mk mv l n k i h = dcGoQ src g tt mk mv l n k i h
  | 0, _, _ => rfl
  | k + 1, i, h => by
    unfold dcGo dcGoQ
    simp only [putKQ_eq, dcGoQ_eq src g tt mk mv l n k]
    try rfl
def dcQ (mi : MI) (g : MG) (tt : MB) (mk mv : ME) (own : List Nat) : ME := fun l h => bindR (mi l h) fun src h1 => dcGoQ src g tt mk mv (wipeI l own) h1.length (srcLen src h1 + 1) 0 (h1 ++ [.dct []])
theorem dcQ_eq : dcM = dcQ := by funext mi g tt mk mv own l h; unfold dcM dcQ; simp only [dcGoQ_eq]
def mergeKQ (kvs more : List (Key × IV)) : List (Key × IV) := more.foldl (fun acc kv => putKQ acc kv.1 kv.2) kvs
theorem mergeKQ_eq (kvs more : List (Key × IV)) : mergeKI kvs more = mergeKQ kvs more := by unfold mergeKI mergeKQ; simp only [putKQ_eq]
def updQ (x : IV) (ys : List IV) (h : Hv) : R IV := match x, ys with
  | .ref n, [y] => (match h[n]? with
    | some (.dct kvs) => (match lstOf h y with
      | some zs => (match pairsOf zs with | some more => if kvs.length + more.length ≤ sizeLine then .ok .non (h.set n (.dct (mergeKQ kvs more))) else .bad | none => .bad)
      | none => .bad)
    | _ => .bad)
  | _, _ => .bad
theorem updQ_eq : updI = updQ := by funext x ys h; unfold updI updQ; simp only [mergeKQ_eq]; try rfl
theorem m_updQ {X : Cx} : MtS X (rUpd X.K) updQ := updQ_eq ▸ m_update
def dictQ (xs : List IV) (h : Hv) : R IV := match xs with
  | [x] => (match lstOf h x with | some ys => (match pairsOf ys with | some kvs => .ok (.ref h.length) (h ++ [.dct (mergeKQ [] kvs)]) | none => .bad) | none => .bad)
  | _ => .bad
theorem dictQ_eq : dictI = dictQ := by funext xs h; unfold dictI dictQ; simp only [mergeKQ_eq]; try rfl

/-! ### constants and names by their codes -/
section
variable {X : Cx} {W : WX}
theorem sim_strC {i j : Str} {k : Nat} {pos : Pos} (e : i = j) : SimE X W (.Constant (.str i) k pos) (cM (.str j)) := e ▸ sim_str
theorem sim_fldC {e : Expr} {m : ME} {pos : Pos} {f f' : Str} {ct : FldT} (T : ClsOk X.K X.mg ct) (ef : f = f') (he : SimE X W e m) (hb : attributeBase e f X.env (eval e X.env) = eval e X.env := by rfl) : SimE X W (.Attribute e f pos) (fldQ ct f' m) := by
  subst ef; exact fldQ_eq ▸ sim_fld T he hb
end
end Hs
end

section
set_option Elab.async false
set_option linter.all false
set_option maxRecDepth 100000
set_option maxHeartbeats 4000000
namespace Hs
open PySem L2 PyProof.Rows

/-! ### the quick steps as rules -/
section
variable {X : Cx} {W : WX} {o i value e : Expr} {es : List Expr} {mo mi mv : ME} {ms : MA} {pos pos' apos cpos : Pos} {f f' c c' m m' : Str} {ct : FldT} {k : Nat} {ps : List Str} {dxs : List IV} {F : List IV → Hv → R IV} {p : Pos} {pl : Sem Bool}
theorem sim_putQ (C : Cok X W) (ho : SimE X W o mo) (hi : SimE X W i mi) (hv : SimE X W value mv) (hs : swapsWithSole [.Subscript o i pos'] value pos.line X.env = pure false := by rfl) (hw : swappedStores [.Subscript o i pos'] value X.env = pure none := by rfl)
    (h1 : (assignEach [.Subscript o i pos'] X.env).map (·.2) = [assign (.Subscript o i pos') X.env] := by rfl)
    (ha : ∀ v, assign (.Subscript o i pos') X.env v = (do
      let ov ← holding [v] (eval o X.env)
      let iv ← holding [v, ov] (eval i X.env)
      standAt pos'
      holding [v, ov, iv] (setItem ov iv v)
      release [v, ov, iv] []) := by intro _; rfl) : SimS X W (.Assign [.Subscript o i pos'] value pos) (putQ mo mi mv) := by
  rw [← putQ_eq]; exact sim_put2 C ho hi hv hs hw h1 ha
theorem sim_setFC (T : ClsOk X.K X.mg ct) (ef : f = f') (ho : SimE X W o mo) (hv : SimE X W value mv) (hs : swapsWith value (some (.Attribute o f pos')) pos.line X.env = pure false := by rfl) : SimS X W (.Assign [.Attribute o f pos'] value pos) (setFQ ct f' mo mv) := by
  subst ef; rw [← setFQ_eq]; exact sim_setF T ho hv hs
theorem sim_augFC (T : ClsOk X.K X.mg ct) (ef : f = f') (ho : SimE X W o mo) (hv : SimE X W value mv) : SimS X W (.AugAssign (.Attribute o f pos') .Add value pos) (augFS ct f' mo mv) := by
  subst ef; exact sim_augF T ho hv
theorem sim_makeC (ec : c = c') (G : GCl X.prog X.w X.K X.mg X.base k c ps dxs F) (cok : Cok X W) (hr : Room (k + 1) X.A) (ha : SimA X W (e :: es) ms) (hg : Gl X c := by rfl) (hdb : (c == ("__debug__" : Str)) = false := by decide +kernel)
    (he : starEach (e :: es) X.env = (false, eval e X.env) :: starEach es X.env := by rfl) (hpl : (backTo pos (starEach es X.env)).any (·.1) = false := by rfl) : SimE X W (.Call (.Name c p) (e :: es) [] pos) (callM (mkM c' ps.length dxs F) ms) := by
  subst ec; exact sim_make G cok hr ha hg hdb he hpl
theorem sim_methC (ec : c = c') (em : m = m') (G : GMt X.prog X.w X.K X.mg X.base k c m ps dxs F) (cok : Cok X W) (hr : Room k X.A) (ho : SimE X W o mo) (ha : SimA X W (e :: es) ms)
    (he : starEach (e :: es) X.env = (false, eval e X.env) :: starEach es X.env := by rfl) (hpl : (backTo pos (starEach es X.env)).any (·.1) = false := by rfl)
    (ht : eval (.Call (.Attribute o m apos) (e :: es) [] pos) X.env = (do let ov ← eval o X.env; standAt apos.atName; let (f, first) ← holding [ov] (getMethod ov m pl); callWith pos f first (backTo pos (starEach (e :: es) X.env)) (backToKw pos (keywordEach [] X.env))) := by rfl) :
    SimE X W (.Call (.Attribute o m apos) (e :: es) [] pos) (methQ c' m' ps.length dxs F mo ms) := by
  subst ec; subst em; rw [← methQ_eq]; exact sim_meth G cok hr ho ha he hpl ht
theorem sim_methC0 (ec : c = c') (em : m = m') (G : GMt X.prog X.w X.K X.mg X.base k c m ps dxs F) (cok : Cok X W) (hr : Room k X.A) (ho : SimE X W o mo)
    (ht : eval (.Call (.Attribute o m apos) [] [] pos) X.env = (do let ov ← eval o X.env; standAt apos.atName; let (f, first) ← holding [ov] (getMethod ov m pl); callWith pos f first (backTo pos (starEach [] X.env)) (backToKw pos (keywordEach [] X.env))) := by rfl) :
    SimE X W (.Call (.Attribute o m apos) [] [] pos) (methQ c' m' ps.length dxs F mo nilA) := by
  subst ec; subst em; rw [← methQ_eq]; exact sim_meth0 G cok hr ho ht
end
section
variable {X : Cx} {W : WX} {o e : Expr} {es : List Expr} {mo : ME} {ms : MA} {name : Str} {apos cpos : Pos} {id : String} {rd : V → List V → Hp → VK → Prop} {g : IV → List IV → Hv → R IV}
theorem sim_bmL (hgs : MtS X rd g) (hm : MtR X id rd) (pa : PlainAttrs "list") (slot : Slot "list" name id) (hty : typeOf (.builtin id) = pure (.type "method_descriptor")) (ho : SimE X W o mo) (ha : SimA X W (e :: es) ms)
    (hbase : attributeBase o name X.env (eval o X.env) = eval o X.env := by rfl) (hst : starEach (e :: es) X.env = (false, eval e X.env) :: starEach es X.env := by rfl)
    (hfew : ((backTo cpos (starEach (e :: es) X.env)).all (fun x => !x.1) && (backToKw cpos (keywordEach [] X.env)).all (fun x => x.1.isSome) && decide ((e :: es).length + ([] : List Keyword).length + (if ([] : List Keyword).isEmpty then 0 else 1) < 30)) = true := by rfl)
    (hline : (apos.endLine == cpos.line) = true := by rfl) (hpl : (backTo cpos (starEach es X.env)).any (·.1) = false := by rfl) : SimE X W (.Call (.Attribute o name apos) (e :: es) [] cpos) (metL g mo ms) := by
  rw [← metL_eq]; exact sim_bm hgs hm pa slot hty ho ha hbase hst hfew hline hpl
theorem sim_bmL0 (hgs : MtS X rd g) (hm : MtR X id rd) (pa : PlainAttrs "list") (slot : Slot "list" name id) (hty : typeOf (.builtin id) = pure (.type "method_descriptor")) (ho : SimE X W o mo)
    (hbase : attributeBase o name X.env (eval o X.env) = eval o X.env := by rfl) (hline : (apos.endLine == cpos.line) = true := by rfl) : SimE X W (.Call (.Attribute o name apos) [] [] cpos) (metL g mo nilA) := by
  rw [← metL_eq]; exact sim_bm0 hgs hm pa slot hty ho hbase hline
theorem sim_bmD (hgs : MtS X rd g) (hm : MtR X id rd) (pa : PlainAttrs "dict") (slot : Slot "dict" name id) (hty : typeOf (.builtin id) = pure (.type "method_descriptor")) (ho : SimE X W o mo) (ha : SimA X W (e :: es) ms)
    (hbase : attributeBase o name X.env (eval o X.env) = eval o X.env := by rfl) (hst : starEach (e :: es) X.env = (false, eval e X.env) :: starEach es X.env := by rfl)
    (hfew : ((backTo cpos (starEach (e :: es) X.env)).all (fun x => !x.1) && (backToKw cpos (keywordEach [] X.env)).all (fun x => x.1.isSome) && decide ((e :: es).length + ([] : List Keyword).length + (if ([] : List Keyword).isEmpty then 0 else 1) < 30)) = true := by rfl)
    (hline : (apos.endLine == cpos.line) = true := by rfl) (hpl : (backTo cpos (starEach es X.env)).any (·.1) = false := by rfl) : SimE X W (.Call (.Attribute o name apos) (e :: es) [] cpos) (metD g mo ms) := by
  rw [← metD_eq]; exact sim_bm hgs hm pa slot hty ho ha hbase hst hfew hline hpl
theorem sim_bmT (hgs : MtS X rd g) (hm : MtR X id rd) (pa : PlainAttrs "str") (slot : Slot "str" name id) (hty : typeOf (.builtin id) = pure (.type "method_descriptor")) (ho : SimE X W o mo) (ha : SimA X W (e :: es) ms)
    (hbase : attributeBase o name X.env (eval o X.env) = eval o X.env := by rfl) (hst : starEach (e :: es) X.env = (false, eval e X.env) :: starEach es X.env := by rfl)
    (hfew : ((backTo cpos (starEach (e :: es) X.env)).all (fun x => !x.1) && (backToKw cpos (keywordEach [] X.env)).all (fun x => x.1.isSome) && decide ((e :: es).length + ([] : List Keyword).length + (if ([] : List Keyword).isEmpty then 0 else 1) < 30)) = true := by rfl)
    (hline : (apos.endLine == cpos.line) = true := by rfl) (hpl : (backTo cpos (starEach es X.env)).any (·.1) = false := by rfl) : SimE X W (.Call (.Attribute o name apos) (e :: es) [] cpos) (metT g mo ms) := by
  rw [← metT_eq]; exact sim_bm hgs hm pa slot hty ho ha hbase hst hfew hline hpl
end
theorem b_dictQ {X : Cx} : BuS X (fun xs H Q => ∃ (a : Addr) (ps : List Addr) (kvs : List (Key × V)), xs = [.ref a] ∧ SqL X.K H a (ps.map V.ref) ∧ Paired (fun p kv => SqT X.K H p [kV kv.1, kv.2]) ps kvs ∧
    ∀ p, H p = none → Q (.ref p) (upd H p (.dK (mergeK [] kvs)))) dictQ := dictQ_eq ▸ b_dict
section
variable {X : Cx} {W : WX} {kx vx tg iter e : Expr} {ifs : List Expr} {scope : Scope} {own : List (Str × Nat)} {pos : Pos} {mi : MI} {g : MG} {tt : MB} {mk mv : ME}
theorem sim_dcQ {sl : List Nat} (C : Cok X W) (hi : SimI X W tg iter mi) (ok : BlkOk X.N X.env.scope scope own) (hsl : ∀ i ∈ sl, i ∈ own.map (·.2))
    (hgi : ∀ (sh : Shared) (H : Hp) (Cc : Addr) (cl : List (Str × Addr)) (fp : List Addr), SimG (X.blk sh H scope (compEnvC scope cl Cc X.env) fp) tg g sl)
    (hti : ∀ (sh : Shared) (H : Hp) (Cc : Addr) (cl : List (Str × Addr)) (fp : List Addr), SimTs (X.blk sh H scope (compEnvC scope cl Cc X.env) fp) ifs tt)
    (hki : ∀ (sh : Shared) (H : Hp) (Cc : Addr) (cl : List (Str × Addr)) (fp : List Addr), SimE (X.blk sh H scope (compEnvC scope cl Cc X.env) fp) WN kx mk)
    (hei : ∀ (sh : Shared) (H : Hp) (Cc : Addr) (cl : List (Str × Addr)) (fp : List Addr), SimE (X.blk sh H scope (compEnvC scope cl Cc X.env) fp) WN vx mv) (hs : ∀ x, foldedSetIterable iter X.env x = pure x := by intro _; rfl) :
    SimE X W (.DictComp kx vx [⟨tg, iter, ifs, 0⟩] scope pos) (dcQ mi g tt mk mv (own.map (·.2))) := by
  rw [← dcQ_eq]; exact sim_dc C hi ok hsl hgi hti hki hei hs
end
theorem gc_strC {wd : Wd} {K : PySem.W.Frag} {mg : Str → Option Value} {x z z' : Str} (ez : z = z') (h : ∃ t, mg x = some (.str z t)) : GC wd K mg x (.str z') := ez ▸ gc_str h
theorem sim_tixC {X : Cx} {W : WX} {a e : Expr} {ma me : ME} {p2 p3 apos cpos : Pos} {lo hi : Option Expr} {mlo mhi : MO} (ha : SimE X W a ma) (hl : SimO X W lo mlo) (hh : SimO X W hi mhi) (he : SimE X W e me) (m : M1 X (.Subscript a (.Slice lo hi none p2) p3) "index" apos e cpos) :
    SimE X W (.Call (.Attribute (.Subscript a (.Slice lo hi none p2) p3) "index" apos) [e] [] cpos) (tixM ma mlo mhi me) := sim_tix ha hl hh he m
end Hs
end

section
set_option Elab.async false
set_option linter.all false
set_option maxRecDepth 100000
set_option maxHeartbeats 4000000
namespace Hs
open PySem L2 PyProof.Rows

/-! ### bringing values into plain form before going on: what the checker would else carry along unopened -/
section
variable {A : Type}
def frN (n : Nat) (k : Nat → A) : A := match n with | 0 => k 0 | m + 1 => k (m + 1)
theorem frN_eq (n : Nat) (k : Nat → A) : frN n k = k n := by cases n <;> rfl
def frI (i : Int) (k : Int → A) : A := match i with | .ofNat n => frN n fun n => k (.ofNat n) | .negSucc n => frN n fun n => k (.negSucc n)
theorem frI_eq (i : Int) (k : Int → A) : frI i k = k i := by cases i <;> simp only [frI, frN_eq]
def frNs : List Nat → (List Nat → A) → A
  | [], k => k []
  | n :: ns, k => frN n fun n => frNs ns fun ns => k (n :: ns)
theorem frNs_eq : ∀ (ns : List Nat) (k : List Nat → A), frNs ns k = k ns
  | [], k => rfl
  | n :: ns, k => by rw [frNs, frN_eq, frNs_eq]
def frB (b : Bool) (k : Bool → A) : A := match b with | true => k true | false => k false
theorem frB_eq (b : Bool) (k : Bool → A) : frB b k = k b := by cases b <;> rfl
def frS0 (x : Str) (k : Str → A) : A := match x with | ⟨⟨l⟩⟩ => frNs l fun l => k ⟨⟨l⟩⟩
theorem frS0_eq (x : Str) (k : Str → A) : frS0 x k = k x := by
  cases x with | mk a => cases a with | mk l => exact frNs_eq _ _
mutual
def frV : IV → (IV → A) → A
  | .non, k => k .non
  | .bl b, k => frB b fun b => k (.bl b)
  | .int i, k => frI i fun i => k (.int i)
  | .str x, k => frS0 x fun x => k (.str x)
  | .tup xs, k => frVs xs fun xs => k (.tup xs)
  | .lst xs, k => frVs xs fun xs => k (.lst xs)
  | .frl xs, k => frVs xs fun xs => k (.frl xs)
  | .obj c fs, k => frFs fs fun fs => k (.obj c fs)
  | .st ks, k => k (.st ks)
  | .ref n, k => frN n fun n => k (.ref n)
def frVs : List IV → (List IV → A) → A
  | [], k => k []
  | x :: xs, k => frV x fun x => frVs xs fun xs => k (x :: xs)
def frFs : List (Str × IV) → (List (Str × IV) → A) → A
  | [], k => k []
  | (f, x) :: xs, k => frV x fun x => frFs xs fun xs => k ((f, x) :: xs)
end
mutual
theorem frV_eq : ∀ (x : IV) (k : IV → A), frV x k = k x
  | .non, k => rfl
  | .bl b, k => by rw [frV, frB_eq]
  | .int i, k => by rw [frV, frI_eq]
  | .str x, k => by rw [frV, frS0_eq]
  | .tup xs, k => by rw [frV, frVs_eq]
  | .lst xs, k => by rw [frV, frVs_eq]
  | .frl xs, k => by rw [frV, frVs_eq]
  | .obj c fs, k => by rw [frV, frFs_eq]
  | .st ks, k => rfl
  | .ref n, k => by rw [frV, frN_eq]
theorem frVs_eq : ∀ (xs : List IV) (k : List IV → A), frVs xs k = k xs
  | [], k => rfl
  | x :: xs, k => by rw [frVs, frV_eq, frVs_eq]
theorem frFs_eq : ∀ (xs : List (Str × IV)) (k : List (Str × IV) → A), frFs xs k = k xs
  | [], k => rfl
  | (f, x) :: xs, k => by rw [frFs, frV_eq, frFs_eq]
end
def frNk : List (IV × IV) → (List (IV × IV) → A) → A
  | [], k => k []
  | (f, x) :: xs, k => frV f fun f => frV x fun x => frNk xs fun xs => k ((f, x) :: xs)
theorem frNk_eq : ∀ (xs : List (IV × IV)) (k : List (IV × IV) → A), frNk xs k = k xs
  | [], k => rfl
  | (f, x) :: xs, k => by rw [frNk, frV_eq, frV_eq, frNk_eq]
def frK (q : Key) (k : Key → A) : A := match q with | .inl i => frI i fun i => k (.inl i) | .inr x => frS0 x fun x => k (.inr x)
theorem frK_eq (q : Key) (k : Key → A) : frK q k = k q := by
  cases q <;> simp only [frK, frI_eq, frS0_eq]
def frKv : List (Key × IV) → (List (Key × IV) → A) → A
  | [], k => k []
  | (f, x) :: xs, k => frK f fun f => frV x fun x => frKv xs fun xs => k ((f, x) :: xs)
theorem frKv_eq : ∀ (xs : List (Key × IV)) (k : List (Key × IV) → A), frKv xs k = k xs
  | [], k => rfl
  | (f, x) :: xs, k => by rw [frKv, frK_eq, frV_eq, frKv_eq]
def frO (o : Ob) (k : Ob → A) : A := match o with
  | .lst xs => frVs xs fun xs => k (.lst xs)
  | .dct xs => frKv xs fun xs => k (.dct xs)
  | .dcl xs => frKv xs fun xs => k (.dcl xs)
  | .dcn xs => frNk xs fun xs => k (.dcn xs)
  | .dnl xs => frNk xs fun xs => k (.dnl xs)
  | .ins c xs => frFs xs fun xs => k (.ins c xs)
theorem frO_eq (o : Ob) (k : Ob → A) : frO o k = k o := by
  cases o <;> simp only [frO, frVs_eq, frKv_eq, frNk_eq, frFs_eq]
def frH : Hv → (Hv → A) → A
  | [], k => k []
  | o :: os, k => frO o fun o => frH os fun os => k (o :: os)
theorem frH_eq : ∀ (h : Hv) (k : Hv → A), frH h k = k h
  | [], k => rfl
  | o :: os, k => by rw [frH, frO_eq, frH_eq]
def frL : Loc → (Loc → A) → A
  | [], k => k []
  | none :: os, k => frL os fun os => k (none :: os)
  | some x :: os, k => frV x fun x => frL os fun os => k (some x :: os)
theorem frL_eq : ∀ (h : Loc) (k : Loc → A), frL h k = k h
  | [], k => rfl
  | none :: os, k => by rw [frL, frL_eq]
  | some x :: os, k => by rw [frL, frV_eq, frL_eq]
end
/-- the statement, begun on plain values -/
def frS (m : MS) : MS := fun l h => frL l fun l => frH h fun h => m l h
theorem frS_eq (m : MS) : frS m = m := by funext l h; unfold frS; rw [frL_eq, frH_eq]
theorem sim_frS {X : Cx} {W : WX} {st : Stmt} {m : MS} (q : SimS X W st m) : SimS X W st (frS m) := (frS_eq m).symm ▸ q
theorem sim_frSs {X : Cx} {W : WX} {st : List Stmt} {m : MS} (q : SimSs X W st m) : SimSs X W st (frS m) := (frS_eq m).symm ▸ q
end Hs
end

section
set_option Elab.async false
set_option linter.all false
set_option maxRecDepth 100000
set_option maxHeartbeats 4000000
namespace Hs
open PySem L2 PyProof.Rows

/-! ### a, b, .. = a tuple or a list of that length -/
def valL : IV → Option (List IV)
  | .lst xs => some xs
  | .frl xs => some xs
  | _ => none
theorem valL_lst {x : IV} {xs : List IV} (h : Hv) (e : valL x = some xs) : lstOf h x = some xs := by
  cases x <;> first | exact e | cases e
def seqG (n : Nat) (gs : MGs) : MG := fun x l => match valL x with | some xs => if xs.length = n then gs xs l else none | none => tupG n gs x l
section
variable {X : Cx} {W : WX} {pos : Pos} {es : List Expr} {gs : MGs} {sl : List Nat}
theorem simg_seq {k n : Nat} (hc : X.calm = true) (h1 : SimGs X es gs sl) (hn : (assignEach es X.env).length = n := by rfl) (hst : (assignEach es X.env).findIdx? (·.1) = none := by rfl) : SimG X (.Tuple es k pos) (seqG n gs) sl := by
  refine ⟨fun r l h s H x v l' Q S q e k' => ?_⟩
  cases e1 : valL x with
  | none =>
    simp only [seqG, e1] at e
    exact simg_tup hc h1 hn hst r l h s H x v l' Q S q e k'
  | some xs =>
    intro pins sh u I ru
    simp only [seqG, e1] at e
    split at e
    · rename_i hl
      obtain ⟨a, vs, rfl, f1, f2⟩ := lstOf_ok S.hs (valL_lst h e1) q
      refine (pg_lst hc pbGs hn hst).run pins sh s H _ u Q I ru ⟨a, vs, rfl, f1, by rw [← f2.length]; exact hl, ?_⟩
      exact h1 r l h s H xs vs l' Q S f2 e k'
    · cases e
end
end Hs
end

section
set_option Elab.async false
set_option linter.all false
set_option maxRecDepth 100000
set_option maxHeartbeats 4000000
namespace Hs
open PySem
/-! ### plain facts on mirrors -/
theorem ofS_inj {a b : String} : Str.ofString a = Str.ofString b ↔ a = b := by
  refine ⟨fun e => ?_, fun e => by rw [e]⟩
  rw [Str.ofString_eq_toList, Str.ofString_eq_toList] at e
  have e1 : a.toList.map Char.toNat = b.toList.map Char.toNat := by
    have := congrArg (fun s : Str => s.cps.toList) e
    simpa using this
  have inj : Function.Injective Char.toNat := fun x y h => Char.toNat_inj.mp h
  have e2 : a.toList = b.toList := (List.map_inj_right (fun x y h => inj h)).mp e1
  exact String.toList_inj.mp e2
@[simp] theorem ofS_eq {a b : String} : (Str.ofString a = Str.ofString b) = (a = b) := propext ofS_inj
@[simp] theorem ofS_beq {a b : String} : (Str.ofString a == Str.ofString b) = decide (a = b) := by
  rw [Bool.eq_iff_iff]
  simp
@[simp] theorem strOk_ofS {a : String} : PyData.strOk (Str.ofString a) = true := by
  unfold PyData.strOk
  rw [Str.ofString_eq_toList]
  simp
  intro c hc
  rcases c.valid with v | v
  · exact Nat.lt_trans v (by decide)
  · exact v.2
@[simp] theorem ofS_ok {a : String} : PyData.canLay0 (.str (Str.ofString a)) = true := by
  rw [PyData.canLay0]; exact strOk_ofS
theorem map_erase {A B : Type} (f : A → B) : ∀ (l : List A) (i : Nat), (l.map f).eraseIdx i = (l.eraseIdx i).map f
  | [], _ => rfl
  | _ :: _, 0 => rfl
  | a :: l, i + 1 => by simp [map_erase f l i]
@[simp] theorem look_ofS {A : Type} {a b : String} {v : A} {l : List (Str × A)} : List.lookup (Str.ofString a) ((Str.ofString b, v) :: l) = if a = b then some v else l.lookup (Str.ofString a) := by
  rw [List.lookup_cons, ofS_beq]
  by_cases e : a = b <;> simp [e]
section
variable {A B : Type} {a : A} {h : Hv} {l : Loc}
@[simp] theorem bindR_ok {k : A → Hv → R B} : bindR (.ok a h) k = k a h := rfl
@[simp] theorem bindR_bad {k : A → Hv → R B} : bindR (.bad : R A) k = .bad := rfl
@[simp] theorem bindS_ok {k : A → Hv → RS} : bindS (.ok a h) l k = k a h := rfl
@[simp] theorem bindS_bad {k : A → Hv → RS} : bindS (.bad : R A) l k = .bad := rfl
end
section
variable {h : Hv} {i j : Int} {a b : String}
@[simp] theorem eqI_int : eqI (.int i) (.int j) h = .ok (.bl (decide (i = j))) h := by simp [eqI, toD, SeqAt.shaped, PyData.canLay0, PyData.depth, PyData.eqv]; rfl
@[simp] theorem neI_int : neI (.int i) (.int j) h = .ok (.bl (!decide (i = j))) h := by simp [neI, toD, SeqAt.shaped, PyData.canLay0, PyData.depth, PyData.eqv]; rfl
@[simp] theorem eqI_str : eqI (.str (Str.ofString a)) (.str (Str.ofString b)) h = .ok (.bl (decide (a = b))) h := by simp [eqI, toD, SeqAt.shaped, PyData.depth, PyData.eqv]
@[simp] theorem neI_str : neI (.str (Str.ofString a)) (.str (Str.ofString b)) h = .ok (.bl (!decide (a = b))) h := by simp [neI, toD, SeqAt.shaped, PyData.depth, PyData.eqv]
@[simp] theorem asB_bl {k : Bool} : asB (.bl k) h = .ok k h := rfl
@[simp] theorem subI_int : subI (.int i) (.int j) h = .ok (.int (i - j)) h := rfl
@[simp] theorem addV_int : addIV (.int i) (.int j) h = .ok (.int (i + j)) h := rfl
@[simp] theorem add_int : addI (.int i) (.int j) h = .ok (.int (i + j)) h := rfl
@[simp] theorem ltI_int : ltI (.int i) (.int j) h = .ok (.bl (decide (i < j))) h := rfl
@[simp] theorem leI_int : leI (.int i) (.int j) h = .ok (.bl (decide (i ≤ j))) h := rfl
@[simp] theorem gtI_int : gtI (.int i) (.int j) h = .ok (.bl (decide (j < i))) h := rfl
@[simp] theorem geI_int : geI (.int i) (.int j) h = .ok (.bl (decide (j ≤ i))) h := rfl
end
theorem perm_erase {A : Type} : ∀ (l : List A) (i : Nat) (w : A), l[i]? = some w → (w :: l.eraseIdx i).Perm l
  | [], i, w, e => by simp at e
  | a :: l, 0, w, e => by simp at e; subst e; simp
  | a :: l, i + 1, w, e => by
    have := perm_erase l i w (by simpa using e)
    exact (List.Perm.swap a w _).trans (List.Perm.cons a this)
theorem tidy_lst {h h' : Hv} {i : Nat} {xs ys : List IV} (hi : h.length ≤ i) (e : h'[i]? = some (.lst xs)) (f : xs.mapM (frz h' h.length 11) = some ys) (o : oldOk h.length h h' = true) : tidyR h (.ok (.ref i) h') = .ok (.lst ys) (h'.take h.length) := by
  have e1 : frz h' h.length 12 (.ref i) = some (.lst ys) := by
    show (if i < h.length then some (IV.ref i) else match h'[i]? with
      | some (.lst xs) => (xs.mapM (frz h' h.length 11)).map .lst
      | some (.ins c fs) => (fs.mapM fun p => (frz h' h.length 11 p.2).map fun y => (p.1, y)).map (.obj c)
      | _ => none) = _
    rw [if_neg (by omega), e]
    simp only [f, Option.map_some]
  simp only [tidyR, e1, o, if_true]
/-! ### texts by value -/
abbrev sv (w : String) : IV := .str (Str.ofString w)
section
variable {h : Hv} {n k : Nat}
@[simp] theorem toD_svs (ws : List String) : (ws.map sv).mapM (toD h (k + 1)) = some (ws.map fun w => PyData.str (Str.ofString w)) := by
  induction ws with
  | nil => rfl
  | cons w ws ih => rw [List.map_cons, List.mapM_cons, ih]; rfl
@[simp] theorem canLay_svs (ws : List String) : PyData.canLayAll0 (ws.map fun w => PyData.str (Str.ofString w)) = true := by
  induction ws with
  | nil => simp [PyData.canLayAll0]
  | cons w ws ih => simp [PyData.canLayAll0, ih]
@[simp] theorem depth_svs (ws : List String) : PyData.depthAll (ws.map fun w => PyData.str (Str.ofString w)) = 0 := by
  induction ws with
  | nil => simp [PyData.depthAll]
  | cons w ws ih => simp [PyData.depthAll, PyData.depth, ih]
@[simp] theorem clo_svs (ws : List String) : cloVs n (ws.map sv) = true := by
  induction ws with
  | nil => simp [cloVs]
  | cons w ws ih => simp [cloVs, cloV, ih]
@[simp] theorem clo_ints (ns : List Int) : cloVs n (ns.map IV.int) = true := by
  induction ns with
  | nil => simp [cloVs]
  | cons w ws ih => simp [cloVs, cloV, ih]
@[simp] theorem frz_svs (ws : List String) : (ws.map sv).mapM (frz h n (k + 1)) = some (ws.map sv) := by
  induction ws with
  | nil => rfl
  | cons w ws ih => rw [List.map_cons, List.mapM_cons, ih]; rfl
end
/-- the deal: where it stands, what it holds -/
def DH (n m t : Int) (gs : List Int) (x : Hv) : Hv := .dct [(.inr "great", .ref 1), (.inr "now", .int n), (.inr "mixed", .int m), (.inr "turn", .int t)] :: .lst (gs.map .int) :: x
end Hs
end

section
set_option Elab.async false
set_option linter.all false
set_option maxRecDepth 100000
set_option maxHeartbeats 4000000
namespace Hs
open PySem
/-! ### loops over things that stay -/
theorem forGo_inv {src : Src} {g : MG} {body : MS} (xs : List IV) (hs : ∀ h i, itemAt src h i = some xs[i]?) (I : List IV → Loc → Hv → Prop)
    (step : ∀ pre x l h, pre ++ [x] <+: xs → I pre l h → ∃ l1, g x l = some l1 ∧ ∃ l2 h2, body l1 h = .ok (.nx l2) h2 ∧ I (pre ++ [x]) l2 h2) :
    ∀ (k : Nat) (pre suf : List IV) (l : Loc) (h : Hv), xs = pre ++ suf → suf.length < k → I pre l h → ∃ l' h', forGo src g body k pre.length l h = .ok (.nx l') h' ∧ I xs l' h' := by
  intro k
  induction k with
  | zero => intro pre suf l h e hk; omega
  | succ k ih =>
    intro pre suf l h e hk hI
    cases suf with
    | nil =>
      rw [List.append_nil] at e
      subst e
      refine ⟨l, h, ?_, hI⟩
      simp [forGo, hs]
    | cons x suf =>
      obtain ⟨l1, e1, l2, h2, e2, hI2⟩ := step pre x l h (by rw [e]; exact ⟨suf, by simp⟩) hI
      obtain ⟨l', h', e3, hI3⟩ := ih (pre ++ [x]) suf l2 h2 (by simp [e]) (by simpa using hk) hI2
      refine ⟨l', h', ?_, hI3⟩
      have ex : xs[pre.length]? = some x := by rw [e]; simp
      simp only [List.length_append, List.length_cons, List.length_nil, Nat.zero_add] at e3
      simp [forGo, hs, ex, e1, e2, e3]
/-- a comprehension whose parts change nothing -/
theorem lcGo_pure {src : Src} {g : MG} {tt : MB} {el : ME} {l : Loc} (xs : List IV) (hs : ∀ h i, itemAt src h i = some xs[i]?) (p : IV → Bool) (f : IV → IV)
    (hx : ∀ x ∈ xs, ∃ l1, g x l = some l1 ∧ ∀ hh, tt l1 hh = .ok (p x) hh ∧ (p x = true → el l1 hh = .ok (f x) hh)) (h : Hv) :
    ∀ (k : Nat) (pre suf acc : List IV), xs = pre ++ suf → suf.length < k → acc.length + suf.length < sizeLine → lcGo src g tt el l h.length k pre.length (h ++ [.lst acc]) = .ok (.ref h.length) (h ++ [.lst (acc ++ (suf.filter p).map f)]) := by
  intro k
  induction k with
  | zero => intro pre suf acc e hk; omega
  | succ k ih =>
    intro pre suf acc e hk hz
    cases suf with
    | nil =>
      rw [List.append_nil] at e
      subst e
      simp [lcGo, hs]
    | cons x suf =>
      obtain ⟨l1, e1, e2⟩ := hx x (by rw [e]; simp)
      have ex : xs[pre.length]? = some x := by rw [e]; simp
      cases hp : p x with
      | true =>
        have := ih (pre ++ [x]) suf (acc ++ [f x]) (by simp [e]) (by simpa using hk) (by simp at hz ⊢; omega)
        simp only [List.length_append, List.length_cons, List.length_nil, Nat.zero_add] at this
        have hz' : acc.length < sizeLine := by simp at hz; omega
        simp [lcGo, hs, ex, e1, (e2 _).1, hp, (e2 _).2 hp, hz', this]
      | false =>
        have := ih (pre ++ [x]) suf acc (by simp [e]) (by simpa using hk) (by simp at hz ⊢; omega)
        simp only [List.length_append, List.length_cons, List.length_nil, Nat.zero_add] at this
        simp [lcGo, hs, ex, e1, (e2 _).1, hp, this]
theorem lc_tidy {mi : MI} {src : Src} {g : MG} {tt : MB} {el : ME} {own : List Nat} {l : Loc} {h : Hv} (xs : List IV) (hm : mi l h = .ok src h) (hl : srcLen src h = xs.length) (hz : xs.length < sizeLine) (hs : ∀ h i, itemAt src h i = some xs[i]?) (p : IV → Bool) (f : IV → IV)
    (hx : ∀ x ∈ xs, ∃ l1, g x (wipeI l own) = some l1 ∧ ∀ hh, tt l1 hh = .ok (p x) hh ∧ (p x = true → el l1 hh = .ok (f x) hh)) (ys : List IV)
    (fz : ((xs.filter p).map f).mapM (frz (h ++ [.lst ((xs.filter p).map f)]) h.length 11) = some ys) : tidyM (lcM mi g tt el own) l h = .ok (.lst ys) h := by
  have c := lcGo_pure xs hs p f hx h (xs.length + 1) [] xs [] rfl (by omega) (by simpa using hz)
  simp only [List.length_nil, List.nil_append] at c
  unfold tidyM lcM
  rw [hm, bindR_ok, hl, c, tidy_lst (Nat.le_refl _) (by simp) fz (oldOk_app _ _)]
  simp
section
variable {B : Type} (F : B → IV × PyData)
def insB (x : B) : List B → List B
  | [] => [x]
  | y :: r => if PySem.W.dataLt (F y).2 (F x).2 = true then y :: insB x r else x :: y :: r
def isB : List B → List B
  | [] => []
  | x :: r => insB F x (isB r)
theorem insB_map (x : B) : ∀ l : List B, insD (F x) (l.map F) = (insB F x l).map F
  | [] => rfl
  | y :: r => by
    simp only [List.map_cons, insD, insB]
    split
    · rw [insB_map x r]; rfl
    · rfl
theorem isB_map : ∀ l : List B, isortD (l.map F) = (isB F l).map F
  | [] => rfl
  | x :: r => by simp only [List.map_cons, isortD, isB]; rw [isB_map r, insB_map]
theorem insB_perm (x : B) : ∀ l : List B, (insB F x l).Perm (x :: l)
  | [] => List.Perm.refl _
  | y :: r => by
    unfold insB
    split
    · exact ((insB_perm x r).cons y).trans (List.Perm.swap x y r)
    · exact List.Perm.refl _
theorem isB_perm : ∀ l : List B, (isB F l).Perm l
  | [] => List.Perm.refl _
  | x :: r => (insB_perm F x _).trans ((isB_perm r).cons x)
end
theorem zipD_map {B : Type} (F : B → IV × PyData) {h : Hv} : ∀ (l : List B), (∀ b ∈ l, toD h 16 (F b).1 = some (F b).2) → zipD h ((l.map F).map (·.1)) = some (l.map F)
  | [], _ => rfl
  | b :: l, q => by
    simp only [List.map_cons, zipD]
    rw [q b (by simp), zipD_map F l fun b hb => q b (by simp [hb])]
theorem sortedV_any {B : Type} (F : B → IV × PyData) {h : Hv} {x : IV} (l : List B) (hx : seqOf h x = some ((l.map F).map (·.1))) (q : ∀ b ∈ l, toD h 16 (F b).1 = some (F b).2) (a : ∀ b ∈ l, ∀ c ∈ l, PySem.W.alike (F b).2 (F c).2 = true)
    (s : sortableB ((l.map F).map (·.2)) = true) (d : ∀ b ∈ l, (F b).2.depth ≤ 100) : ∃ l' : List B, l'.Perm l ∧ sortedIV [x] h = .ok (.lst ((l'.map F).map (·.1))) h := by
  refine ⟨isB F l, isB_perm F l, ?_⟩
  have ha : alikeB ((l.map F).map (·.2)) = true := by
    unfold alikeB
    rw [List.all_eq_true]
    intro e he
    rw [List.all_eq_true]
    intro e' he'
    simp only [List.map_map, List.mem_map, Function.comp] at he he'
    obtain ⟨b, hb, rfl⟩ := he
    obtain ⟨c, hc, rfl⟩ := he'
    exact a b hb c hc
  have hd : ((l.map F).all fun b => decide (b.2.depth ≤ 100)) = true := by
    rw [List.all_eq_true]
    intro e he
    obtain ⟨b, hb, rfl⟩ := List.mem_map.mp he
    exact decide_eq_true (d b hb)
  simp only [sortedIV, hx, zipD_map F l q, ha, s, hd, and_self, if_true, isB_map]
end Hs
end

section
set_option Elab.async false
set_option linter.all false
set_option maxRecDepth 100000
set_option maxHeartbeats 4000000
namespace Hs
open PySem
/-! ### plain facts: loops over written things, `if not f(..): return False` -/
def okB : R IV → Bool | .ok (.bl true) [] => true | _ => false
theorem okB_ok {r : R IV} (h : okB r = true) : r = .ok (.bl true) [] := by
  unfold okB at h
  split at h
  · rfl
  · cases h
/-- a value that evaluation gives -/
def getV : R IV → IV | .ok x _ => x | _ => .non
theorem ifnot_call {n : Nat} {F : List IV → Hv → R IV} {ms : MA} {l : Loc} {h h' : Hv} {xs : List IV} (hm : ms l h = .ok xs h) (hn : xs.length = n) (hF : F xs h = .ok (.bl true) h') :
    (ifS (notT (truM (callM (argM n [] F) ms))) (retS (cM (.bl false))) nilS) l h = .ok (.nx l) h' := by
  have e : argM n [] F xs h = .ok (.bl true) h' := by
    unfold argM
    rw [if_pos (by simpa using hn), List.append_nil]; exact hF
  simp only [ifS, notT, truM, callM, hm, bindR_ok, e, truI, bindS_ok]
  rfl
theorem srcLen_seq {h : Hv} {xs : List IV} : srcLen (.seq (.tup xs)) h = xs.length := rfl
/-- for x in (written items): what holds of the names is kept -/
theorem for_tup {m : ME} {xs : List IV} {i : Nat} {body : MS} {I : Loc → Prop} {l : Loc} {h : Hv} (hm : m l h = .ok (.tup xs) h) (h0 : I l)
    (step : ∀ x ∈ xs, ∀ l, I l → ∃ l', body (l.set i (some x)) h = .ok (.nx l') h ∧ I l') : ∃ l', forS (seqI m) (nameG i) body l h = .ok (.nx l') h ∧ I l' := by
  have e : forS (seqI m) (nameG i) body l h = forGo (.seq (.tup xs)) (nameG i) body (xs.length + 1) 0 l h := by
    simp only [forS, seqI, hm, bindR_ok]
    rfl
  rw [e]
  obtain ⟨l', h', e1, e2, e3⟩ := forGo_inv (src := .seq (.tup xs)) (g := nameG i) (body := body) xs (fun _ _ => rfl) (fun _ l hh => hh = h ∧ I l)
    (fun pre x l hh hp ⟨e1, e2⟩ => by
      subst e1
      have hx : x ∈ xs := hp.subset (by simp)
      obtain ⟨l', f1, f2⟩ := step x hx l e2
      exact ⟨_, rfl, l', _, f1, rfl, f2⟩) (xs.length + 1) [] xs l h rfl (Nat.lt_succ_self _) ⟨rfl, h0⟩
  subst e2
  exact ⟨l', e1, e3⟩
/-- for x in range(n) -/
theorem for_rng {ms : MA} {n : Int} {i : Nat} {body : MS} {I : Loc → Prop} {l : Loc} {h : Hv} (hm : ms l h = .ok [.int n] h) (hn : 0 ≤ n ∧ n < 1000) (h0 : I l)
    (step : ∀ k : Nat, (k : Int) < n → ∀ l, I l → ∃ l', body (l.set i (some (.int (k : Int)))) h = .ok (.nx l') h ∧ I l') : ∃ l', forS (rng1 ms) (nameG i) body l h = .ok (.nx l') h ∧ I l' := by
  have e : forS (rng1 ms) (nameG i) body l h = forGo (.its (intsTo 0 n.toNat)) (nameG i) body ((intsTo 0 n.toNat).length + 1) 0 l h := by
    simp only [forS, rng1, hm, bindR_ok]
    rw [if_pos (by omega)]
    rfl
  rw [e]
  obtain ⟨l', h', e1, e2, e3⟩ := forGo_inv (src := .its (intsTo 0 n.toNat)) (g := nameG i) (body := body) (intsTo 0 n.toNat) (fun _ _ => rfl) (fun _ l hh => hh = h ∧ I l)
    (fun pre x l hh hp ⟨e1, e2⟩ => by
      subst e1
      have hx : x ∈ intsTo 0 n.toNat := hp.subset (by simp)
      obtain ⟨k, hk, rfl⟩ := List.mem_map.mp hx
      have hk : k < n.toNat := by simpa using hk
      obtain ⟨l', f1, f2⟩ := step k (by omega) l e2
      refine ⟨_, rfl, l', _, ?_, rfl, f2⟩
      simpa using f1) ((intsTo 0 n.toNat).length + 1) [] (intsTo 0 n.toNat) l h rfl (Nat.lt_succ_self _) ⟨rfl, h0⟩
  subst e2
  exact ⟨l', e1, e3⟩
theorem toD_ints {h : Hv} {k : Nat} : ∀ ns : List Int, (ns.map IV.int).mapM (toD h (k + 1)) = some (ns.map PyData.int)
  | [] => rfl
  | n :: ns => by rw [List.map_cons, List.mapM_cons, toD_ints ns]; rfl
theorem lay_ints : ∀ ns : List Int, PyData.canLayAll0 (ns.map PyData.int) = true
  | [] => by simp [PyData.canLayAll0]
  | n :: ns => by simp [PyData.canLayAll0, PyData.canLay0, lay_ints ns]
theorem depth_ints : ∀ ns : List Int, PyData.depthAll (ns.map PyData.int) = 0
  | [] => by simp [PyData.depthAll]
  | n :: ns => by simp [PyData.depthAll, PyData.depth, depth_ints ns]
theorem neI_nil {h : Hv} (ns : List Int) : neI (.frl (ns.map .int)) (.lst []) h = .ok (.bl (!ns.isEmpty)) h := by
  have e1 : toD h 16 (.frl (ns.map .int)) = some (.list (ns.map PyData.int)) := by
    show ((ns.map IV.int).mapM (toD h 15)).map PyData.list = _
    rw [toD_ints]; rfl
  have e2 : toD h 16 (.lst []) = some (.list []) := rfl
  unfold neI
  rw [e1, e2]
  simp only [SeqAt.shaped]
  cases ns with
  | nil => simp [PyData.canLay0, PyData.canLayAll0, PyData.depth, PyData.depthAll, PyData.eqv, PyData.eqvAll]
  | cons n ns => simp [PyData.canLay0, PyData.canLayAll0, PyData.depth, PyData.depthAll, PyData.eqv, PyData.eqvAll, lay_ints, depth_ints]
theorem at_ints {ns : List Int} {i : Nat} (h : i < ns.length) : L2.atI (ns.map IV.int) (i : Int) = some (.int ns[i]) := L2.atI_nat (by simp [h])
end Hs
end

section
set_option Elab.async false
set_option linter.all false
set_option maxRecDepth 100000
set_option maxHeartbeats 0
namespace Lw
open PySem L2 Hs

def c_dozing : Str := ⟨#[100, 111, 122, 105, 110, 103]⟩
def c_doze : Str := ⟨#[100, 111, 122, 101]⟩
def c_stirring : Str := ⟨#[115, 116, 105, 114, 114, 105, 110, 103]⟩
def c_near : Str := ⟨#[110, 101, 97, 114]⟩
def c_asleep : Str := ⟨#[97, 115, 108, 101, 101, 112]⟩
def c_used_sleeper : Str := ⟨#[117, 115, 101, 100, 95, 115, 108, 101, 101, 112, 101, 114]⟩
def c_ahead : Str := ⟨#[97, 104, 101, 97, 100]⟩
def c_soft : Str := ⟨#[115, 111, 102, 116]⟩
def c_stir : Str := ⟨#[115, 116, 105, 114]⟩
def c_faint : Str := ⟨#[102, 97, 105, 110, 116]⟩
def c_sorts : Str := ⟨#[115, 111, 114, 116, 115]⟩
def c_Sleeper : Str := ⟨#[83, 108, 101, 101, 112, 101, 114]⟩
def c_sort_of : Str := ⟨#[115, 111, 114, 116, 95, 111, 102]⟩
def c_loud : Str := ⟨#[108, 111, 117, 100]⟩
def c_wake : Str := ⟨#[119, 97, 107, 101]⟩
def c_again : Str := ⟨#[97, 103, 97, 105, 110]⟩
def c_doors : Str := ⟨#[100, 111, 111, 114, 115]⟩
def c_floors : Str := ⟨#[102, 108, 111, 111, 114, 115]⟩
def c_House : Str := ⟨#[72, 111, 117, 115, 101]⟩
def c_ways : Str := ⟨#[119, 97, 121, 115]⟩
def c_made_by : Str := ⟨#[109, 97, 100, 101, 95, 98, 121]⟩
def c_used_house : Str := ⟨#[117, 115, 101, 100, 95, 104, 111, 117, 115, 101]⟩
def c_layers : Str := ⟨#[108, 97, 121, 101, 114, 115]⟩
def c_Search : Str := ⟨#[83, 101, 97, 114, 99, 104]⟩
def c_closed_by_steps : Str := ⟨#[99, 108, 111, 115, 101, 100, 95, 98, 121, 95, 115, 116, 101, 112, 115]⟩
def c_behind_ticks : Str := ⟨#[98, 101, 104, 105, 110, 100, 95, 116, 105, 99, 107, 115]⟩
def c_with_room : Str := ⟨#[119, 105, 116, 104, 95, 114, 111, 111, 109]⟩
def c_rooms : Str := ⟨#[114, 111, 111, 109, 115]⟩
def c_up : Str := ⟨#[117, 112]⟩
def c_lines : Str := ⟨#[108, 105, 110, 101, 115]⟩
def c_x30 : Str := ⟨#[115, 116, 101, 112, 32]⟩
def c_x31 : Str := ⟨#[32]⟩
def c_x32 : Str := ⟨#[48]⟩
def c_tick : Str := ⟨#[116, 105, 99, 107]⟩
def c_step : Str := ⟨#[115, 116, 101, 112]⟩
def c_hum : Str := ⟨#[104, 117, 109]⟩
def c_told_events : Str := ⟨#[116, 111, 108, 100, 95, 101, 118, 101, 110, 116, 115]⟩
def c_guests : Str := ⟨#[103, 117, 101, 115, 116, 115]⟩
def c_nurses : Str := ⟨#[110, 117, 114, 115, 101, 115]⟩
def c_first : Str := ⟨#[102, 105, 114, 115, 116]⟩
def c_events : Str := ⟨#[101, 118, 101, 110, 116, 115]⟩
def c_Crowd : Str := ⟨#[67, 114, 111, 119, 100]⟩
def c_moves_to : Str := ⟨#[109, 111, 118, 101, 115, 95, 116, 111]⟩
def c_undo_step : Str := ⟨#[117, 110, 100, 111, 95, 115, 116, 101, 112]⟩
def c_Walk : Str := ⟨#[87, 97, 108, 107]⟩
def c_cradles : Str := ⟨#[99, 114, 97, 100, 108, 101, 115]⟩
def c_plnk : Str := ⟨#[112, 108, 110, 107]⟩
def c_gate : Str := ⟨#[103, 97, 116, 101]⟩
def c_sudden : Str := ⟨#[115, 117, 100, 100, 101, 110]⟩
def c_nothing : Str := ⟨#[110, 111, 116, 104, 105, 110, 103]⟩
def c_x50 : Str := ⟨#[48, 49, 50, 51, 52, 53, 54, 55, 56, 57]⟩
def c_abcdefghijklmnopqrstuvwxyz : Str := ⟨#[97, 98, 99, 100, 101, 102, 103, 104, 105, 106, 107, 108, 109, 110, 111, 112, 113, 114, 115, 116, 117, 118, 119, 120, 121, 122]⟩
def c_woken : Str := ⟨#[119, 111, 107, 101, 110]⟩
def v_ASLEEP : IV := .tup [.str c_asleep]
def v_AT_LOUD : IV := .tup [.str c_again, .str c_nothing, .str c_wake]
def v_DIGITS : IV := .str c_x50
def v_FIRSTS : IV := .tup [.str c_asleep, .str c_dozing, .str c_up]
def v_HUMS : IV := .tup [.str c_up, .str c_doze]
def v_LETTERS : IV := .str c_abcdefghijklmnopqrstuvwxyz
def v_SORTS : IV := .tup [.str c_faint, .str c_loud, .str c_soft, .str c_sudden]
def v_WOKEN_guests : IV := .tup [.str c_woken]
def v_WOKEN_sleepers : IV := .tup [.str c_woken]
def ct0 : FldT := [("Sleeper", ["sorts", "stir", "doze", "near", "loud"]), ("Walk", ["told_events", "guests", "nurses", "first", "events"]), ("Search", ["used_house", "used_sleeper", "ahead", "layers"]), ("Crowd", ["used_house", "rooms", "lines"]), ("House", ["rooms", "doors", "floors", "cradles"])]
def ct : FldT := [(c_Sleeper, [c_sorts, c_stir, c_doze, c_near, c_loud]), (c_Walk, [c_told_events, c_guests, c_nurses, c_first, c_events]), (c_Search, [c_used_house, c_used_sleeper, c_ahead, c_layers]), (c_Crowd, [c_used_house, c_rooms, c_lines]), (c_House, [c_rooms, c_doors, c_floors, c_cradles])]
def M_first_state : MS :=
  (retS (ifM (tst (bin eqQ (varM 1) (cM (.str c_dozing)))) (tupM (consA (cM (.str c_dozing)) (consA (fldQ ct c_doze (varM 0)) nilA))) (tupM (consA (varM 1) nilA))))
def F_first_state : List IV → Hv → R IV := frameF (fnM 2 M_first_state)
def M_first_standing : MS :=
  (retS (tupM (consA (callM (argM 2 [] F_first_state) (consA (varM 0) (consA (varM 1) nilA))) (consA (tupM (consA (cM (.int 0)) nilA)) (consA (tupM (consA (cM (.int 0)) nilA)) nilA)))))
def F_first_standing : List IV → Hv → R IV := frameF (fnM 2 M_first_standing)
def M_ticked : MS :=
  (seqS (ifS (tst (bin eqQ (bin ixQ (varM 1) (cM (.int 0))) (cM (.str c_dozing)))) (retS (ifM (tst (bin eqQ (bin ixQ (varM 1) (cM (.int 1))) (cM (.int 1)))) (cM v_ASLEEP) (tupM (consA (cM (.str c_dozing)) (consA (bin subI (bin ixQ (varM 1) (cM (.int 1))) (cM (.int 1))) nilA))))) nilS)
  (seqS (ifS (tst (bin eqQ (bin ixQ (varM 1) (cM (.int 0))) (cM (.str c_stirring)))) (retS (ifM (tst (bin eqQ (bin ixQ (varM 1) (cM (.int 1))) (cM (.int 1)))) (cM v_WOKEN_sleepers) (tupM (consA (cM (.str c_stirring)) (consA (bin subI (bin ixQ (varM 1) (cM (.int 1))) (cM (.int 1))) nilA))))) nilS)
  (seqS (ifS (tst (bin eqQ (callM lenI2 (consA (varM 1) nilA)) (cM (.int 3)))) (retS (ifM (tst (bin gtI (bin addIV (bin ixQ (varM 1) (cM (.int 2))) (cM (.int 1))) (fldQ ct c_near (varM 0)))) (cM v_ASLEEP) (tupM (consA (cM (.str c_asleep)) (consA (bin ixQ (varM 1) (cM (.int 1))) (consA (bin addIV (bin ixQ (varM 1) (cM (.int 2))) (cM (.int 1))) nilA)))))) nilS)
  (retS (varM 1)))))
def F_ticked : List IV → Hv → R IV := frameF (fnM 2 M_ticked)
def M_behind_tick : MS :=
  (seqS (setS 2 (callM (argM 2 [] F_ticked) (consA (varM 0) (consA (bin ixQ (varM 1) (cM (.int 0))) nilA))))
  (retS (ifM (tst (bin eqQ (varM 2) (cM v_WOKEN_guests))) (cM (.non)) (tupM (consA (varM 2) (consA (bin ixQ (varM 1) (cM (.int 2))) (consA (bin ixQ (varM 1) (cM (.int 2))) nilA)))))))
def F_behind_tick : List IV → Hv → R IV := frameF (fnM 3 M_behind_tick)
def B_Search_behind_ticks_0 : MS :=
  (seqS (setS 4 (callM (argM 2 [] F_behind_tick) (consA (fldQ ct c_used_sleeper (varM 0)) (consA (varM 3) nilA))))
  (ifS (andT (tst (bin isNotI (varM 4) (cM (.non)))) (tst (bin notInQ (varM 4) (fldQ ct c_ahead (varM 0))))) (seqS (putQ (fldQ ct c_ahead (varM 0)) (varM 4) (tupM (consA (varM 3) (consA (cM (.non)) (consA (cM (.non)) nilA)))))
  (exprS (metL appendI (varM 2) (consA (varM 4) nilA)))) nilS))
def M_Search_behind_ticks : MS :=
  (seqS (setS 2 (lstM nilA))
  (seqS (forS (seqI (varM 1)) (nameG 3) B_Search_behind_ticks_0)
  (retS (varM 2))))
def F_Search_behind_ticks : List IV → Hv → R IV := tidyF (fnM 5 M_Search_behind_ticks)
def M_heard_asleep : MS :=
  (seqS (ifS (tst (bin eqQ (varM 3) (cM (.str c_soft)))) (retS (tupM (consA (cM (.str c_stirring)) (consA (fldQ ct c_stir (varM 0)) nilA)))) nilS)
  (seqS (ifS (tst (bin eqQ (varM 3) (cM (.str c_faint)))) (retS (ifM (orT (tst (bin eqQ (callM lenI2 (consA (varM 1) nilA)) (cM (.int 1)))) (tst (bin eqQ (bin ixQ (varM 1) (cM (.int 1))) (varM 2)))) (tupM (consA (cM (.str c_asleep)) (consA (varM 2) (consA (cM (.int 0)) nilA)))) (cM v_WOKEN_sleepers))) nilS)
  (retS (ifM (tst (bin isI (varM 3) (cM (.non)))) (varM 1) (cM v_WOKEN_sleepers)))))
def F_heard_asleep : List IV → Hv → R IV := frameF (fnM 4 M_heard_asleep)
def M_Sleeper_sort_of : MS :=
  (seqS (setS 2 (tidyM (lcM (seqI (fldQ ct c_sorts (varM 0))) (tupG 2 (consG (nameG 3) (consG (nameG 4) nilG))) (tst (bin eqQ (varM 3) (varM 1))) (varM 4) [3, 4])))
  (retS (ifM (tst (bin gtI (callM lenI2 (consA (varM 2) nilA)) (cM (.int 0)))) (bin ixQ (varM 2) (cM (.int 0))) (cM (.non)))))
def F_Sleeper_sort_of : List IV → Hv → R IV := frameF (fnM 5 M_Sleeper_sort_of)
def M_heard : MS :=
  (seqS (setS 3 (methQ c_Sleeper c_sort_of 2 [] F_Sleeper_sort_of (varM 0) (consA (varM 2) nilA)))
  (seqS (ifS (tst (bin eqQ (bin ixQ (varM 1) (cM (.int 0))) (cM (.str c_asleep)))) (retS (callM (argM 4 [] F_heard_asleep) (consA (varM 0) (consA (varM 1) (consA (varM 2) (consA (varM 3) nilA)))))) nilS)
  (seqS (ifS (tst (bin neQ (varM 3) (cM (.str c_loud)))) (retS (varM 1)) nilS)
  (seqS (ifS (andT (tst (bin eqQ (bin ixQ (varM 1) (cM (.int 0))) (cM (.str c_dozing)))) (tst (bin neQ (fldQ ct c_loud (varM 0)) (cM (.str c_wake))))) (retS (ifM (tst (bin eqQ (fldQ ct c_loud (varM 0)) (cM (.str c_again)))) (tupM (consA (cM (.str c_dozing)) (consA (fldQ ct c_doze (varM 0)) nilA))) (varM 1))) nilS)
  (retS (ifM (tst (bin inQ (bin ixQ (varM 1) (cM (.int 0))) (tupM (consA (cM (.str c_dozing)) (consA (cM (.str c_stirring)) nilA))))) (cM v_WOKEN_sleepers) (varM 1)))))))
def F_heard : List IV → Hv → R IV := frameF (fnM 4 M_heard)
def B_heard_all_0 : MS :=
  (setS 1 (callM (argM 3 [] F_heard) (consA (varM 0) (consA (varM 1) (consA (varM 3) nilA)))))
def M_heard_all : MS :=
  (seqS (forS (seqI (varM 2)) (nameG 3) B_heard_all_0)
  (retS (varM 1)))
def F_heard_all : List IV → Hv → R IV := frameF (fnM 4 M_heard_all)
def M_House_made_by : MS :=
  (seqS (setS 3 (bin ixQ (bin ixQ (fldQ ct c_doors (varM 0)) (varM 1)) (cM (.int 2))))
  (seqS (setS 4 (tidyM (lcM (seqI (fldQ ct c_floors (varM 0))) (tupG 2 (consG (nameG 5) (consG (nameG 6) nilG))) (tst (bin eqQ (varM 5) (varM 2))) (varM 6) [5, 6])))
  (retS (callM tupleI (consA (ifM (tst (bin isI (varM 3) (cM (.non)))) (varM 4) (lstMV (consA (varM 3) (starA (varM 4) nilA)))) nilA)))))
def F_House_made_by : List IV → Hv → R IV := frameF (fnM 7 M_House_made_by)
def M_House_ways : MS :=
  (seqS (setS 2 (tidyM (lcM (enmA (consA (fldQ ct c_doors (varM 0)) nilA)) (tupG 2 (consG (nameG 3) (consG (nameG 4) nilG))) (tst (bin inQ (varM 1) (slMV (varM 4) noneO (someO (cM (.int 2)))))) (tupM (consA (varM 3) (consA (bin ixQ (varM 4) (bin subI (cM (.int 1)) (tixM (varM 4) noneO (someO (cM (.int 2))) (varM 1)))) nilA))) [3, 4])))
  (retS (callM tupleI (consA (varM 2) nilA))))
def F_House_ways : List IV → Hv → R IV := frameF (fnM 5 M_House_ways)
def B_behind_steps_0 : MS :=
  (seqS (setS 10 (callM (argM 3 [] F_heard_all) (consA (varM 1) (consA (varM 3) (consA (methQ c_House c_made_by 3 [] F_House_made_by (varM 0) (consA (varM 8) (consA (varM 9) nilA))) nilA)))))
  (seqS (setS 11 (ifM (tst (bin inQ (varM 9) (varM 5))) (varM 5) (callM tupleI (consA (callM sortedIV (consA (lstMV (starA (varM 5) (consA (callM intI (consA (varM 9) nilA)) nilA))) nilA)) nilA))))
  (exprS (metL appendI (varM 6) (consA (tupM (consA (varM 8) (consA (varM 9) (consA (ifM (tst (bin eqQ (varM 10) (cM v_WOKEN_guests))) (cM (.non)) (tupM (consA (varM 10) (consA (varM 4) (consA (varM 11) nilA))))) nilA)))) nilA)))))
def B_behind_steps_1 : MS :=
  (forS (seqI (methQ c_House c_ways 2 [] F_House_ways (varM 0) (consA (varM 7) nilA))) (tupG 2 (consG (nameG 8) (consG (nameG 9) nilG))) B_behind_steps_0)
def M_behind_steps : MS :=
  (seqS (asgS (tupG 3 (consG (nameG 3) (consG (nameG 4) (consG (nameG 5) nilG)))) (varM 2))
  (seqS (setS 6 (lstM nilA))
  (seqS (forS (seqI (varM 4)) (nameG 7) B_behind_steps_1)
  (retS (varM 6)))))
def F_behind_steps : List IV → Hv → R IV := tidyF (fnM 12 M_behind_steps)
def B_Search_closed_by_steps_0 : MS :=
  (ifS (andT (tst (bin isNotI (varM 6) (cM (.non)))) (tst (bin notInQ (varM 6) (fldQ ct c_ahead (varM 0))))) (seqS (putQ (fldQ ct c_ahead (varM 0)) (varM 6) (tupM (consA (bin ixQ (varM 2) (varM 3)) (consA (varM 4) (consA (varM 5) nilA)))))
  (exprS (metL appendI (varM 2) (consA (varM 6) nilA)))) nilS)
def B_Search_closed_by_steps_1 : MS :=
  (seqS (forS (seqI (callM (argM 3 [] F_behind_steps) (consA (fldQ ct c_used_house (varM 0)) (consA (fldQ ct c_used_sleeper (varM 0)) (consA (bin ixQ (varM 2) (varM 3)) nilA))))) (tupG 3 (consG (nameG 4) (consG (nameG 5) (consG (nameG 6) nilG)))) B_Search_closed_by_steps_0)
  (augS 3 (cM (.int 1))))
def M_Search_closed_by_steps : MS :=
  (seqS (par2S 2 3 (consA (callM listI (consA (varM 1) nilA)) (consA (cM (.int 0)) nilA)))
  (seqS (whileS (tst (bin ltI (varM 3) (callM lenI2 (consA (varM 2) nilA)))) B_Search_closed_by_steps_1)
  (retS (varM 2))))
def F_Search_closed_by_steps : List IV → Hv → R IV := tidyF (fnM 7 M_Search_closed_by_steps)
def B_Search___init___0 : MS :=
  (seqS (exprS (metL appendI (fldQ ct c_layers (varM 0)) (consA (methQ c_Search c_closed_by_steps 2 [] F_Search_closed_by_steps (varM 0) (consA (varM 5) nilA)) nilA)))
  (setS 5 (methQ c_Search c_behind_ticks 2 [] F_Search_behind_ticks (varM 0) (consA (bin ixQ (fldQ ct c_layers (varM 0)) (negM (cM (.int 1)))) nilA))))
def M_Search___init__ : MS :=
  (seqS (setFQ ct c_used_house (varM 0) (varM 1))
  (seqS (setFQ ct c_used_sleeper (varM 0) (varM 2))
  (seqS (setS 4 (callM (argM 2 [] F_first_standing) (consA (varM 2) (consA (varM 3) nilA))))
  (seqS (setFQ ct c_ahead (varM 0) (disp1N (varM 4) (cM (.non))))
  (seqS (setFQ ct c_layers (varM 0) (lstM nilA))
  (seqS (setS 5 (lstMV (consA (varM 4) nilA)))
  (whileS (tst (bin gtI (callM lenI2 (consA (varM 5) nilA)) (cM (.int 0)))) B_Search___init___0)))))))
def F_Search___init__ : List IV → Hv → R IV := fnM 6 M_Search___init__
def B_Search_with_room_0 : MS :=
  (ifS (tst (bin inQ (varM 1) (bin ixQ (varM 4) (cM (.int 2))))) (retS (tupM (consA (varM 2) (consA (varM 4) nilA)))) nilS)
def B_Search_with_room_1 : MS :=
  (forS (seqI (varM 3)) (nameG 4) B_Search_with_room_0)
def M_Search_with_room : MS :=
  (seqS (forS (enmA (consA (fldQ ct c_layers (varM 0)) nilA)) (tupG 2 (consG (nameG 2) (consG (nameG 3) nilG))) B_Search_with_room_1)
  (retS (cM (.non))))
def F_Search_with_room : List IV → Hv → R IV := fnM 5 M_Search_with_room
def M_fewest : MS :=
  (seqS (setS 4 (methQ c_Search c_with_room 2 [] F_Search_with_room (callM (mkM c_Search 4 [] F_Search___init__) (consA (varM 0) (consA (varM 1) (consA (varM 2) nilA)))) (consA (varM 3) nilA)))
  (retS (ifM (tst (bin isI (varM 4) (cM (.non)))) (cM (.non)) (bin ixQ (varM 4) (cM (.int 0))))))
def F_fewest : List IV → Hv → R IV := frameF (tidyF (fnM 5 M_fewest))
def B_unheard_0 : MS :=
  (exprS (metD updQ (varM 3) (consA (tidyM (lcM (seqI (bin ixQ (varM 5) (cM (.int 2)))) (nameG 6) yesB (tupM (consA (varM 6) (consA (cM (.bl true)) nilA))) [6])) nilA)))
def B_unheard_1 : MS :=
  (forS (seqI (varM 4)) (nameG 5) B_unheard_0)
def M_unheard : MS :=
  (seqS (setS 3 dnewM)
  (seqS (forS (seqI (fldQ ct c_layers (callM (mkM c_Search 4 [] F_Search___init__) (consA (varM 0) (consA (varM 1) (consA (varM 2) nilA)))))) (nameG 4) B_unheard_1)
  (retS (callM tupleI (consA (callM sortedIV (consA (tidyM (lockM (varM 3) (lcM (keyI (varM 3)) (nameG 6) yesB (callM intI (consA (varM 6) nilA)) [6]))) nilA)) nilA)))))
def F_unheard : List IV → Hv → R IV := frameF (tidyF (fnM 7 M_unheard))
def B_table_0 : MS :=
  (exprS (metL extendI (varM 4) (consA (varM 5) nilA)))
def M_table : MS :=
  (seqS (ifS (tst (bin inQ (varM 3) (callM (argM 3 [] F_unheard) (consA (varM 0) (consA (varM 1) (consA (varM 2) nilA)))))) (retS (cM (.non))) nilS)
  (seqS (setS 4 (lstM nilA))
  (seqS (forS (seqI (fldQ ct c_layers (callM (mkM c_Search 4 [] F_Search___init__) (consA (varM 0) (consA (varM 1) (consA (varM 2) nilA)))))) (nameG 5) B_table_0)
  (retS (callM tupleI (consA (varM 4) nilA))))))
def F_table : List IV → Hv → R IV := frameF (tidyF (fnM 6 M_table))
def M_is_integer : MS :=
  (retS (andM (isiM [.int] (varM 0)) (notM (isiM [.bl] (varM 0)))))
def F_is_integer : List IV → Hv → R IV := frameF (fnM 1 M_is_integer)
def M_is_from : MS :=
  (retS (andM (callM (argM 1 [] F_is_integer) (consA (varM 0) nilA)) (bin geI (varM 0) (varM 1))))
def F_is_from : List IV → Hv → R IV := frameF (fnM 2 M_is_from)
def M_is_number : MS :=
  (retS (callM (argM 2 [] F_is_from) (consA (varM 0) (consA (cM (.int 0)) nilA))))
def F_is_number : List IV → Hv → R IV := frameF (fnM 1 M_is_number)
def M_is_lot : MS :=
  (seqS (ifS (orT (notT (truM (isiM [.tup] (varM 1)))) (notT (truM (callM allI (consA (tidyM (lcM (seqI (varM 1)) (nameG 2) yesB (andM (callM (argM 1 [] F_is_number) (consA (varM 2) nilA)) (bin ltI (varM 2) (fldQ ct c_rooms (varM 0)))) [2])) nilA))))) (retS (cM (.bl false))) nilS)
  (retS (callM allI (consA (tidyM (lcM (zipA (consA (varM 1) (consA (slMV (varM 1) (someO (cM (.int 1))) noneO) nilA))) (tupG 2 (consG (nameG 3) (consG (nameG 4) nilG))) yesB (bin ltI (varM 3) (varM 4)) [3, 4])) nilA))))
def F_is_lot : List IV → Hv → R IV := frameF (fnM 5 M_is_lot)
def M_is_between : MS :=
  (retS (andM (callM (argM 1 [] F_is_integer) (consA (varM 0) nilA)) (chain leI leI (varM 1) (varM 0) (varM 2))))
def F_is_between : List IV → Hv → R IV := frameF (fnM 3 M_is_between)
def M_is_longer_state : MS :=
  (seqS (ifS (andT (tst (bin eqQ (callM lenI2 (consA (varM 1) nilA)) (cM (.int 2)))) (tst (bin eqQ (bin ixQ (varM 1) (cM (.int 0))) (cM (.str c_dozing))))) (retS (callM (argM 3 [] F_is_between) (consA (bin ixQ (varM 1) (cM (.int 1))) (consA (cM (.int 1)) (consA (fldQ ct c_doze (varM 0)) nilA))))) nilS)
  (seqS (ifS (tst (bin eqQ (callM lenI2 (consA (varM 1) nilA)) (cM (.int 2)))) (retS (andM (bin eqQ (bin ixQ (varM 1) (cM (.int 0))) (cM (.str c_stirring))) (callM (argM 3 [] F_is_between) (consA (bin ixQ (varM 1) (cM (.int 1))) (consA (cM (.int 1)) (consA (fldQ ct c_stir (varM 0)) nilA)))))) nilS)
  (seqS (ifS (orT (tst (bin neQ (callM lenI2 (consA (varM 1) nilA)) (cM (.int 3)))) (orT (tst (bin neQ (bin ixQ (varM 1) (cM (.int 0))) (cM (.str c_asleep)))) (notT (truM (isiM [.str] (bin ixQ (varM 1) (cM (.int 1)))))))) (retS (cM (.bl false))) nilS)
  (retS (andM (bin eqQ (methQ c_Sleeper c_sort_of 2 [] F_Sleeper_sort_of (varM 0) (consA (bin ixQ (varM 1) (cM (.int 1))) nilA)) (cM (.str c_faint))) (callM (argM 3 [] F_is_between) (consA (bin ixQ (varM 1) (cM (.int 2))) (consA (cM (.int 0)) (consA (fldQ ct c_near (varM 0)) nilA)))))))))
def F_is_longer_state : List IV → Hv → R IV := fnM 2 M_is_longer_state
def M_is_state : MS :=
  (seqS (ifS (orT (notT (truM (isiM [.tup] (varM 1)))) (orT (tst (bin eqQ (callM lenI2 (consA (varM 1) nilA)) (cM (.int 0)))) (notT (truM (isiM [.str] (bin ixQ (varM 1) (cM (.int 0)))))))) (retS (cM (.bl false))) nilS)
  (retS (ifM (tst (bin eqQ (callM lenI2 (consA (varM 1) nilA)) (cM (.int 1)))) (bin inQ (bin ixQ (varM 1) (cM (.int 0))) (tupM (consA (cM (.str c_asleep)) (consA (cM (.str c_up)) nilA)))) (callM (argM 2 [] F_is_longer_state) (consA (varM 0) (consA (varM 1) nilA))))))
def F_is_state : List IV → Hv → R IV := fnM 2 M_is_state
def M_is_standing : MS :=
  (seqS (ifS (orT (notT (truM (isiM [.tup] (varM 2)))) (orT (tst (bin neQ (callM lenI2 (consA (varM 2) nilA)) (cM (.int 3)))) (notT (truM (callM (argM 2 [] F_is_state) (consA (varM 1) (consA (bin ixQ (varM 2) (cM (.int 0))) nilA))))))) (retS (cM (.bl false))) nilS)
  (seqS (ifS (orT (notT (truM (callM (argM 2 [] F_is_lot) (consA (varM 0) (consA (bin ixQ (varM 2) (cM (.int 1))) nilA))))) (orT (notT (truM (callM (argM 2 [] F_is_lot) (consA (varM 0) (consA (bin ixQ (varM 2) (cM (.int 2))) nilA))))) (tst (bin eqQ (callM lenI2 (consA (bin ixQ (varM 2) (cM (.int 1))) nilA)) (cM (.int 0)))))) (retS (cM (.bl false))) nilS)
  (retS (callM allI (consA (tidyM (lcM (seqI (bin ixQ (varM 2) (cM (.int 1)))) (nameG 3) yesB (bin inQ (varM 3) (bin ixQ (varM 2) (cM (.int 2)))) [3])) nilA)))))
def F_is_standing : List IV → Hv → R IV := frameF (fnM 4 M_is_standing)
def M_leads_within : MS :=
  (seqS (setS 4 (id (lcM (seqI (callM (argM 3 [] F_behind_steps) (consA (varM 0) (consA (varM 1) (consA (varM 2) nilA))))) (tupG 3 (consG (nameG 5) (consG (nameG 6) (consG (nameG 7) nilG)))) yesB (varM 7) [5, 6, 7])))
  (seqS (exprS (metL appendI (varM 4) (consA (callM (argM 2 [] F_behind_tick) (consA (varM 1) (consA (varM 2) nilA))) nilA)))
  (retS (callM allI (consA (tidyM (lcM (seqI (varM 4)) (nameG 7) yesB (orM (bin isI (varM 7) (cM (.non))) (bin inQ (varM 7) (varM 3))) [7])) nilA)))))
def F_leads_within : List IV → Hv → R IV := frameF (tidyF (fnM 8 M_leads_within))
def M_table_holds : MS :=
  (seqS (ifS (orT (notT (truM (isiM [.tup] (varM 4)))) (notT (truM (callM allI (consA (tidyM (lcM (seqI (varM 4)) (nameG 5) yesB (callM (argM 3 [] F_is_standing) (consA (varM 0) (consA (varM 1) (consA (varM 5) nilA)))) [5])) nilA))))) (retS (cM (.bl false))) nilS)
  (seqS (setS 6 (dcN (seqI (varM 4)) (nameG 7) yesB (varM 7) (cM (.bl true)) [7]))
  (seqS (ifS (orT (tst (bin ltI (callM lenI2 (consA (varM 6) nilA)) (callM lenI2 (consA (varM 4) nilA)))) (tst (bin notInQ (callM (argM 2 [] F_first_standing) (consA (varM 1) (consA (varM 2) nilA))) (varM 6)))) (retS (cM (.bl false))) nilS)
  (seqS (ifS (truM (callM anyI (consA (tidyM (lcM (seqI (varM 4)) (nameG 7) yesB (bin inQ (varM 3) (bin ixQ (varM 7) (cM (.int 2)))) [7])) nilA))) (retS (cM (.bl false))) nilS)
  (retS (callM allI (consA (tidyM (lcM (seqI (varM 4)) (nameG 7) yesB (callM (argM 4 [] F_leads_within) (consA (varM 0) (consA (varM 1) (consA (varM 7) (consA (varM 6) nilA))))) [7])) nilA)))))))
def F_table_holds : List IV → Hv → R IV := frameF (tidyF (fnM 8 M_table_holds))
def M_Crowd___init__ : MS :=
  (seqS (setFQ ct c_used_house (varM 0) (varM 1))
  (seqS (setFQ ct c_rooms (varM 0) (lstM (consA (varM 2) nilA)))
  (setFQ ct c_lines (varM 0) (lstM nilA))))
def F_Crowd___init__ : List IV → Hv → R IV := fnM 3 M_Crowd___init__
def B_Crowd_undo_step_0 : MS :=
  (seqS (putQ (fldQ ct c_rooms (varM 0)) (varM 5) (varM 7))
  (exprS (metL appendI (fldQ ct c_lines (varM 0)) (consA (joinedM [(cM (.str c_x30)), (fmtM (varM 5)), (cM (.str c_x31)), (fmtM (varM 2))]) nilA))))
def M_Crowd_undo_step : MS :=
  (seqS (setS 4 (tidyM (lcM (enmA (consA (fldQ ct c_rooms (varM 0)) nilA)) (tupG 2 (consG (nameG 5) (consG (nameG 6) nilG))) (andT (tst (bin eqQ (varM 6) (varM 3))) (tst (bin notInQ (varM 3) (bin ixQ (varM 1) (cM (.int 2)))))) (varM 5) [5, 6])))
  (seqS (ifS (tst (bin eqQ (callM lenI2 (consA (varM 4) nilA)) (cM (.int 0)))) (seqS (exprS (metL appendI (fldQ ct c_rooms (varM 0)) (consA (varM 3) nilA)))
  (setS 4 (lstMV (consA (bin subI (callM lenI2 (consA (fldQ ct c_rooms (varM 0)) nilA)) (cM (.int 1))) nilA)))) nilS)
  (seqS (setS 7 (bin ixQ (tidyM (lcM (seqI (slMV (bin ixQ (fldQ ct c_doors (fldQ ct c_used_house (varM 0))) (varM 2)) noneO (someO (cM (.int 2))))) (nameG 8) (tst (bin neQ (varM 8) (varM 3))) (varM 8) [8])) (cM (.int 0))))
  (forS (seqI (varM 4)) (nameG 5) B_Crowd_undo_step_0))))
def F_Crowd_undo_step : List IV → Hv → R IV := fnM 9 M_Crowd_undo_step
def B_Search_moves_to_0 : MS :=
  (seqS (exprS (metL appendI (varM 2) (consA (bin ixQ (fldQ ct c_ahead (varM 0)) (varM 1)) nilA)))
  (setS 1 (bin ixQ (bin ixQ (fldQ ct c_ahead (varM 0)) (varM 1)) (cM (.int 0)))))
def M_Search_moves_to : MS :=
  (seqS (setS 2 (lstM nilA))
  (seqS (whileS (tst (bin isNotI (bin ixQ (fldQ ct c_ahead (varM 0)) (varM 1)) (cM (.non)))) B_Search_moves_to_0)
  (retS (revMV (varM 2)))))
def F_Search_moves_to : List IV → Hv → R IV := tidyF (fnM 3 M_Search_moves_to)
def M_number_in : MS :=
  (seqS (ifS (orT (notT (tst (chain leI leI (cM (.int 1)) (callM lenI2 (consA (varM 0) nilA)) (varM 1)))) (notT (truM (callM allI (consA (tidyM (lcM (seqI (varM 0)) (nameG 2) yesB (bin inQ (varM 2) (cM v_DIGITS)) [2])) nilA))))) (retS (cM (.non))) nilS)
  (retS (ifM (orT (tst (bin eqQ (varM 0) (cM (.str c_x32)))) (tst (bin neQ (bin ixQ (varM 0) (cM (.int 0))) (cM (.str c_x32))))) (callM intI (consA (varM 0) nilA)) (cM (.non)))))
def F_number_in : List IV → Hv → R IV := frameF (fnM 3 M_number_in)
def M_event_in : MS :=
  (seqS (setS 2 (ifM (truM (isiM [.str] (varM 0))) (metT splitIV (varM 0) (consA (cM (.str c_x31)) nilA)) (lstMV nilA)))
  (seqS (ifS (tst (bin eqQ (varM 2) (lstMV (consA (cM (.str c_tick)) nilA)))) (retS (tupM (consA (cM (.str c_tick)) nilA))) nilS)
  (seqS (ifS (tst (bin neQ (callM lenI2 (consA (varM 2) nilA)) (cM (.int 3)))) (retS (cM (.non))) nilS)
  (seqS (par2S 3 4 (consA (callM (argM 2 [] F_number_in) (consA (bin ixQ (varM 2) (cM (.int 1))) (consA (cM (.int 2)) nilA))) (consA (callM (argM 2 [] F_number_in) (consA (bin ixQ (varM 2) (cM (.int 2))) (consA (cM (.int 2)) nilA))) nilA)))
  (seqS (ifS (orT (tst (bin isI (varM 3) (cM (.non)))) (tst (bin geI (varM 3) (varM 1)))) (retS (cM (.non))) nilS)
  (seqS (ifS (andT (tst (bin eqQ (bin ixQ (varM 2) (cM (.int 0))) (cM (.str c_step)))) (tst (bin isNotI (varM 4) (cM (.non))))) (retS (tupM (consA (cM (.str c_step)) (consA (varM 3) (consA (varM 4) nilA))))) nilS)
  (retS (ifM (andT (tst (bin eqQ (bin ixQ (varM 2) (cM (.int 0))) (cM (.str c_hum)))) (tst (bin inQ (bin ixQ (varM 2) (cM (.int 2))) (cM v_HUMS)))) (tupM (consA (cM (.str c_hum)) (consA (varM 3) (consA (bin ixQ (varM 2) (cM (.int 2))) nilA)))) (cM (.non))))))))))
def F_event_in : List IV → Hv → R IV := frameF (fnM 5 M_event_in)
def M_events_of : MS :=
  (seqS (setS 2 (tidyM (lcM (seqI (varM 0)) (nameG 3) yesB (callM (argM 2 [] F_event_in) (consA (varM 3) (consA (varM 1) nilA))) [3])))
  (seqS (ifS (tst (bin inQ (cM (.non)) (varM 2))) badS nilS)
  (retS (callM tupleI (consA (varM 2) nilA)))))
def F_events_of : List IV → Hv → R IV := frameF (fnM 4 M_events_of)
def M_is_sequence : MS :=
  (retS (isiM [.lst, .tup] (varM 0)))
def F_is_sequence : List IV → Hv → R IV := fnM 1 M_is_sequence
def M_is_word : MS :=
  (retS (andM (isiM [.str] (varM 0)) (bin inQ (varM 0) (varM 1))))
def F_is_word : List IV → Hv → R IV := frameF (fnM 2 M_is_word)
def M_Walk___init__ : MS :=
  (seqS (ifS (notT (truM (callM (argM 1 [] F_is_number) (consA (varM 1) nilA)))) badS nilS)
  (seqS (ifS (notT (truM (callM (argM 1 [] F_is_number) (consA (varM 2) nilA)))) badS nilS)
  (seqS (ifS (notT (truM (callM (argM 2 [] F_is_word) (consA (varM 3) (consA (cM v_FIRSTS) nilA))))) badS nilS)
  (seqS (ifS (notT (truM (callM (argM 1 [] F_is_sequence) (consA (varM 4) nilA)))) badS nilS)
  (seqS (setFQ ct c_told_events (varM 0) (callM (argM 2 [] F_events_of) (consA (varM 4) (consA (bin addIV (varM 1) (varM 2)) nilA))))
  (seqS (setFQ ct c_guests (varM 0) (varM 1))
  (seqS (setFQ ct c_nurses (varM 0) (varM 2))
  (seqS (setFQ ct c_first (varM 0) (varM 3))
  (setFQ ct c_events (varM 0) (callM tupleI (consA (varM 4) nilA)))))))))))
def F_Walk___init__ : List IV → Hv → R IV := fnM 5 M_Walk___init__
def B_way_0 : MS :=
  (ifS (tst (bin isI (varM 8) (cM (.non)))) (exprS (metL appendI (fldQ ct c_lines (varM 6)) (consA (cM (.str c_tick)) nilA))) (exprS (methQ c_Crowd c_undo_step 4 [] F_Crowd_undo_step (varM 6) (consA (varM 7) (consA (varM 8) (consA (varM 9) nilA))))))
def M_way : MS :=
  (seqS (setS 4 (callM (mkM c_Search 4 [] F_Search___init__) (consA (varM 0) (consA (varM 1) (consA (varM 2) nilA)))))
  (seqS (setS 5 (methQ c_Search c_with_room 2 [] F_Search_with_room (varM 4) (consA (varM 3) nilA)))
  (seqS (ifS (tst (bin isI (varM 5) (cM (.non)))) (retS (cM (.non))) nilS)
  (seqS (setS 6 (callM (mkM c_Crowd 3 [] F_Crowd___init__) (consA (varM 0) (consA (varM 3) nilA))))
  (seqS (forS (seqI (revMV (methQ c_Search c_moves_to 2 [] F_Search_moves_to (varM 4) (consA (bin ixQ (varM 5) (cM (.int 1))) nilA)))) (tupG 3 (consG (nameG 7) (consG (nameG 8) (consG (nameG 9) nilG)))) B_way_0)
  (retS (tidyM (callM (mkM c_Walk 5 [] F_Walk___init__) (consA (callM lenI2 (consA (fldQ ct c_rooms (varM 6)) nilA)) (consA (cM (.int 0)) (consA (varM 2) (consA (revMV (fldQ ct c_lines (varM 6))) nilA))))))))))))
def F_way : List IV → Hv → R IV := tidyF (fnM 10 M_way)
def B__law_called_0 : MS :=
  frS (seqS (setS 4 (callM (argM 4 [] F_fewest) (consA (varM 0) (consA (varM 1) (consA (varM 2) (consA (varM 3) nilA))))))
  (seqS (ifS (tst (bin neQ (callM (kwF 4 4 [3, 2, 1, 0] F_fewest) (consA (varM 3) (consA (varM 2) (consA (varM 1) (consA (varM 0) nilA))))) (varM 4))) (retS (cM (.bl false))) nilS)
  (seqS (ifS (tst (bin neQ (bin isI (callM (kwF 4 4 [3, 2, 1, 0] F_way) (consA (varM 3) (consA (varM 2) (consA (varM 1) (consA (varM 0) nilA))))) (cM (.non))) (bin isI (varM 4) (cM (.non))))) (retS (cM (.bl false))) nilS)
  (seqS (setS 5 (callM (kwF 4 4 [3, 2, 1, 0] F_table) (consA (varM 3) (consA (varM 2) (consA (varM 1) (consA (varM 0) nilA))))))
  (ifS (tst (bin neQ (callM (kwF 5 5 [3, 4, 2, 1, 0] F_table_holds) (consA (varM 5) (consA (varM 3) (consA (varM 2) (consA (varM 0) (consA (varM 1) nilA)))))) (bin isI (varM 4) (cM (.non))))) (retS (cM (.bl false))) nilS)))))
def M__law_called : MS :=
  (seqS (ifS (tst (bin neQ (callM (kwF 3 3 [1, 2, 0] F_unheard) (consA (varM 2) (consA (varM 0) (consA (varM 1) nilA)))) (callM (argM 3 [] F_unheard) (consA (varM 0) (consA (varM 1) (consA (varM 2) nilA)))))) (retS (cM (.bl false))) nilS)
  (seqS (forS (rng1 (consA (fldQ ct c_rooms (varM 0)) nilA)) (nameG 3) B__law_called_0)
  (retS (cM (.bl true)))))
def F__law_called : List IV → Hv → R IV := frameF (fnM 6 M__law_called)
def M_are_unlike : MS :=
  (retS (bin eqQ (callM lenI2 (consA (dcQ (seqI (varM 0)) (nameG 1) yesB (varM 1) (cM (.bl true)) [1]) nilA)) (callM lenI2 (consA (varM 0) nilA))))
def F_are_unlike : List IV → Hv → R IV := frameF (tidyF (fnM 2 M_are_unlike))
def M_is_name : MS :=
  (retS (andM (isiM [.str] (varM 0)) (andM (chain leI leI (cM (.int 1)) (callM lenI2 (consA (varM 0) nilA)) (cM (.int 4))) (callM allI (consA (tidyM (lcM (seqI (varM 0)) (nameG 1) yesB (bin inQ (varM 1) (cM v_LETTERS)) [1])) nilA)))))
def F_is_name : List IV → Hv → R IV := frameF (fnM 2 M_is_name)
def M_is_room : MS :=
  (retS (andM (callM (argM 1 [] F_is_integer) (consA (varM 0) nilA)) (chain leI ltI (cM (.int 0)) (varM 0) (varM 1))))
def F_is_room : List IV → Hv → R IV := frameF (fnM 2 M_is_room)
def M_is_door : MS :=
  (seqS (ifS (orT (notT (truM (isiM [.tup] (varM 0)))) (tst (bin neQ (callM lenI2 (consA (varM 0) nilA)) (cM (.int 3))))) (retS (cM (.bl false))) nilS)
  (seqS (asgS (tupG 3 (consG (nameG 2) (consG (nameG 3) (consG (nameG 4) nilG)))) (varM 0))
  (seqS (ifS (orT (notT (truM (callM (argM 2 [] F_is_room) (consA (varM 2) (consA (varM 1) nilA))))) (orT (notT (truM (callM (argM 2 [] F_is_room) (consA (varM 3) (consA (varM 1) nilA))))) (tst (bin eqQ (varM 2) (varM 3))))) (retS (cM (.bl false))) nilS)
  (retS (orM (bin isI (varM 4) (cM (.non))) (callM (argM 1 [] F_is_name) (consA (varM 4) nilA)))))))
def F_is_door : List IV → Hv → R IV := frameF (fnM 5 M_is_door)
def M_is_floor : MS :=
  (retS (andM (isiM [.tup] (varM 0)) (andM (bin eqQ (callM lenI2 (consA (varM 0) nilA)) (cM (.int 2))) (andM (callM (argM 2 [] F_is_room) (consA (bin ixQ (varM 0) (cM (.int 0))) (consA (varM 1) nilA))) (callM (argM 1 [] F_is_name) (consA (bin ixQ (varM 0) (cM (.int 1))) nilA))))))
def F_is_floor : List IV → Hv → R IV := frameF (fnM 2 M_is_floor)
def M_wrong_in_houses : MS :=
  (seqS (ifS (notT (truM (callM (argM 2 [] F_is_from) (consA (varM 0) (consA (cM (.int 1)) nilA))))) (retS (cM (.str c_rooms))) nilS)
  (seqS (ifS (orT (notT (truM (callM (argM 1 [] F_is_sequence) (consA (varM 1) nilA)))) (notT (truM (callM allI (consA (tidyM (lcM (seqI (varM 1)) (nameG 4) yesB (callM (argM 2 [] F_is_door) (consA (varM 4) (consA (varM 0) nilA))) [4])) nilA))))) (retS (cM (.str c_doors))) nilS)
  (seqS (ifS (orT (notT (truM (callM (argM 1 [] F_is_sequence) (consA (varM 2) nilA)))) (notT (truM (callM allI (consA (tidyM (lcM (seqI (varM 2)) (nameG 5) yesB (callM (argM 2 [] F_is_floor) (consA (varM 5) (consA (varM 0) nilA))) [5])) nilA))))) (retS (cM (.str c_floors))) nilS)
  (seqS (ifS (notT (truM (callM (argM 1 [] F_are_unlike) (consA (tidyM (lcM (seqI (varM 2)) (tupG 2 (consG (nameG 6) (consG (nameG 7) nilG))) yesB (varM 6) [6, 7])) nilA)))) (retS (cM (.str c_floors))) nilS)
  (seqS (ifS (orT (notT (truM (callM (argM 1 [] F_is_sequence) (consA (varM 3) nilA)))) (notT (truM (callM allI (consA (tidyM (lcM (seqI (varM 3)) (nameG 6) yesB (callM (argM 2 [] F_is_room) (consA (varM 6) (consA (varM 0) nilA))) [6])) nilA))))) (retS (cM (.str c_cradles))) nilS)
  (retS (ifM (truM (callM (argM 1 [] F_are_unlike) (consA (varM 3) nilA))) (cM (.non)) (cM (.str c_cradles)))))))))
def F_wrong_in_houses : List IV → Hv → R IV := frameF (fnM 8 M_wrong_in_houses)
def M_House___init__ : MS :=
  (seqS (setS 5 (callM (argM 4 [] F_wrong_in_houses) (consA (varM 1) (consA (varM 2) (consA (varM 3) (consA (varM 4) nilA))))))
  (seqS (ifS (tst (bin isNotI (varM 5) (cM (.non)))) badS nilS)
  (seqS (setFQ ct c_rooms (varM 0) (varM 1))
  (seqS (setFQ ct c_doors (varM 0) (callM tupleI (consA (varM 2) nilA)))
  (seqS (setFQ ct c_floors (varM 0) (callM tupleI (consA (callM sortedIV (consA (varM 3) nilA)) nilA)))
  (setFQ ct c_cradles (varM 0) (callM tupleI (consA (callM sortedIV (consA (tidyM (lcM (seqI (varM 4)) (nameG 6) yesB (callM intI (consA (varM 6) nilA)) [6])) nilA)) nilA))))))))
def F_House___init__ : List IV → Hv → R IV := fnM 7 M_House___init__
def M_is_sorted_name : MS :=
  (retS (andM (isiM [.tup] (varM 0)) (andM (bin eqQ (callM lenI2 (consA (varM 0) nilA)) (cM (.int 2))) (andM (callM (argM 1 [] F_is_name) (consA (bin ixQ (varM 0) (cM (.int 0))) nilA)) (callM (argM 2 [] F_is_word) (consA (bin ixQ (varM 0) (cM (.int 1))) (consA (cM v_SORTS) nilA)))))))
def F_is_sorted_name : List IV → Hv → R IV := frameF (fnM 1 M_is_sorted_name)
def M_wrong_in_sleepers : MS :=
  (seqS (ifS (orT (notT (truM (callM (argM 1 [] F_is_sequence) (consA (varM 0) nilA)))) (notT (truM (callM allI (consA (tidyM (lcM (seqI (varM 0)) (nameG 5) yesB (callM (argM 1 [] F_is_sorted_name) (consA (varM 5) nilA)) [5])) nilA))))) (retS (cM (.str c_sorts))) nilS)
  (seqS (ifS (notT (truM (callM (argM 1 [] F_are_unlike) (consA (tidyM (lcM (seqI (varM 0)) (tupG 2 (consG (nameG 6) (consG (nameG 7) nilG))) yesB (varM 6) [6, 7])) nilA)))) (retS (cM (.str c_sorts))) nilS)
  (seqS (ifS (notT (truM (callM (argM 2 [] F_is_from) (consA (varM 1) (consA (cM (.int 1)) nilA))))) (retS (cM (.str c_stir))) nilS)
  (seqS (ifS (notT (truM (callM (argM 2 [] F_is_from) (consA (varM 2) (consA (cM (.int 1)) nilA))))) (retS (cM (.str c_doze))) nilS)
  (seqS (ifS (notT (truM (callM (argM 2 [] F_is_from) (consA (varM 3) (consA (cM (.int 1)) nilA))))) (retS (cM (.str c_near))) nilS)
  (retS (ifM (truM (callM (argM 2 [] F_is_word) (consA (varM 4) (consA (cM v_AT_LOUD) nilA)))) (cM (.non)) (cM (.str c_loud)))))))))
def F_wrong_in_sleepers : List IV → Hv → R IV := frameF (fnM 8 M_wrong_in_sleepers)
def M_Sleeper___init__ : MS :=
  (seqS (setS 6 (callM (argM 5 [] F_wrong_in_sleepers) (consA (varM 1) (consA (varM 2) (consA (varM 3) (consA (varM 4) (consA (varM 5) nilA)))))))
  (seqS (ifS (tst (bin isNotI (varM 6) (cM (.non)))) badS nilS)
  (seqS (setFQ ct c_sorts (varM 0) (callM tupleI (consA (callM sortedIV (consA (varM 1) nilA)) nilA)))
  (seqS (setFQ ct c_stir (varM 0) (varM 2))
  (seqS (setFQ ct c_doze (varM 0) (varM 3))
  (seqS (setFQ ct c_near (varM 0) (varM 4))
  (setFQ ct c_loud (varM 0) (varM 5))))))))
def F_Sleeper___init__ : List IV → Hv → R IV := fnM 7 M_Sleeper___init__
def B_law_0 : MS :=
  frS (ifS (notT (truM (callM (argM 3 [] F__law_called) (consA (varM 3) (consA (varM 5) (consA (varM 6) nilA)))))) (retS (cM (.bl false))) nilS)
def B_law_1 : MS :=
  frS (seqS (setS 5 (tidyM (callM (mkM c_Sleeper 6 [] F_Sleeper___init__) (consA (varM 4) (consA (varM 2) (consA (cM (.int 3)) (consA (cM (.int 1)) (consA (cM (.str c_again)) nilA))))))))
  (forS (seqI (tupM (consA (cM (.str c_asleep)) (consA (cM (.str c_dozing)) (consA (cM (.str c_up)) nilA))))) (nameG 6) B_law_0))
def B_law_2 : MS :=
  frS (seqS (setS 2 (ifM (tst (bin neQ (varM 0) (lstMV nilA))) (bin addIV (cM (.int 1)) (callM intI (consA (bin modI (callM absI (consA (bin ixQ (varM 0) (varM 1)) nilA)) (cM (.int 3))) nilA))) (cM (.int 2))))
  (seqS (setS 3 (tidyM (callM (mkM c_House 5 [] F_House___init__) (consA (cM (.int 3)) (consA (lstMV (consA (tupM (consA (cM (.int 0)) (consA (cM (.int 1)) (consA (cM (.str c_gate)) nilA)))) (consA (tupM (consA (cM (.int 1)) (consA (cM (.int 2)) (consA (cM (.non)) nilA)))) nilA))) (consA (lstMV (consA (tupM (consA (cM (.int 2)) (consA (cM (.str c_plnk)) nilA))) nilA)) (consA (lstMV (consA (cM (.int 2)) nilA)) nilA)))))))
  (forS (seqI (tupM (consA (lstMV (consA (tupM (consA (cM (.str c_gate)) (consA (cM (.str c_soft)) nilA))) (consA (tupM (consA (cM (.str c_plnk)) (consA (cM (.str c_sudden)) nilA))) nilA))) (consA (lstMV (consA (tupM (consA (cM (.str c_gate)) (consA (cM (.str c_faint)) nilA))) (consA (tupM (consA (cM (.str c_plnk)) (consA (cM (.str c_faint)) nilA))) nilA))) nilA)))) (nameG 4) B_law_1)))
def M_law : MS :=
  (seqS (forS (rng1 (consA (callM max2I (consA (cM (.int 1)) (consA (callM min2I (consA (cM (.int 4)) (consA (callM lenI2 (consA (varM 0) nilA)) nilA))) nilA))) nilA)) (nameG 1) B_law_2)
  (retS (cM (.bl true))))
def F_law : List IV → Hv → R IV := fnM 7 M_law
end Lw
end

section
set_option Elab.async false
set_option linter.all false
set_option maxRecDepth 100000
set_option maxHeartbeats 0
namespace Lw
open PySem Hs
/-! the plain law of k31: three values of `many`, all by evaluation -/
def sA : IV := .lst [.tup [.str c_gate, .str c_soft], .tup [.str c_plnk, .str c_sudden]]
def sB : IV := .lst [.tup [.str c_gate, .str c_faint], .tup [.str c_plnk, .str c_faint]]
def homeM : ME := tidyM (callM (mkM c_House 5 [] F_House___init__) (consA (cM (.int 3)) (consA (lstMV (consA (tupM (consA (cM (.int 0)) (consA (cM (.int 1)) (consA (cM (.str c_gate)) nilA)))) (consA (tupM (consA (cM (.int 1)) (consA (cM (.int 2)) (consA (cM (.non)) nilA)))) nilA))) (consA (lstMV (consA (tupM (consA (cM (.int 2)) (consA (cM (.str c_plnk)) nilA))) nilA)) (consA (lstMV (consA (cM (.int 2)) nilA)) nilA)))))
def hmV : IV := getV (homeM [] [])
def slF (x m : IV) : R IV := (tidyM (callM (mkM c_Sleeper 6 [] F_Sleeper___init__) (consA (cM x) (consA (cM m) (consA (cM (.int 3)) (consA (cM (.int 1)) (consA (cM (.str c_again)) nilA))))))) [] []
def slV (x m : IV) : IV := getV (slF x m)
theorem home_ok (l : Hs.Loc) : homeM l [] = .ok hmV [] := by kernel_rfl
theorem sl_A1 : slF sA (.int 1) = .ok (slV sA (.int 1)) [] := by kernel_rfl
theorem c_A1_asleep : okB (F__law_called [hmV, slV sA (.int 1), .str c_asleep] []) = true := by decide +kernel
theorem c_A1_dozing : okB (F__law_called [hmV, slV sA (.int 1), .str c_dozing] []) = true := by decide +kernel
theorem c_A1_up : okB (F__law_called [hmV, slV sA (.int 1), .str c_up] []) = true := by decide +kernel
theorem sl_A2 : slF sA (.int 2) = .ok (slV sA (.int 2)) [] := by kernel_rfl
theorem c_A2_asleep : okB (F__law_called [hmV, slV sA (.int 2), .str c_asleep] []) = true := by decide +kernel
theorem c_A2_dozing : okB (F__law_called [hmV, slV sA (.int 2), .str c_dozing] []) = true := by decide +kernel
theorem c_A2_up : okB (F__law_called [hmV, slV sA (.int 2), .str c_up] []) = true := by decide +kernel
theorem sl_A3 : slF sA (.int 3) = .ok (slV sA (.int 3)) [] := by kernel_rfl
theorem c_A3_asleep : okB (F__law_called [hmV, slV sA (.int 3), .str c_asleep] []) = true := by decide +kernel
theorem c_A3_dozing : okB (F__law_called [hmV, slV sA (.int 3), .str c_dozing] []) = true := by decide +kernel
theorem c_A3_up : okB (F__law_called [hmV, slV sA (.int 3), .str c_up] []) = true := by decide +kernel
theorem sl_B1 : slF sB (.int 1) = .ok (slV sB (.int 1)) [] := by kernel_rfl
theorem c_B1_asleep : okB (F__law_called [hmV, slV sB (.int 1), .str c_asleep] []) = true := by decide +kernel
theorem c_B1_dozing : okB (F__law_called [hmV, slV sB (.int 1), .str c_dozing] []) = true := by decide +kernel
theorem c_B1_up : okB (F__law_called [hmV, slV sB (.int 1), .str c_up] []) = true := by decide +kernel
theorem sl_B2 : slF sB (.int 2) = .ok (slV sB (.int 2)) [] := by kernel_rfl
theorem c_B2_asleep : okB (F__law_called [hmV, slV sB (.int 2), .str c_asleep] []) = true := by decide +kernel
theorem c_B2_dozing : okB (F__law_called [hmV, slV sB (.int 2), .str c_dozing] []) = true := by decide +kernel
theorem c_B2_up : okB (F__law_called [hmV, slV sB (.int 2), .str c_up] []) = true := by decide +kernel
theorem sl_B3 : slF sB (.int 3) = .ok (slV sB (.int 3)) [] := by kernel_rfl
theorem c_B3_asleep : okB (F__law_called [hmV, slV sB (.int 3), .str c_asleep] []) = true := by decide +kernel
theorem c_B3_dozing : okB (F__law_called [hmV, slV sB (.int 3), .str c_dozing] []) = true := by decide +kernel
theorem c_B3_up : okB (F__law_called [hmV, slV sB (.int 3), .str c_up] []) = true := by decide +kernel
theorem called (s w : IV) (m : Int) (hs : s = sA ∨ s = sB) (hm : m = 1 ∨ m = 2 ∨ m = 3) (hw : w = .str c_asleep ∨ w = .str c_dozing ∨ w = .str c_up) : slF s (.int m) = .ok (slV s (.int m)) [] ∧ F__law_called [hmV, slV s (.int m), w] [] = .ok (.bl true) [] := by
  rcases hs with rfl | rfl <;> rcases hm with rfl | rfl | rfl <;> rcases hw with rfl | rfl | rfl
  · exact ⟨sl_A1, okB_ok c_A1_asleep⟩
  · exact ⟨sl_A1, okB_ok c_A1_dozing⟩
  · exact ⟨sl_A1, okB_ok c_A1_up⟩
  · exact ⟨sl_A2, okB_ok c_A2_asleep⟩
  · exact ⟨sl_A2, okB_ok c_A2_dozing⟩
  · exact ⟨sl_A2, okB_ok c_A2_up⟩
  · exact ⟨sl_A3, okB_ok c_A3_asleep⟩
  · exact ⟨sl_A3, okB_ok c_A3_dozing⟩
  · exact ⟨sl_A3, okB_ok c_A3_up⟩
  · exact ⟨sl_B1, okB_ok c_B1_asleep⟩
  · exact ⟨sl_B1, okB_ok c_B1_dozing⟩
  · exact ⟨sl_B1, okB_ok c_B1_up⟩
  · exact ⟨sl_B2, okB_ok c_B2_asleep⟩
  · exact ⟨sl_B2, okB_ok c_B2_dozing⟩
  · exact ⟨sl_B2, okB_ok c_B2_up⟩
  · exact ⟨sl_B3, okB_ok c_B3_asleep⟩
  · exact ⟨sl_B3, okB_ok c_B3_dozing⟩
  · exact ⟨sl_B3, okB_ok c_B3_up⟩
end Lw
end

section
set_option Elab.async false
set_option linter.all false
set_option maxRecDepth 100000
set_option maxHeartbeats 0
namespace Lw
open PySem Hs
abbrev St31 (x0 : IV) (l : Hs.Loc) : Prop := ∃ a1 a2 a3 a4 a5 a6, l = [some x0, a1, a2, a3, a4, a5, a6]
abbrev Sm31 (x0 : IV) (m : Int) (l : Hs.Loc) : Prop := ∃ a1 a4 a5 a6, l = [some x0, a1, some (.int m), some hmV, a4, a5, a6]
abbrev Sn31 (x0 : IV) (m : Int) (s : IV) (l : Hs.Loc) : Prop := ∃ a1 a6, l = [some x0, a1, some (.int m), some hmV, some s, some (slV s (.int m)), a6]
theorem turn_ok (ns : List Int) (k : Nat) (hk : ns = [] ∨ k < ns.length) (l : Hs.Loc) (hl : St31 (.frl (ns.map .int)) l) : ∃ l', B_law_2 (l.set 1 (some (.int (k : Int)))) [] = .ok (.nx l') [] ∧ St31 (.frl (ns.map .int)) l' := by
  obtain ⟨a1, a2, a3, a4, a5, a6, rfl⟩ := hl
  show ∃ l', B_law_2 [some (.frl (ns.map .int)), some (.int (k : Int)), a2, a3, a4, a5, a6] [] = .ok (.nx l') [] ∧ _
  have hm : ∃ m : Int, (m = 1 ∨ m = 2 ∨ m = 3) ∧ (setS 2 (ifM (tst (bin neQ (varM 0) (lstMV nilA))) (bin addIV (cM (.int 1)) (callM intI (consA (bin modI (callM absI (consA (bin ixQ (varM 0) (varM 1)) nilA)) (cM (.int 3))) nilA))) (cM (.int 2)))) [some (.frl (ns.map .int)), some (.int (k : Int)), a2, a3, a4, a5, a6] [] = .ok (.nx [some (.frl (ns.map .int)), some (.int (k : Int)), some (.int m), a3, a4, a5, a6]) [] := by
    cases ns with
    | nil => exact ⟨2, by simp, rfl⟩
    | cons n ns =>
      have hi : k < (n :: ns).length := by simpa using hk
      refine ⟨1 + ((if (n :: ns)[k] < 0 then -(n :: ns)[k] else (n :: ns)[k]) % 3), by omega, ?_⟩
      have e1 : ixQ (.frl ((n :: ns).map .int)) (.int (k : Int)) [] = .ok (.int (n :: ns)[k]) [] := by
        rw [← ixQ_eq]
        show (match L2.atI ((n :: ns).map IV.int) (k : Int) with | some v => R.ok v [] | none => .bad) = _
        rw [at_ints hi]
      have e2 := neI_nil (h := []) (n :: ns)
      rw [neQ_eq] at e2
      generalize (n :: ns)[k] = y at e1
      generalize IV.frl ((n :: ns).map .int) = x0 at e1 e2
      have t1 : tst (bin neQ (varM 0) (lstMV nilA)) [some x0, some (.int (k : Int)), a2, a3, a4, a5, a6] [] = .ok true [] := by
        show bindR (neQ x0 (.lst []) []) asB = _
        rw [e2]; rfl
      have t2 : (bin ixQ (varM 0) (varM 1)) [some x0, some (.int (k : Int)), a2, a3, a4, a5, a6] [] = .ok (.int y) [] := e1
      have t3 : (bin addIV (cM (.int 1)) (callM intI (consA (bin modI (callM absI (consA (bin ixQ (varM 0) (varM 1)) nilA)) (cM (.int 3))) nilA))) [some x0, some (.int (k : Int)), a2, a3, a4, a5, a6] [] = .ok (.int (1 + ((if y < 0 then -y else y) % 3))) [] := by
        simp only [bin, consA, callM, cM, bindR_ok] at t2 ⊢
        rw [t2]
        rfl
      simp only [setS, ifM, t1, t3, bindR_ok, if_true]
      rfl
  obtain ⟨m, hm, e3⟩ := hm
  have e : B_law_2 [some (.frl (ns.map .int)), some (.int (k : Int)), a2, a3, a4, a5, a6] [] = (forS (seqI (tupM (consA (lstMV (consA (tupM (consA (cM (.str c_gate)) (consA (cM (.str c_soft)) nilA))) (consA (tupM (consA (cM (.str c_plnk)) (consA (cM (.str c_sudden)) nilA))) nilA))) (consA (lstMV (consA (tupM (consA (cM (.str c_gate)) (consA (cM (.str c_faint)) nilA))) (consA (tupM (consA (cM (.str c_plnk)) (consA (cM (.str c_faint)) nilA))) nilA))) nilA)))) (nameG 4) B_law_1) [some (.frl (ns.map .int)), some (.int (k : Int)), some (.int m), some hmV, a4, a5, a6] [] := by
    unfold B_law_2; rw [frS_eq]
    have e4 : setS 3 homeM [some (.frl (ns.map .int)), some (.int (k : Int)), some (.int m), a3, a4, a5, a6] [] = .ok (.nx [some (.frl (ns.map .int)), some (.int (k : Int)), some (.int m), some hmV, a4, a5, a6]) [] := by
      simp only [setS, home_ok]; rfl
    unfold homeM at e4
    simp only [seqS, e3, e4]
  rw [e]
  obtain ⟨l', f1, f2⟩ := for_tup (m := tupM (consA (lstMV (consA (tupM (consA (cM (.str c_gate)) (consA (cM (.str c_soft)) nilA))) (consA (tupM (consA (cM (.str c_plnk)) (consA (cM (.str c_sudden)) nilA))) nilA))) (consA (lstMV (consA (tupM (consA (cM (.str c_gate)) (consA (cM (.str c_faint)) nilA))) (consA (tupM (consA (cM (.str c_plnk)) (consA (cM (.str c_faint)) nilA))) nilA))) nilA))) (xs := [sA, sB]) (i := 4) (body := B_law_1) (I := Sm31 (.frl (ns.map .int)) m) (h := []) (l := [some (.frl (ns.map .int)), some (.int (k : Int)), some (.int m), some hmV, a4, a5, a6]) rfl ⟨_, _, _, _, rfl⟩ (fun s hs l hl => by
    obtain ⟨b1, b4, b5, b6, rfl⟩ := hl
    have hs : s = sA ∨ s = sB := by simpa using hs
    show ∃ l', B_law_1 [some (.frl (ns.map .int)), b1, some (.int m), some hmV, some s, b5, b6] [] = .ok (.nx l') [] ∧ _
    have e5 : (setS 5 (tidyM (callM (mkM c_Sleeper 6 [] F_Sleeper___init__) (consA (varM 4) (consA (varM 2) (consA (cM (.int 3)) (consA (cM (.int 1)) (consA (cM (.str c_again)) nilA)))))))) [some (.frl (ns.map .int)), b1, some (.int m), some hmV, some s, b5, b6] [] = .ok (.nx [some (.frl (ns.map .int)), b1, some (.int m), some hmV, some s, some (slV s (.int m)), b6]) [] := by
      show bindS (slF s (.int m)) _ _ = _
      rw [(called s (.str c_up) m hs hm (by simp)).1]; rfl
    unfold B_law_1; rw [frS_eq]
    simp only [seqS, e5]
    obtain ⟨l2, g1, b1', b6', rfl⟩ := for_tup (m := tupM (consA (cM (.str c_asleep)) (consA (cM (.str c_dozing)) (consA (cM (.str c_up)) nilA)))) (xs := [.str c_asleep, .str c_dozing, .str c_up]) (i := 6) (body := B_law_0) (I := Sn31 (.frl (ns.map .int)) m s) (h := []) (l := [some (.frl (ns.map .int)), b1, some (.int m), some hmV, some s, some (slV s (.int m)), b6]) rfl ⟨_, _, rfl⟩ (fun w hw l hl => by
      obtain ⟨d1, d6, rfl⟩ := hl
      have hw : w = .str c_asleep ∨ w = .str c_dozing ∨ w = .str c_up := by simpa using hw
      rw [show B_law_0 = _ from frS_eq _]
      exact ⟨_, ifnot_call (xs := [hmV, slV s (.int m), w]) rfl rfl (called s w m hs hm hw).2, _, _, rfl⟩)
    exact ⟨_, g1, _, _, _, _, rfl⟩)
  obtain ⟨b1, b4, b5, b6, rfl⟩ := f2
  exact ⟨_, f1, _, _, _, _, _, _, rfl⟩
theorem says (ns : List Int) (hn : ns.length ≤ 63) : Says F_law ns := by
  refine ⟨[], ?_⟩
  show (match M_law [some (.frl (ns.map .int)), none, none, none, none, none, none] [] with | .ok (.rt x) h' => R.ok x h' | .ok (.nx _) h' => .ok .non h' | .exc c fs _ h' => .exc c fs h' | _ => .bad) = _
  have hT : (consA (callM max2I (consA (cM (.int 1)) (consA (callM min2I (consA (cM (.int 4)) (consA (callM lenI2 (consA (varM 0) nilA)) nilA))) nilA))) nilA) [some (.frl (ns.map .int)), none, none, none, none, none, none] [] = .ok [IV.int (if (if (ns.length : Int) < 4 then (ns.length : Int) else 4) > 1 then (if (ns.length : Int) < 4 then (ns.length : Int) else 4) else 1)] [] := by
    have e : lenI2 [.frl (ns.map .int)] [] = .ok (.int (ns.length : Int)) [] := by
      show R.ok (IV.int ((ns.map IV.int).length : Nat)) [] = _
      rw [List.length_map]
    have e' : callM lenI2 (consA (varM 0) nilA) [some (.frl (ns.map .int)), none, none, none, none, none, none] [] = .ok (.int (ns.length : Int)) [] := e
    generalize [some (IV.frl (ns.map .int)), none, none, none, none, none, none] = l0 at e' ⊢
    have e2 : callM min2I (consA (cM (.int 4)) (consA (callM lenI2 (consA (varM 0) nilA)) nilA)) l0 [] = .ok (.int (if (ns.length : Int) < 4 then (ns.length : Int) else 4)) [] := by
      show bindR (bindR (.ok (.int 4) []) fun x h1 => bindR (bindR (callM lenI2 (consA (varM 0) nilA) l0 h1) fun x h1 => bindR (.ok [] h1) fun xs h2 => .ok (x :: xs) h2) fun xs h2 => .ok (x :: xs) h2) min2I = _
      rw [bindR_ok, e']; rfl
    have e3 : callM max2I (consA (cM (.int 1)) (consA (callM min2I (consA (cM (.int 4)) (consA (callM lenI2 (consA (varM 0) nilA)) nilA))) nilA)) l0 [] = .ok (.int (if (if (ns.length : Int) < 4 then (ns.length : Int) else 4) > 1 then (if (ns.length : Int) < 4 then (ns.length : Int) else 4) else 1)) [] := by
      show bindR (bindR (.ok (.int 1) []) fun x h1 => bindR (bindR (callM min2I (consA (cM (.int 4)) (consA (callM lenI2 (consA (varM 0) nilA)) nilA)) l0 h1) fun x h1 => bindR (.ok [] h1) fun xs h2 => .ok (x :: xs) h2) fun xs h2 => .ok (x :: xs) h2) max2I = _
      rw [bindR_ok, e2]; rfl
    show bindR (callM max2I _ l0 []) _ = _
    rw [e3]; rfl
  obtain ⟨l', e1, b1, b2, b3, b4, b5, b6, rfl⟩ := for_rng (i := 1) (body := B_law_2) (I := St31 (.frl (ns.map .int))) hT (by omega) ⟨_, _, _, _, _, _, rfl⟩ fun k hk l hl => turn_ok ns k (by
    rcases Nat.eq_zero_or_pos ns.length with z | z
    · exact .inl (List.eq_nil_of_length_eq_zero z)
    · exact .inr (by omega)) l hl
  unfold M_law
  simp only [seqS, e1]
  rfl
end Lw
end

section
set_option Elab.async false
set_option linter.all false
set_option maxRecDepth 100000
set_option maxHeartbeats 0
namespace Lw
open PySem PySem.Spec PyProof.Rows L2 Hs

theorem ce_dozing : (Str.ofString "dozing") = c_dozing := by decide +kernel
theorem ce_doze : (Str.ofString "doze") = c_doze := by decide +kernel
theorem ce_stirring : (Str.ofString "stirring") = c_stirring := by decide +kernel
theorem ce_near : (Str.ofString "near") = c_near := by decide +kernel
theorem ce_asleep : (Str.ofString "asleep") = c_asleep := by decide +kernel
theorem ce_used_sleeper : (Str.ofString "used_sleeper") = c_used_sleeper := by decide +kernel
theorem ce_ahead : (Str.ofString "ahead") = c_ahead := by decide +kernel
theorem ce_soft : (Str.ofString "soft") = c_soft := by decide +kernel
theorem ce_stir : (Str.ofString "stir") = c_stir := by decide +kernel
theorem ce_faint : (Str.ofString "faint") = c_faint := by decide +kernel
theorem ce_sorts : (Str.ofString "sorts") = c_sorts := by decide +kernel
theorem ce_Sleeper : (Str.ofString "Sleeper") = c_Sleeper := by decide +kernel
theorem ce_sort_of : (Str.ofString "sort_of") = c_sort_of := by decide +kernel
theorem ce_loud : (Str.ofString "loud") = c_loud := by decide +kernel
theorem ce_wake : (Str.ofString "wake") = c_wake := by decide +kernel
theorem ce_again : (Str.ofString "again") = c_again := by decide +kernel
theorem ce_doors : (Str.ofString "doors") = c_doors := by decide +kernel
theorem ce_floors : (Str.ofString "floors") = c_floors := by decide +kernel
theorem ce_House : (Str.ofString "House") = c_House := by decide +kernel
theorem ce_ways : (Str.ofString "ways") = c_ways := by decide +kernel
theorem ce_made_by : (Str.ofString "made_by") = c_made_by := by decide +kernel
theorem ce_used_house : (Str.ofString "used_house") = c_used_house := by decide +kernel
theorem ce_layers : (Str.ofString "layers") = c_layers := by decide +kernel
theorem ce_Search : (Str.ofString "Search") = c_Search := by decide +kernel
theorem ce_closed_by_steps : (Str.ofString "closed_by_steps") = c_closed_by_steps := by decide +kernel
theorem ce_behind_ticks : (Str.ofString "behind_ticks") = c_behind_ticks := by decide +kernel
theorem ce_with_room : (Str.ofString "with_room") = c_with_room := by decide +kernel
theorem ce_rooms : (Str.ofString "rooms") = c_rooms := by decide +kernel
theorem ce_up : (Str.ofString "up") = c_up := by decide +kernel
theorem ce_lines : (Str.ofString "lines") = c_lines := by decide +kernel
theorem ce_x30 : (Str.ofString "step ") = c_x30 := by decide +kernel
theorem ce_x31 : (Str.ofString " ") = c_x31 := by decide +kernel
theorem ce_x32 : (Str.ofString "0") = c_x32 := by decide +kernel
theorem ce_tick : (Str.ofString "tick") = c_tick := by decide +kernel
theorem ce_step : (Str.ofString "step") = c_step := by decide +kernel
theorem ce_hum : (Str.ofString "hum") = c_hum := by decide +kernel
theorem ce_told_events : (Str.ofString "told_events") = c_told_events := by decide +kernel
theorem ce_guests : (Str.ofString "guests") = c_guests := by decide +kernel
theorem ce_nurses : (Str.ofString "nurses") = c_nurses := by decide +kernel
theorem ce_first : (Str.ofString "first") = c_first := by decide +kernel
theorem ce_events : (Str.ofString "events") = c_events := by decide +kernel
theorem ce_Crowd : (Str.ofString "Crowd") = c_Crowd := by decide +kernel
theorem ce_moves_to : (Str.ofString "moves_to") = c_moves_to := by decide +kernel
theorem ce_undo_step : (Str.ofString "undo_step") = c_undo_step := by decide +kernel
theorem ce_Walk : (Str.ofString "Walk") = c_Walk := by decide +kernel
theorem ce_cradles : (Str.ofString "cradles") = c_cradles := by decide +kernel
theorem ce_plnk : (Str.ofString "plnk") = c_plnk := by decide +kernel
theorem ce_gate : (Str.ofString "gate") = c_gate := by decide +kernel
theorem ce_sudden : (Str.ofString "sudden") = c_sudden := by decide +kernel
theorem ce_nothing : (Str.ofString "nothing") = c_nothing := by decide +kernel
theorem ce_x50 : (Str.ofString "0123456789") = c_x50 := by decide +kernel
theorem ce_abcdefghijklmnopqrstuvwxyz : (Str.ofString "abcdefghijklmnopqrstuvwxyz") = c_abcdefghijklmnopqrstuvwxyz := by decide +kernel
theorem ce_woken : (Str.ofString "woken") = c_woken := by decide +kernel
def top (i : Nat) : Stmt := PySem.Challenge.pw_hushsteps_k31_guests_and_tables_by_names.main.body.getD i (.Pass ⟨0, 0, 0, 0⟩)
def inC (s : Stmt) (j : Nat) : Stmt := match s with | .ClassDef _ _ _ b _ _ _ _ _ _ _ => b.getD j (.Pass ⟨0, 0, 0, 0⟩) | _ => s
abbrev s_first_state : Stmt := top 29
def d_first_state : He.DefD := ⟨("first_state", none), "first_state", "first_state", defArgs s_first_state, defBody s_first_state, defScope s_first_state, [], []⟩
def N_first_state : List Str := ["sleeper", "first"]
theorem sc_first_state : FnScope N_first_state ["sleeper", "first"] (defScope s_first_state) := ⟨rfl, rfl, rfl, by decide +kernel, rfl, by decide +kernel, by decide +kernel⟩
abbrev s_first_standing : Stmt := top 41
def d_first_standing : He.DefD := ⟨("first_standing", none), "first_standing", "first_standing", defArgs s_first_standing, defBody s_first_standing, defScope s_first_standing, [], []⟩
def N_first_standing : List Str := ["sleeper", "first"]
theorem sc_first_standing : FnScope N_first_standing ["sleeper", "first"] (defScope s_first_standing) := ⟨rfl, rfl, rfl, by decide +kernel, rfl, by decide +kernel, by decide +kernel⟩
abbrev s_ticked : Stmt := top 33
def d_ticked : He.DefD := ⟨("ticked", none), "ticked", "ticked", defArgs s_ticked, defBody s_ticked, defScope s_ticked, [], []⟩
def N_ticked : List Str := ["sleeper", "state"]
theorem sc_ticked : FnScope N_ticked ["sleeper", "state"] (defScope s_ticked) := ⟨rfl, rfl, rfl, by decide +kernel, rfl, by decide +kernel, by decide +kernel⟩
abbrev s_behind_tick : Stmt := top 43
def d_behind_tick : He.DefD := ⟨("behind_tick", none), "behind_tick", "behind_tick", defArgs s_behind_tick, defBody s_behind_tick, defScope s_behind_tick, [], []⟩
def N_behind_tick : List Str := ["sleeper", "standing", "later"]
theorem sc_behind_tick : FnScope N_behind_tick ["sleeper", "standing"] (defScope s_behind_tick) := ⟨rfl, rfl, rfl, by decide +kernel, rfl, by decide +kernel, by decide +kernel⟩
abbrev s_Search_behind_ticks : Stmt := inC (top 44) 2
def d_Search_behind_ticks : He.DefD := ⟨("Search", some "behind_ticks"), "behind_ticks", "Search.behind_ticks", defArgs s_Search_behind_ticks, defBody s_Search_behind_ticks, defScope s_Search_behind_ticks, [], []⟩
def N_Search_behind_ticks : List Str := ["self", "layer", "found", "standing", "later"]
theorem sc_Search_behind_ticks : FnScope N_Search_behind_ticks ["self", "layer"] (defScope s_Search_behind_ticks) := ⟨rfl, rfl, rfl, by decide +kernel, rfl, by decide +kernel, by decide +kernel⟩
abbrev s_heard_asleep : Stmt := top 30
def d_heard_asleep : He.DefD := ⟨("heard_asleep", none), "heard_asleep", "heard_asleep", defArgs s_heard_asleep, defBody s_heard_asleep, defScope s_heard_asleep, [], []⟩
def N_heard_asleep : List Str := ["sleeper", "state", "noise", "sort"]
theorem sc_heard_asleep : FnScope N_heard_asleep ["sleeper", "state", "noise", "sort"] (defScope s_heard_asleep) := ⟨rfl, rfl, rfl, by decide +kernel, rfl, by decide +kernel, by decide +kernel⟩
abbrev s_Sleeper_sort_of : Stmt := inC (top 28) 2
def d_Sleeper_sort_of : He.DefD := ⟨("Sleeper", some "sort_of"), "sort_of", "Sleeper.sort_of", defArgs s_Sleeper_sort_of, defBody s_Sleeper_sort_of, defScope s_Sleeper_sort_of, [], []⟩
def N_Sleeper_sort_of : List Str := ["self", "noise", "found", "name", "sort"]
theorem sc_Sleeper_sort_of : FnScope N_Sleeper_sort_of ["self", "noise"] (defScope s_Sleeper_sort_of) := ⟨rfl, rfl, rfl, by decide +kernel, rfl, by decide +kernel, by decide +kernel⟩
abbrev s_heard : Stmt := top 31
def d_heard : He.DefD := ⟨("heard", none), "heard", "heard", defArgs s_heard, defBody s_heard, defScope s_heard, [], []⟩
def N_heard : List Str := ["sleeper", "state", "noise", "sort"]
theorem sc_heard : FnScope N_heard ["sleeper", "state", "noise"] (defScope s_heard) := ⟨rfl, rfl, rfl, by decide +kernel, rfl, by decide +kernel, by decide +kernel⟩
abbrev s_heard_all : Stmt := top 32
def d_heard_all : He.DefD := ⟨("heard_all", none), "heard_all", "heard_all", defArgs s_heard_all, defBody s_heard_all, defScope s_heard_all, [], []⟩
def N_heard_all : List Str := ["sleeper", "state", "noises", "noise"]
theorem sc_heard_all : FnScope N_heard_all ["sleeper", "state", "noises"] (defScope s_heard_all) := ⟨rfl, rfl, rfl, by decide +kernel, rfl, by decide +kernel, by decide +kernel⟩
abbrev s_House_made_by : Stmt := inC (top 60) 5
def d_House_made_by : He.DefD := ⟨("House", some "made_by"), "made_by", "House.made_by", defArgs s_House_made_by, defBody s_House_made_by, defScope s_House_made_by, [], []⟩
def N_House_made_by : List Str := ["self", "door", "room", "noise", "floor", "spot", "name"]
theorem sc_House_made_by : FnScope N_House_made_by ["self", "door", "room"] (defScope s_House_made_by) := ⟨rfl, rfl, rfl, by decide +kernel, rfl, by decide +kernel, by decide +kernel⟩
abbrev s_House_ways : Stmt := inC (top 60) 4
def d_House_ways : He.DefD := ⟨("House", some "ways"), "ways", "House.ways", defArgs s_House_ways, defBody s_House_ways, defScope s_House_ways, [], []⟩
def N_House_ways : List Str := ["self", "room", "found", "at", "door"]
theorem sc_House_ways : FnScope N_House_ways ["self", "room"] (defScope s_House_ways) := ⟨rfl, rfl, rfl, by decide +kernel, rfl, by decide +kernel, by decide +kernel⟩
abbrev s_behind_steps : Stmt := top 42
def d_behind_steps : He.DefD := ⟨("behind_steps", none), "behind_steps", "behind_steps", defArgs s_behind_steps, defBody s_behind_steps, defScope s_behind_steps, [], []⟩
def N_behind_steps : List Str := ["house", "sleeper", "standing", "state", "begun", "now", "found", "room", "door", "other", "later", "lot"]
theorem sc_behind_steps : FnScope N_behind_steps ["house", "sleeper", "standing"] (defScope s_behind_steps) := ⟨rfl, rfl, rfl, by decide +kernel, rfl, by decide +kernel, by decide +kernel⟩
abbrev s_Search_closed_by_steps : Stmt := inC (top 44) 1
def d_Search_closed_by_steps : He.DefD := ⟨("Search", some "closed_by_steps"), "closed_by_steps", "Search.closed_by_steps", defArgs s_Search_closed_by_steps, defBody s_Search_closed_by_steps, defScope s_Search_closed_by_steps, [], []⟩
def N_Search_closed_by_steps : List Str := ["self", "layer", "found", "number", "door", "room", "later"]
theorem sc_Search_closed_by_steps : FnScope N_Search_closed_by_steps ["self", "layer"] (defScope s_Search_closed_by_steps) := ⟨rfl, rfl, rfl, by decide +kernel, rfl, by decide +kernel, by decide +kernel⟩
abbrev s_Search___init__ : Stmt := inC (top 44) 0
def d_Search___init__ : He.DefD := ⟨("Search", some "__init__"), "__init__", "Search.__init__", defArgs s_Search___init__, defBody s_Search___init__, defScope s_Search___init__, [], []⟩
def N_Search___init__ : List Str := ["self", "house", "sleeper", "first", "begin", "layer"]
theorem sc_Search___init__ : FnScope N_Search___init__ ["self", "house", "sleeper", "first"] (defScope s_Search___init__) := ⟨rfl, rfl, rfl, by decide +kernel, rfl, by decide +kernel, by decide +kernel⟩
abbrev s_Search_with_room : Stmt := inC (top 44) 3
def d_Search_with_room : He.DefD := ⟨("Search", some "with_room"), "with_room", "Search.with_room", defArgs s_Search_with_room, defBody s_Search_with_room, defScope s_Search_with_room, [], []⟩
def N_Search_with_room : List Str := ["self", "room", "ticks", "layer", "standing"]
theorem sc_Search_with_room : FnScope N_Search_with_room ["self", "room"] (defScope s_Search_with_room) := ⟨rfl, rfl, rfl, by decide +kernel, rfl, by decide +kernel, by decide +kernel⟩
abbrev s_fewest : Stmt := top 46
def d_fewest : He.DefD := ⟨("fewest", none), "fewest", "fewest", defArgs s_fewest, defBody s_fewest, defScope s_fewest, [], []⟩
def N_fewest : List Str := ["house", "sleeper", "first", "room", "found"]
theorem sc_fewest : FnScope N_fewest ["house", "sleeper", "first", "room"] (defScope s_fewest) := ⟨rfl, rfl, rfl, by decide +kernel, rfl, by decide +kernel, by decide +kernel⟩
abbrev s_unheard : Stmt := top 45
def d_unheard : He.DefD := ⟨("unheard", none), "unheard", "unheard", defArgs s_unheard, defBody s_unheard, defScope s_unheard, [], []⟩
def N_unheard : List Str := ["house", "sleeper", "first", "found", "layer", "standing", "room"]
theorem sc_unheard : FnScope N_unheard ["house", "sleeper", "first"] (defScope s_unheard) := ⟨rfl, rfl, rfl, by decide +kernel, rfl, by decide +kernel, by decide +kernel⟩
abbrev s_table : Stmt := top 67
def d_table : He.DefD := ⟨("table", none), "table", "table", defArgs s_table, defBody s_table, defScope s_table, [], []⟩
def N_table : List Str := ["house", "sleeper", "first", "room", "found", "layer"]
theorem sc_table : FnScope N_table ["house", "sleeper", "first", "room"] (defScope s_table) := ⟨rfl, rfl, rfl, by decide +kernel, rfl, by decide +kernel, by decide +kernel⟩
abbrev s_is_integer : Stmt := top 13
def d_is_integer : He.DefD := ⟨("is_integer", none), "is_integer", "is_integer", defArgs s_is_integer, defBody s_is_integer, defScope s_is_integer, [], []⟩
def N_is_integer : List Str := ["value"]
theorem sc_is_integer : FnScope N_is_integer ["value"] (defScope s_is_integer) := ⟨rfl, rfl, rfl, by decide +kernel, rfl, by decide +kernel, by decide +kernel⟩
abbrev s_is_from : Stmt := top 14
def d_is_from : He.DefD := ⟨("is_from", none), "is_from", "is_from", defArgs s_is_from, defBody s_is_from, defScope s_is_from, [], []⟩
def N_is_from : List Str := ["value", "least"]
theorem sc_is_from : FnScope N_is_from ["value", "least"] (defScope s_is_from) := ⟨rfl, rfl, rfl, by decide +kernel, rfl, by decide +kernel, by decide +kernel⟩
abbrev s_is_number : Stmt := top 15
def d_is_number : He.DefD := ⟨("is_number", none), "is_number", "is_number", defArgs s_is_number, defBody s_is_number, defScope s_is_number, [], []⟩
def N_is_number : List Str := ["value"]
theorem sc_is_number : FnScope N_is_number ["value"] (defScope s_is_number) := ⟨rfl, rfl, rfl, by decide +kernel, rfl, by decide +kernel, by decide +kernel⟩
abbrev s_is_lot : Stmt := top 65
def d_is_lot : He.DefD := ⟨("is_lot", none), "is_lot", "is_lot", defArgs s_is_lot, defBody s_is_lot, defScope s_is_lot, [], []⟩
def N_is_lot : List Str := ["house", "value", "room", "one", "other"]
theorem sc_is_lot : FnScope N_is_lot ["house", "value"] (defScope s_is_lot) := ⟨rfl, rfl, rfl, by decide +kernel, rfl, by decide +kernel, by decide +kernel⟩
abbrev s_is_between : Stmt := top 62
def d_is_between : He.DefD := ⟨("is_between", none), "is_between", "is_between", defArgs s_is_between, defBody s_is_between, defScope s_is_between, [], []⟩
def N_is_between : List Str := ["value", "least", "most"]
theorem sc_is_between : FnScope N_is_between ["value", "least", "most"] (defScope s_is_between) := ⟨rfl, rfl, rfl, by decide +kernel, rfl, by decide +kernel, by decide +kernel⟩
abbrev s_is_longer_state : Stmt := top 63
def d_is_longer_state : He.DefD := ⟨("is_longer_state", none), "is_longer_state", "is_longer_state", defArgs s_is_longer_state, defBody s_is_longer_state, defScope s_is_longer_state, [], []⟩
def N_is_longer_state : List Str := ["sleeper", "value"]
theorem sc_is_longer_state : FnScope N_is_longer_state ["sleeper", "value"] (defScope s_is_longer_state) := ⟨rfl, rfl, rfl, by decide +kernel, rfl, by decide +kernel, by decide +kernel⟩
abbrev s_is_state : Stmt := top 64
def d_is_state : He.DefD := ⟨("is_state", none), "is_state", "is_state", defArgs s_is_state, defBody s_is_state, defScope s_is_state, [], []⟩
def N_is_state : List Str := ["sleeper", "value"]
theorem sc_is_state : FnScope N_is_state ["sleeper", "value"] (defScope s_is_state) := ⟨rfl, rfl, rfl, by decide +kernel, rfl, by decide +kernel, by decide +kernel⟩
abbrev s_is_standing : Stmt := top 66
def d_is_standing : He.DefD := ⟨("is_standing", none), "is_standing", "is_standing", defArgs s_is_standing, defBody s_is_standing, defScope s_is_standing, [], []⟩
def N_is_standing : List Str := ["house", "sleeper", "value", "room"]
theorem sc_is_standing : FnScope N_is_standing ["house", "sleeper", "value"] (defScope s_is_standing) := ⟨rfl, rfl, rfl, by decide +kernel, rfl, by decide +kernel, by decide +kernel⟩
abbrev s_leads_within : Stmt := top 68
def d_leads_within : He.DefD := ⟨("leads_within", none), "leads_within", "leads_within", defArgs s_leads_within, defBody s_leads_within, defScope s_leads_within, [], []⟩
def N_leads_within : List Str := ["house", "sleeper", "standing", "known", "later", "door", "room", "behind"]
theorem sc_leads_within : FnScope N_leads_within ["house", "sleeper", "standing", "known"] (defScope s_leads_within) := ⟨rfl, rfl, rfl, by decide +kernel, rfl, by decide +kernel, by decide +kernel⟩
abbrev s_table_holds : Stmt := top 69
def d_table_holds : He.DefD := ⟨("table_holds", none), "table_holds", "table_holds", defArgs s_table_holds, defBody s_table_holds, defScope s_table_holds, [], []⟩
def N_table_holds : List Str := ["house", "sleeper", "first", "room", "value", "one", "known", "standing"]
theorem sc_table_holds : FnScope N_table_holds ["house", "sleeper", "first", "room", "value"] (defScope s_table_holds) := ⟨rfl, rfl, rfl, by decide +kernel, rfl, by decide +kernel, by decide +kernel⟩
abbrev s_Crowd___init__ : Stmt := inC (top 47) 0
def d_Crowd___init__ : He.DefD := ⟨("Crowd", some "__init__"), "__init__", "Crowd.__init__", defArgs s_Crowd___init__, defBody s_Crowd___init__, defScope s_Crowd___init__, [], []⟩
def N_Crowd___init__ : List Str := ["self", "house", "room"]
theorem sc_Crowd___init__ : FnScope N_Crowd___init__ ["self", "house", "room"] (defScope s_Crowd___init__) := ⟨rfl, rfl, rfl, by decide +kernel, rfl, by decide +kernel, by decide +kernel⟩
abbrev s_Crowd_undo_step : Stmt := inC (top 47) 1
def d_Crowd_undo_step : He.DefD := ⟨("Crowd", some "undo_step"), "undo_step", "Crowd.undo_step", defArgs s_Crowd_undo_step, defBody s_Crowd_undo_step, defScope s_Crowd_undo_step, [], []⟩
def N_Crowd_undo_step : List Str := ["self", "standing", "door", "room", "going", "at", "here", "back", "spot"]
theorem sc_Crowd_undo_step : FnScope N_Crowd_undo_step ["self", "standing", "door", "room"] (defScope s_Crowd_undo_step) := ⟨rfl, rfl, rfl, by decide +kernel, rfl, by decide +kernel, by decide +kernel⟩
abbrev s_Search_moves_to : Stmt := inC (top 44) 4
def d_Search_moves_to : He.DefD := ⟨("Search", some "moves_to"), "moves_to", "Search.moves_to", defArgs s_Search_moves_to, defBody s_Search_moves_to, defScope s_Search_moves_to, [], []⟩
def N_Search_moves_to : List Str := ["self", "standing", "found"]
theorem sc_Search_moves_to : FnScope N_Search_moves_to ["self", "standing"] (defScope s_Search_moves_to) := ⟨rfl, rfl, rfl, by decide +kernel, rfl, by decide +kernel, by decide +kernel⟩
abbrev s_number_in : Stmt := top 19
def d_number_in : He.DefD := ⟨("number_in", none), "number_in", "number_in", defArgs s_number_in, defBody s_number_in, defScope s_number_in, [], []⟩
def N_number_in : List Str := ["word", "most", "sign"]
theorem sc_number_in : FnScope N_number_in ["word", "most"] (defScope s_number_in) := ⟨rfl, rfl, rfl, by decide +kernel, rfl, by decide +kernel, by decide +kernel⟩
abbrev s_event_in : Stmt := top 36
def d_event_in : He.DefD := ⟨("event_in", none), "event_in", "event_in", defArgs s_event_in, defBody s_event_in, defScope s_event_in, [], []⟩
def N_event_in : List Str := ["value", "people", "words", "person", "door"]
theorem sc_event_in : FnScope N_event_in ["value", "people"] (defScope s_event_in) := ⟨rfl, rfl, rfl, by decide +kernel, rfl, by decide +kernel, by decide +kernel⟩
abbrev s_events_of : Stmt := top 37
def d_events_of : He.DefD := ⟨("events_of", none), "events_of", "events_of", defArgs s_events_of, defBody s_events_of, defScope s_events_of, [], []⟩
def N_events_of : List Str := ["values", "people", "found", "value"]
theorem sc_events_of : FnScope N_events_of ["values", "people"] (defScope s_events_of) := ⟨rfl, rfl, rfl, by decide +kernel, rfl, by decide +kernel, by decide +kernel⟩
abbrev s_is_sequence : Stmt := top 16
def d_is_sequence : He.DefD := ⟨("is_sequence", none), "is_sequence", "is_sequence", defArgs s_is_sequence, defBody s_is_sequence, defScope s_is_sequence, [], []⟩
def N_is_sequence : List Str := ["value"]
theorem sc_is_sequence : FnScope N_is_sequence ["value"] (defScope s_is_sequence) := ⟨rfl, rfl, rfl, by decide +kernel, rfl, by decide +kernel, by decide +kernel⟩
abbrev s_is_word : Stmt := top 18
def d_is_word : He.DefD := ⟨("is_word", none), "is_word", "is_word", defArgs s_is_word, defBody s_is_word, defScope s_is_word, [], []⟩
def N_is_word : List Str := ["value", "some"]
theorem sc_is_word : FnScope N_is_word ["value", "some"] (defScope s_is_word) := ⟨rfl, rfl, rfl, by decide +kernel, rfl, by decide +kernel, by decide +kernel⟩
abbrev s_Walk___init__ : Stmt := inC (top 38) 0
def d_Walk___init__ : He.DefD := ⟨("Walk", some "__init__"), "__init__", "Walk.__init__", defArgs s_Walk___init__, defBody s_Walk___init__, defScope s_Walk___init__, [.adr (He.dflAt ("Walk", some "__init__") 0)], []⟩
def N_Walk___init__ : List Str := ["self", "guests", "nurses", "first", "events"]
theorem sc_Walk___init__ : FnScope N_Walk___init__ ["self", "guests", "nurses", "first", "events"] (defScope s_Walk___init__) := ⟨rfl, rfl, rfl, by decide +kernel, rfl, by decide +kernel, by decide +kernel⟩
abbrev s_way : Stmt := top 48
def d_way : He.DefD := ⟨("way", none), "way", "way", defArgs s_way, defBody s_way, defScope s_way, [], []⟩
def N_way : List Str := ["house", "sleeper", "first", "room", "search", "found", "crowd", "standing", "door", "into"]
theorem sc_way : FnScope N_way ["house", "sleeper", "first", "room"] (defScope s_way) := ⟨rfl, rfl, rfl, by decide +kernel, rfl, by decide +kernel, by decide +kernel⟩
abbrev s__law_called : Stmt := top 71
def d__law_called : He.DefD := ⟨("_law_called", none), "_law_called", "_law_called", defArgs s__law_called, defBody s__law_called, defScope s__law_called, [], []⟩
def N__law_called : List Str := ["_law_zhome", "_law_zquiet", "_law_zword", "_law_zspot", "_law_zleast", "_law_zsheet"]
theorem sc__law_called : FnScope N__law_called ["_law_zhome", "_law_zquiet", "_law_zword"] (defScope s__law_called) := ⟨rfl, rfl, rfl, by decide +kernel, rfl, by decide +kernel, by decide +kernel⟩
abbrev s_are_unlike : Stmt := top 20
def d_are_unlike : He.DefD := ⟨("are_unlike", none), "are_unlike", "are_unlike", defArgs s_are_unlike, defBody s_are_unlike, defScope s_are_unlike, [], []⟩
def N_are_unlike : List Str := ["values", "value"]
theorem sc_are_unlike : FnScope N_are_unlike ["values"] (defScope s_are_unlike) := ⟨rfl, rfl, rfl, by decide +kernel, rfl, by decide +kernel, by decide +kernel⟩
abbrev s_is_name : Stmt := top 17
def d_is_name : He.DefD := ⟨("is_name", none), "is_name", "is_name", defArgs s_is_name, defBody s_is_name, defScope s_is_name, [], []⟩
def N_is_name : List Str := ["value", "sign"]
theorem sc_is_name : FnScope N_is_name ["value"] (defScope s_is_name) := ⟨rfl, rfl, rfl, by decide +kernel, rfl, by decide +kernel, by decide +kernel⟩
abbrev s_is_room : Stmt := top 50
def d_is_room : He.DefD := ⟨("is_room", none), "is_room", "is_room", defArgs s_is_room, defBody s_is_room, defScope s_is_room, [], []⟩
def N_is_room : List Str := ["value", "rooms"]
theorem sc_is_room : FnScope N_is_room ["value", "rooms"] (defScope s_is_room) := ⟨rfl, rfl, rfl, by decide +kernel, rfl, by decide +kernel, by decide +kernel⟩
abbrev s_is_door : Stmt := top 51
def d_is_door : He.DefD := ⟨("is_door", none), "is_door", "is_door", defArgs s_is_door, defBody s_is_door, defScope s_is_door, [], []⟩
def N_is_door : List Str := ["value", "rooms", "a", "b", "noise"]
theorem sc_is_door : FnScope N_is_door ["value", "rooms"] (defScope s_is_door) := ⟨rfl, rfl, rfl, by decide +kernel, rfl, by decide +kernel, by decide +kernel⟩
abbrev s_is_floor : Stmt := top 52
def d_is_floor : He.DefD := ⟨("is_floor", none), "is_floor", "is_floor", defArgs s_is_floor, defBody s_is_floor, defScope s_is_floor, [], []⟩
def N_is_floor : List Str := ["value", "rooms"]
theorem sc_is_floor : FnScope N_is_floor ["value", "rooms"] (defScope s_is_floor) := ⟨rfl, rfl, rfl, by decide +kernel, rfl, by decide +kernel, by decide +kernel⟩
abbrev s_wrong_in_houses : Stmt := top 53
def d_wrong_in_houses : He.DefD := ⟨("wrong_in_houses", none), "wrong_in", "wrong_in", defArgs s_wrong_in_houses, defBody s_wrong_in_houses, defScope s_wrong_in_houses, [], []⟩
def N_wrong_in_houses : List Str := ["rooms", "doors", "floors", "cradles", "door", "floor", "room", "noise"]
theorem sc_wrong_in_houses : FnScope N_wrong_in_houses ["rooms", "doors", "floors", "cradles"] (defScope s_wrong_in_houses) := ⟨rfl, rfl, rfl, by decide +kernel, rfl, by decide +kernel, by decide +kernel⟩
abbrev s_House___init__ : Stmt := inC (top 60) 0
def d_House___init__ : He.DefD := ⟨("House", some "__init__"), "__init__", "House.__init__", defArgs s_House___init__, defBody s_House___init__, defScope s_House___init__, [.adr (He.dflAt ("House", some "__init__") 0), .adr (He.dflAt ("House", some "__init__") 1)], []⟩
def N_House___init__ : List Str := ["self", "rooms", "doors", "floors", "cradles", "word", "room"]
theorem sc_House___init__ : FnScope N_House___init__ ["self", "rooms", "doors", "floors", "cradles"] (defScope s_House___init__) := ⟨rfl, rfl, rfl, by decide +kernel, rfl, by decide +kernel, by decide +kernel⟩
abbrev s_is_sorted_name : Stmt := top 25
def d_is_sorted_name : He.DefD := ⟨("is_sorted_name", none), "is_sorted_name", "is_sorted_name", defArgs s_is_sorted_name, defBody s_is_sorted_name, defScope s_is_sorted_name, [], []⟩
def N_is_sorted_name : List Str := ["value"]
theorem sc_is_sorted_name : FnScope N_is_sorted_name ["value"] (defScope s_is_sorted_name) := ⟨rfl, rfl, rfl, by decide +kernel, rfl, by decide +kernel, by decide +kernel⟩
abbrev s_wrong_in_sleepers : Stmt := top 26
def d_wrong_in_sleepers : He.DefD := ⟨("wrong_in_sleepers", none), "wrong_in", "wrong_in", defArgs s_wrong_in_sleepers, defBody s_wrong_in_sleepers, defScope s_wrong_in_sleepers, [], []⟩
def N_wrong_in_sleepers : List Str := ["sorts", "stir", "doze", "near", "loud", "one", "name", "sort"]
theorem sc_wrong_in_sleepers : FnScope N_wrong_in_sleepers ["sorts", "stir", "doze", "near", "loud"] (defScope s_wrong_in_sleepers) := ⟨rfl, rfl, rfl, by decide +kernel, rfl, by decide +kernel, by decide +kernel⟩
abbrev s_Sleeper___init__ : Stmt := inC (top 28) 0
def d_Sleeper___init__ : He.DefD := ⟨("Sleeper", some "__init__"), "__init__", "Sleeper.__init__", defArgs s_Sleeper___init__, defBody s_Sleeper___init__, defScope s_Sleeper___init__, [], []⟩
def N_Sleeper___init__ : List Str := ["self", "sorts", "stir", "doze", "near", "loud", "word"]
theorem sc_Sleeper___init__ : FnScope N_Sleeper___init__ ["self", "sorts", "stir", "doze", "near", "loud"] (defScope s_Sleeper___init__) := ⟨rfl, rfl, rfl, by decide +kernel, rfl, by decide +kernel, by decide +kernel⟩
abbrev s_law : Stmt := top 72
def d_law : He.DefD := ⟨("law", none), "law", "law", defArgs s_law, defBody s_law, defScope s_law, [], []⟩
def N_law : List Str := ["_law_script", "_law_zturn", "_law_zmany", "_law_zhome", "_law_zsorts", "_law_zquiet", "_law_zword"]
theorem sc_law : FnScope N_law ["_law_script"] (defScope s_law) := ⟨rfl, rfl, rfl, by decide +kernel, rfl, by decide +kernel, by decide +kernel⟩
def fn : List He.DefD := [d_first_state, d_first_standing, d_ticked, d_behind_tick, d_Search_behind_ticks, d_heard_asleep, d_Sleeper_sort_of, d_heard, d_heard_all, d_House_made_by, d_House_ways, d_behind_steps, d_Search_closed_by_steps, d_Search___init__, d_Search_with_room, d_fewest, d_unheard, d_table, d_is_integer, d_is_from, d_is_number, d_is_lot, d_is_between, d_is_longer_state, d_is_state, d_is_standing, d_leads_within, d_table_holds, d_Crowd___init__, d_Crowd_undo_step, d_Search_moves_to, d_number_in, d_event_in, d_events_of, d_is_sequence, d_is_word, d_Walk___init__, d_way, d__law_called, d_are_unlike, d_is_name, d_is_room, d_is_door, d_is_floor, d_wrong_in_houses, d_House___init__, d_is_sorted_name, d_wrong_in_sleepers, d_Sleeper___init__, d_law]
def fa : List He.Fa := [.free "len", .free "tuple", .free "enumerate", .free "int", .free "sorted", .free "list", .free "isinstance", .free "bool", .free "all", .free "zip", .free "str", .free "any", .free "range", .free "min", .free "max", .free "abs", .glo "first_state", .glo "first_standing", .glo "ticked", .glo "behind_tick", .glo "Search", .cls "Search", .meth "Search" "behind_ticks", .glo "heard_asleep", .glo "Sleeper", .cls "Sleeper", .meth "Sleeper" "sort_of", .glo "heard", .glo "heard_all", .glo "House", .cls "House", .meth "House" "made_by", .meth "House" "ways", .glo "behind_steps", .meth "Search" "closed_by_steps", .mkr "Search", .meth "Search" "with_room", .glo "fewest", .glo "unheard", .glo "table", .glo "is_integer", .glo "is_from", .glo "is_number", .glo "is_lot", .glo "is_between", .glo "is_longer_state", .glo "is_state", .glo "is_standing", .glo "leads_within", .glo "table_holds", .glo "Crowd", .cls "Crowd", .mkr "Crowd", .meth "Crowd" "undo_step", .meth "Search" "moves_to", .glo "number_in", .glo "event_in", .glo "events_of", .glo "is_sequence", .glo "is_word", .glo "Walk", .cls "Walk", .mkr "Walk", .glo "way", .glo "_law_called", .glo "are_unlike", .glo "is_name", .glo "is_room", .glo "is_door", .glo "is_floor", .glo "wrong_in_houses", .mkr "House", .glo "is_sorted_name", .glo "wrong_in_sleepers", .mkr "Sleeper", .glo "law", .noat "Sleeper" "sorts", .noat "Sleeper" "stir", .noat "Sleeper" "doze", .noat "Sleeper" "near", .noat "Sleeper" "loud", .noat "Walk" "told_events", .noat "Walk" "guests", .noat "Walk" "nurses", .noat "Walk" "first", .noat "Walk" "events", .noat "Search" "used_house", .noat "Search" "used_sleeper", .noat "Search" "ahead", .noat "Search" "layers", .noat "Crowd" "used_house", .noat "Crowd" "rooms", .noat "Crowd" "lines", .noat "House" "rooms", .noat "House" "doors", .noat "House" "floors", .noat "House" "cradles", .glo "ASLEEP", .glo "AT_LOUD", .str "DIGITS" "0123456789", .glo "FIRSTS", .glo "HUMS", .str "LETTERS" "abcdefghijklmnopqrstuvwxyz", .glo "SORTS", .glo "WOKEN_guests", .glo "WOKEN_sleepers"]
def ex (K : PySem.W.Frag) : Bool := He.tupB K "ASLEEP" [.str "asleep"] && (He.tupB K "AT_LOUD" [.str "again", .str "nothing", .str "wake"] && (He.tupB K "FIRSTS" [.str "asleep", .str "dozing", .str "up"] && (He.tupB K "HUMS" [.str "up", .str "doze"] && (He.tupB K "SORTS" [.str "faint", .str "loud", .str "soft", .str "sudden"] && (He.tupB K "WOKEN_guests" [.str "woken"] && (He.tupB K "WOKEN_sleepers" [.str "woken"] && (tupAtB K (He.dflAt ("Walk", some "__init__") 0 K) && (tupAtB K (He.dflAt ("House", some "__init__") 0 K) && (tupAtB K (He.dflAt ("House", some "__init__") 1 K))))))))))
theorem bb_abs : bootBuiltins "abs" = some (.builtin "abs") := by decide +kernel
theorem bb_all : bootBuiltins "all" = some (.builtin "all") := by decide +kernel
theorem bb_any : bootBuiltins "any" = some (.builtin "any") := by decide +kernel
theorem bb_int : bootBuiltins "int" = some (.type "int") := by decide +kernel
theorem bb_len : bootBuiltins "len" = some (.builtin "len") := by decide +kernel
theorem bb_list : bootBuiltins "list" = some (.type "list") := by decide +kernel
theorem bb_max : bootBuiltins "max" = some (.builtin "max") := by decide +kernel
theorem bb_min : bootBuiltins "min" = some (.builtin "min") := by decide +kernel
theorem bb_sorted : bootBuiltins "sorted" = some (.builtin "sorted") := by decide +kernel
theorem bb_str : bootBuiltins "str" = some (.type "str") := by decide +kernel
theorem bb_tuple : bootBuiltins "tuple" = some (.type "tuple") := by decide +kernel
theorem bt_bool : bootBuiltins "bool" = some (.type (Ty.nm .bl)) := by decide +kernel
theorem bt_int : bootBuiltins "int" = some (.type (Ty.nm .int)) := by decide +kernel
theorem bt_list : bootBuiltins "list" = some (.type (Ty.nm .lst)) := by decide +kernel
theorem bt_str : bootBuiltins "str" = some (.type (Ty.nm .str)) := by decide +kernel
theorem bt_tuple : bootBuiltins "tuple" = some (.type (Ty.nm .tup)) := by decide +kernel
structure Zs (w : World) (h0 : Heap) (K : PySem.W.Frag) (mg : Str → Option Value) : Prop where
  kx : K.In h0
  gx : h0.Ns mainGlobals mg
  c : He.SaysX fa fn [] [] ex w h0 K
section
variable {w : World} {h0 : Heap} {K : PySem.W.Frag} {mg : Str → Option Value} {P : Program} {base : Heap}
def frees : List Str := ["len", "tuple", "enumerate", "int", "sorted", "list", "isinstance", "bool", "all", "zip", "str", "any", "range", "min", "max", "abs"]
theorem Zs.free (Z : Zs w h0 K mg) (i : Nat) {x : Str} (e : fa[i]? = some (.free x) := by rfl) : mg x = none := He.free_ok Z.kx Z.gx (Z.c.t.d.fact i e)
theorem Zs.glo (Z : Zs w h0 K mg) (i : Nat) {x : Str} (e : fa[i]? = some (.glo x) := by rfl) : mg x = some (.ref (He.ga K x)) := He.glo_ok Z.kx Z.gx (Z.c.t.d.fact i e)
theorem ct_eq : ct0 = ct := by simp only [ct0, ct, ce_Crowd, ce_House, ce_Search, ce_Sleeper, ce_Walk, ce_ahead, ce_cradles, ce_doors, ce_doze, ce_events, ce_first, ce_floors, ce_guests, ce_layers, ce_lines, ce_loud, ce_near, ce_nurses, ce_rooms, ce_sorts, ce_stir, ce_told_events, ce_used_house, ce_used_sleeper]
theorem Zs.ct0 (Z : Zs w h0 K mg) : ClsOk K mg ct0 := by
  intro c fs C hm hg
  simp only [Lw.ct0, List.mem_cons, List.not_mem_nil, or_false, Prod.mk.injEq] at hm
  rcases hm with ⟨rfl, rfl⟩ | ⟨rfl, rfl⟩ | ⟨rfl, rfl⟩ | ⟨rfl, rfl⟩ | ⟨rfl, rfl⟩
  · have e := (Z.glo 24 (x := "Sleeper")).symm.trans hg; cases e
    refine ⟨He.cls_ok (Z.c.t.d.fact 25 (f := .cls "Sleeper")), fun f hf => ?_⟩
    simp only [List.mem_cons, List.not_mem_nil, or_false] at hf
    rcases hf with rfl | rfl | rfl | rfl | rfl
    · exact He.noat_ok (Z.c.t.d.fact 76 (f := .noat "Sleeper" "sorts"))
    · exact He.noat_ok (Z.c.t.d.fact 77 (f := .noat "Sleeper" "stir"))
    · exact He.noat_ok (Z.c.t.d.fact 78 (f := .noat "Sleeper" "doze"))
    · exact He.noat_ok (Z.c.t.d.fact 79 (f := .noat "Sleeper" "near"))
    · exact He.noat_ok (Z.c.t.d.fact 80 (f := .noat "Sleeper" "loud"))
  · have e := (Z.glo 60 (x := "Walk")).symm.trans hg; cases e
    refine ⟨He.cls_ok (Z.c.t.d.fact 61 (f := .cls "Walk")), fun f hf => ?_⟩
    simp only [List.mem_cons, List.not_mem_nil, or_false] at hf
    rcases hf with rfl | rfl | rfl | rfl | rfl
    · exact He.noat_ok (Z.c.t.d.fact 81 (f := .noat "Walk" "told_events"))
    · exact He.noat_ok (Z.c.t.d.fact 82 (f := .noat "Walk" "guests"))
    · exact He.noat_ok (Z.c.t.d.fact 83 (f := .noat "Walk" "nurses"))
    · exact He.noat_ok (Z.c.t.d.fact 84 (f := .noat "Walk" "first"))
    · exact He.noat_ok (Z.c.t.d.fact 85 (f := .noat "Walk" "events"))
  · have e := (Z.glo 20 (x := "Search")).symm.trans hg; cases e
    refine ⟨He.cls_ok (Z.c.t.d.fact 21 (f := .cls "Search")), fun f hf => ?_⟩
    simp only [List.mem_cons, List.not_mem_nil, or_false] at hf
    rcases hf with rfl | rfl | rfl | rfl
    · exact He.noat_ok (Z.c.t.d.fact 86 (f := .noat "Search" "used_house"))
    · exact He.noat_ok (Z.c.t.d.fact 87 (f := .noat "Search" "used_sleeper"))
    · exact He.noat_ok (Z.c.t.d.fact 88 (f := .noat "Search" "ahead"))
    · exact He.noat_ok (Z.c.t.d.fact 89 (f := .noat "Search" "layers"))
  · have e := (Z.glo 50 (x := "Crowd")).symm.trans hg; cases e
    refine ⟨He.cls_ok (Z.c.t.d.fact 51 (f := .cls "Crowd")), fun f hf => ?_⟩
    simp only [List.mem_cons, List.not_mem_nil, or_false] at hf
    rcases hf with rfl | rfl | rfl
    · exact He.noat_ok (Z.c.t.d.fact 90 (f := .noat "Crowd" "used_house"))
    · exact He.noat_ok (Z.c.t.d.fact 91 (f := .noat "Crowd" "rooms"))
    · exact He.noat_ok (Z.c.t.d.fact 92 (f := .noat "Crowd" "lines"))
  · have e := (Z.glo 29 (x := "House")).symm.trans hg; cases e
    refine ⟨He.cls_ok (Z.c.t.d.fact 30 (f := .cls "House")), fun f hf => ?_⟩
    simp only [List.mem_cons, List.not_mem_nil, or_false] at hf
    rcases hf with rfl | rfl | rfl | rfl
    · exact He.noat_ok (Z.c.t.d.fact 93 (f := .noat "House" "rooms"))
    · exact He.noat_ok (Z.c.t.d.fact 94 (f := .noat "House" "doors"))
    · exact He.noat_ok (Z.c.t.d.fact 95 (f := .noat "House" "floors"))
    · exact He.noat_ok (Z.c.t.d.fact 96 (f := .noat "House" "cradles"))
theorem Zs.ct (Z : Zs w h0 K mg) : ClsOk K mg ct := ct_eq ▸ Z.ct0
theorem Zs.gc_ASLEEP (Z : Zs w h0 K mg) : GC ⟨P, w⟩ K mg "ASLEEP" v_ASLEEP := gc_tup (Z.glo 97) (He.tupB_ok (He.ba Z.c.more).1) (by simp [He.Dv.v, RVs, ce_asleep])
theorem Zs.gc_AT_LOUD (Z : Zs w h0 K mg) : GC ⟨P, w⟩ K mg "AT_LOUD" v_AT_LOUD := gc_tup (Z.glo 98) (He.tupB_ok (He.ba (He.ba Z.c.more).2).1) (by simp [He.Dv.v, RVs, ce_again, ce_nothing, ce_wake])
theorem Zs.gc_DIGITS (Z : Zs w h0 K mg) : GC ⟨P, w⟩ K mg "DIGITS" v_DIGITS := gc_strC ce_x50 (He.str_ok Z.kx Z.gx (Z.c.t.d.fact 99 (f := .str "DIGITS" "0123456789")))
theorem Zs.gc_FIRSTS (Z : Zs w h0 K mg) : GC ⟨P, w⟩ K mg "FIRSTS" v_FIRSTS := gc_tup (Z.glo 100) (He.tupB_ok (He.ba (He.ba (He.ba Z.c.more).2).2).1) (by simp [He.Dv.v, RVs, ce_asleep, ce_dozing, ce_up])
theorem Zs.gc_HUMS (Z : Zs w h0 K mg) : GC ⟨P, w⟩ K mg "HUMS" v_HUMS := gc_tup (Z.glo 101) (He.tupB_ok (He.ba (He.ba (He.ba (He.ba Z.c.more).2).2).2).1) (by simp [He.Dv.v, RVs, ce_up, ce_doze])
theorem Zs.gc_LETTERS (Z : Zs w h0 K mg) : GC ⟨P, w⟩ K mg "LETTERS" v_LETTERS := gc_strC ce_abcdefghijklmnopqrstuvwxyz (He.str_ok Z.kx Z.gx (Z.c.t.d.fact 102 (f := .str "LETTERS" "abcdefghijklmnopqrstuvwxyz")))
theorem Zs.gc_SORTS (Z : Zs w h0 K mg) : GC ⟨P, w⟩ K mg "SORTS" v_SORTS := gc_tup (Z.glo 103) (He.tupB_ok (He.ba (He.ba (He.ba (He.ba (He.ba Z.c.more).2).2).2).2).1) (by simp [He.Dv.v, RVs, ce_faint, ce_loud, ce_soft, ce_sudden])
theorem Zs.gc_WOKEN_guests (Z : Zs w h0 K mg) : GC ⟨P, w⟩ K mg "WOKEN_guests" v_WOKEN_guests := gc_tup (Z.glo 104) (He.tupB_ok (He.ba (He.ba (He.ba (He.ba (He.ba (He.ba Z.c.more).2).2).2).2).2).1) (by simp [He.Dv.v, RVs, ce_woken])
theorem Zs.gc_WOKEN_sleepers (Z : Zs w h0 K mg) : GC ⟨P, w⟩ K mg "WOKEN_sleepers" v_WOKEN_sleepers := gc_tup (Z.glo 105) (He.tupB_ok (He.ba (He.ba (He.ba (He.ba (He.ba (He.ba (He.ba Z.c.more).2).2).2).2).2).2).1) (by simp [He.Dv.v, RVs, ce_woken])
theorem n_first_state (Z : Zs w h0 K mg) {fd : FuncData} (D : FunD K d_first_state.name d_first_state.qual d_first_state.params d_first_state.body d_first_state.scope (d_first_state.dvs K) (d_first_state.kws K) (He.fAd K d_first_state.at_) fd) : FnG P w K mg base 1 (He.fAd K d_first_state.at_) fd ["sleeper", "first"] F_first_state := by
  refine FnG.frame <| fn_sim (k := 0) D sc_first_state fun cd A outer s H E hr C => ?_
  unfold M_first_state
  exact (sims_one (sim_ret (sim_if (simt_cmp (op_eqD (un64 C.un)) s_eqQ (sim_var 1) (sim_strC ce_dozing)) (sim_tup (sima_cons (sim_strC ce_dozing) (sima_cons (sim_fldC Z.ct ce_doze (sim_var 0)) sima_nil))) (sim_tup (sima_cons (sim_var 1) sima_nil)))))
theorem g_first_state (Z : Zs w h0 K mg) : GFn P w K mg base 1 "first_state" ["sleeper", "first"] [] F_first_state := by
  obtain ⟨fd, D⟩ := Z.c.t.d.def_ 0 (d := d_first_state)
  exact ⟨_, fd, [], [], Z.glo 16, D.kp, D.bindsN (fun _ _ _ _ _ _ us hl => match us, hl with | [_, _], _ => rfl), .nil, fun _ _ => by simp, n_first_state Z D⟩
theorem n_first_standing (Z : Zs w h0 K mg) {fd : FuncData} (D : FunD K d_first_standing.name d_first_standing.qual d_first_standing.params d_first_standing.body d_first_standing.scope (d_first_standing.dvs K) (d_first_standing.kws K) (He.fAd K d_first_standing.at_) fd) : FnG P w K mg base 2 (He.fAd K d_first_standing.at_) fd ["sleeper", "first"] F_first_standing := by
  refine FnG.frame <| fn_sim (k := 1) D sc_first_standing fun cd A outer s H E hr C => ?_
  unfold M_first_standing
  exact (sims_one (sim_ret (sim_tup (sima_cons (sim_call (g_first_state Z) C (hr.mono (by decide : 1 ≤ 1)) (sima_cons (sim_var 0) (sima_cons (sim_var 1) sima_nil))) (sima_cons (sim_tup (sima_cons sim_int sima_nil)) (sima_cons (sim_tup (sima_cons sim_int sima_nil)) sima_nil))))))
theorem g_first_standing (Z : Zs w h0 K mg) : GFn P w K mg base 2 "first_standing" ["sleeper", "first"] [] F_first_standing := by
  obtain ⟨fd, D⟩ := Z.c.t.d.def_ 1 (d := d_first_standing)
  exact ⟨_, fd, [], [], Z.glo 17, D.kp, D.bindsN (fun _ _ _ _ _ _ us hl => match us, hl with | [_, _], _ => rfl), .nil, fun _ _ => by simp, n_first_standing Z D⟩
theorem n_ticked (Z : Zs w h0 K mg) {fd : FuncData} (D : FunD K d_ticked.name d_ticked.qual d_ticked.params d_ticked.body d_ticked.scope (d_ticked.dvs K) (d_ticked.kws K) (He.fAd K d_ticked.at_) fd) : FnG P w K mg base 1 (He.fAd K d_ticked.at_) fd ["sleeper", "state"] F_ticked := by
  refine FnG.frame <| fn_sim (k := 0) D sc_ticked fun cd A outer s H E hr C => ?_
  unfold M_ticked
  exact (sims_cons (sim_ifS (simt_cmp (op_eqD (un64 C.un)) s_eqQ (sim_ixQ C.un (sim_var 1) sim_int) (sim_strC ce_dozing)) (sims_one (sim_ret (sim_if (simt_cmp (op_eqD (un64 C.un)) s_eqQ (sim_ixQ C.un (sim_var 1) sim_int) sim_int) (sim_glob Z.gc_ASLEEP) (sim_tup (sima_cons (sim_strC ce_dozing) (sima_cons (sim_sub (sim_ixQ C.un (sim_var 1) sim_int) sim_int) sima_nil)))))) sims_nil)
  (sims_cons (sim_ifS (simt_cmp (op_eqD (un64 C.un)) s_eqQ (sim_ixQ C.un (sim_var 1) sim_int) (sim_strC ce_stirring)) (sims_one (sim_ret (sim_if (simt_cmp (op_eqD (un64 C.un)) s_eqQ (sim_ixQ C.un (sim_var 1) sim_int) sim_int) (sim_glob Z.gc_WOKEN_sleepers) (sim_tup (sima_cons (sim_strC ce_stirring) (sima_cons (sim_sub (sim_ixQ C.un (sim_var 1) sim_int) sim_int) sima_nil)))))) sims_nil)
  (sims_cons (sim_ifS (simt_cmp (op_eqD (un64 C.un)) s_eqQ (sim_callB c_len2 b_len2 (Z.free 0) bb_len (sima_cons (sim_var 1) sima_nil)) sim_int) (sims_one (sim_ret (sim_if (simt_cmp op_gt s_gt (sim_addV (sim_ixQ C.un (sim_var 1) sim_int) sim_int) (sim_fldC Z.ct ce_near (sim_var 0))) (sim_glob Z.gc_ASLEEP) (sim_tup (sima_cons (sim_strC ce_asleep) (sima_cons (sim_ixQ C.un (sim_var 1) sim_int) (sima_cons (sim_addV (sim_ixQ C.un (sim_var 1) sim_int) sim_int) sima_nil))))))) sims_nil)
  (sims_one (sim_ret (sim_var 1))))))
theorem g_ticked (Z : Zs w h0 K mg) : GFn P w K mg base 1 "ticked" ["sleeper", "state"] [] F_ticked := by
  obtain ⟨fd, D⟩ := Z.c.t.d.def_ 2 (d := d_ticked)
  exact ⟨_, fd, [], [], Z.glo 18, D.kp, D.bindsN (fun _ _ _ _ _ _ us hl => match us, hl with | [_, _], _ => rfl), .nil, fun _ _ => by simp, n_ticked Z D⟩
theorem n_behind_tick (Z : Zs w h0 K mg) {fd : FuncData} (D : FunD K d_behind_tick.name d_behind_tick.qual d_behind_tick.params d_behind_tick.body d_behind_tick.scope (d_behind_tick.dvs K) (d_behind_tick.kws K) (He.fAd K d_behind_tick.at_) fd) : FnG P w K mg base 2 (He.fAd K d_behind_tick.at_) fd ["sleeper", "standing"] F_behind_tick := by
  refine FnG.frame <| fn_sim (k := 1) D sc_behind_tick fun cd A outer s H E hr C => ?_
  unfold M_behind_tick
  exact (sims_cons (sim_set C 2 (sim_call (g_ticked Z) C (hr.mono (by decide : 1 ≤ 1)) (sima_cons (sim_var 0) (sima_cons (sim_ixQ C.un (sim_var 1) sim_int) sima_nil))))
  (sims_one (sim_ret (sim_if (simt_cmp (op_eqD (un64 C.un)) s_eqQ (sim_var 2) (sim_glob Z.gc_WOKEN_guests)) sim_non (sim_tup (sima_cons (sim_var 2) (sima_cons (sim_ixQ C.un (sim_var 1) sim_int) (sima_cons (sim_ixQ C.un (sim_var 1) sim_int) sima_nil))))))))
theorem g_behind_tick (Z : Zs w h0 K mg) : GFn P w K mg base 2 "behind_tick" ["sleeper", "standing"] [] F_behind_tick := by
  obtain ⟨fd, D⟩ := Z.c.t.d.def_ 3 (d := d_behind_tick)
  exact ⟨_, fd, [], [], Z.glo 19, D.kp, D.bindsN (fun _ _ _ _ _ _ us hl => match us, hl with | [_, _], _ => rfl), .nil, fun _ _ => by simp, n_behind_tick Z D⟩
theorem n_Search_behind_ticks (Z : Zs w h0 K mg) {fd : FuncData} (D : FunD K d_Search_behind_ticks.name d_Search_behind_ticks.qual d_Search_behind_ticks.params d_Search_behind_ticks.body d_Search_behind_ticks.scope (d_Search_behind_ticks.dvs K) (d_Search_behind_ticks.kws K) (He.fAd K d_Search_behind_ticks.at_) fd) : FnG P w K mg base 3 (He.fAd K d_Search_behind_ticks.at_) fd ["self", "layer"] F_Search_behind_ticks := by
  refine FnG.tidy <| fn_sim (k := 2) D sc_Search_behind_ticks fun cd A outer s H E hr C => ?_
  unfold M_Search_behind_ticks
  unfold B_Search_behind_ticks_0
  exact (sims_cons (sim_set C 2 (sim_lst sima_nil))
  (sims_cons (sim_for (sl := [3]) C (simi_seq (sim_var 1)) (simg_name C.nd 3) (sims_cons (sim_set C 4 (sim_call (g_behind_tick Z) C (hr.mono (by decide : 2 ≤ 2)) (sima_cons (sim_fldC Z.ct ce_used_sleeper (sim_var 0)) (sima_cons (sim_var 3) sima_nil))))
  (sims_one (sim_ifS (SimW.t (simw_and (simt_cmp r_isNot s_isNot (sim_var 4) sim_non) (simw_and1 (simt_cmp (r_notIn2 C.un) s_notInQ (sim_var 4) (sim_fldC Z.ct ce_ahead (sim_var 0)))))) (sims_cons (sim_putQ C (sim_fldC Z.ct ce_ahead (sim_var 0)) (sim_var 4) (sim_tup (sima_cons (sim_var 3) (sima_cons sim_non (sima_cons sim_non sima_nil)))))
  (sims_one (sim_expr (sim_bmL m_append mt_append PySem.F.plainAttrs_list PySem.F.slot_list_append PySem.F.type_list_append (sim_var 2) (sima_cons (sim_var 4) sima_nil))))) sims_nil))))
  (sims_one (sim_ret (sim_var 2)))))
theorem g_Search_behind_ticks (Z : Zs w h0 K mg) : GMt P w K mg base 3 "Search" "behind_ticks" ["self", "layer"] [] F_Search_behind_ticks := by
  obtain ⟨fd, D⟩ := Z.c.t.d.def_ 4 (d := d_Search_behind_ticks)
  exact ⟨_, _, fd, [], [], Z.glo 20, He.cls_ok (Z.c.t.d.fact 21 (f := .cls "Search")), He.meth_ok (Z.c.t.d.fact 22 (f := .meth "Search" "behind_ticks")), D.bindsN (fun _ _ _ _ _ _ us hl => match us, hl with | [_, _], _ => rfl), .nil, fun _ _ => by simp, n_Search_behind_ticks Z D⟩
theorem n_heard_asleep (Z : Zs w h0 K mg) {fd : FuncData} (D : FunD K d_heard_asleep.name d_heard_asleep.qual d_heard_asleep.params d_heard_asleep.body d_heard_asleep.scope (d_heard_asleep.dvs K) (d_heard_asleep.kws K) (He.fAd K d_heard_asleep.at_) fd) : FnG P w K mg base 1 (He.fAd K d_heard_asleep.at_) fd ["sleeper", "state", "noise", "sort"] F_heard_asleep := by
  refine FnG.frame <| fn_sim (k := 0) D sc_heard_asleep fun cd A outer s H E hr C => ?_
  unfold M_heard_asleep
  exact (sims_cons (sim_ifS (simt_cmp (op_eqD (un64 C.un)) s_eqQ (sim_var 3) (sim_strC ce_soft)) (sims_one (sim_ret (sim_tup (sima_cons (sim_strC ce_stirring) (sima_cons (sim_fldC Z.ct ce_stir (sim_var 0)) sima_nil))))) sims_nil)
  (sims_cons (sim_ifS (simt_cmp (op_eqD (un64 C.un)) s_eqQ (sim_var 3) (sim_strC ce_faint)) (sims_one (sim_ret (sim_if (SimW.t (simw_or (simt_cmp (op_eqD (un64 C.un)) s_eqQ (sim_callB c_len2 b_len2 (Z.free 0) bb_len (sima_cons (sim_var 1) sima_nil)) sim_int) (simw_or1 (simt_cmp (op_eqD (un64 C.un)) s_eqQ (sim_ixQ C.un (sim_var 1) sim_int) (sim_var 2))))) (sim_tup (sima_cons (sim_strC ce_asleep) (sima_cons (sim_var 2) (sima_cons sim_int sima_nil)))) (sim_glob Z.gc_WOKEN_sleepers)))) sims_nil)
  (sims_one (sim_ret (sim_if (simt_cmp r_is s_is (sim_var 3) sim_non) (sim_var 1) (sim_glob Z.gc_WOKEN_sleepers))))))
theorem g_heard_asleep (Z : Zs w h0 K mg) : GFn P w K mg base 1 "heard_asleep" ["sleeper", "state", "noise", "sort"] [] F_heard_asleep := by
  obtain ⟨fd, D⟩ := Z.c.t.d.def_ 5 (d := d_heard_asleep)
  exact ⟨_, fd, [], [], Z.glo 23, D.kp, D.bindsN (fun _ _ _ _ _ _ us hl => match us, hl with | [_, _, _, _], _ => rfl), .nil, fun _ _ => by simp, n_heard_asleep Z D⟩
theorem n_Sleeper_sort_of (Z : Zs w h0 K mg) {fd : FuncData} (D : FunD K d_Sleeper_sort_of.name d_Sleeper_sort_of.qual d_Sleeper_sort_of.params d_Sleeper_sort_of.body d_Sleeper_sort_of.scope (d_Sleeper_sort_of.dvs K) (d_Sleeper_sort_of.kws K) (He.fAd K d_Sleeper_sort_of.at_) fd) : FnG P w K mg base 1 (He.fAd K d_Sleeper_sort_of.at_) fd ["self", "noise"] F_Sleeper_sort_of := by
  refine FnG.frame <| fn_sim (k := 0) D sc_Sleeper_sort_of fun cd A outer s H E hr C => ?_
  unfold M_Sleeper_sort_of
  exact (sims_cons (lcset_go (i := 2) (sl := ([3] ++ ([4] ++ []))) (own := [("name", 3), ("sort", 4)]) (fun res h => tidyR h res) (fun S p => p.tidy S) C (simi_seq (sim_fldC Z.ct ce_sorts (sim_var 0))) (blk_ok (by show blkB N_Sleeper_sort_of (defScope s_Sleeper_sort_of) _ _ = true; decide +kernel)) (by decide) (fun sh1 H1 Cc1 cl1 fp1 => (simg_tup (by exact C.calm) (simg_cons (simg_name (by exact C.nd) 3) (simg_cons (simg_name (by exact C.nd) 4) simg_nil)))) (fun sh1 H1 Cc1 cl1 fp1 => (simts_one (simt_cmp (op_eqD (by exact un64 C.un)) s_eqQ (sim_var 3) (sim_var 1)))) (fun sh1 H1 Cc1 cl1 fp1 => (sim_var 4)) rfl rfl rfl (by intro _; rfl))
  (sims_one (sim_ret (sim_if (simt_cmp op_gt s_gt (sim_callB c_len2 b_len2 (Z.free 0) bb_len (sima_cons (sim_var 2) sima_nil)) sim_int) (sim_ixQ C.un (sim_var 2) sim_int) sim_non))))
theorem g_Sleeper_sort_of (Z : Zs w h0 K mg) : GMt P w K mg base 1 "Sleeper" "sort_of" ["self", "noise"] [] F_Sleeper_sort_of := by
  obtain ⟨fd, D⟩ := Z.c.t.d.def_ 6 (d := d_Sleeper_sort_of)
  exact ⟨_, _, fd, [], [], Z.glo 24, He.cls_ok (Z.c.t.d.fact 25 (f := .cls "Sleeper")), He.meth_ok (Z.c.t.d.fact 26 (f := .meth "Sleeper" "sort_of")), D.bindsN (fun _ _ _ _ _ _ us hl => match us, hl with | [_, _], _ => rfl), .nil, fun _ _ => by simp, n_Sleeper_sort_of Z D⟩
theorem n_heard (Z : Zs w h0 K mg) {fd : FuncData} (D : FunD K d_heard.name d_heard.qual d_heard.params d_heard.body d_heard.scope (d_heard.dvs K) (d_heard.kws K) (He.fAd K d_heard.at_) fd) : FnG P w K mg base 2 (He.fAd K d_heard.at_) fd ["sleeper", "state", "noise"] F_heard := by
  refine FnG.frame <| fn_sim (k := 1) D sc_heard fun cd A outer s H E hr C => ?_
  unfold M_heard
  exact (sims_cons (sim_set C 3 (sim_methC ce_Sleeper ce_sort_of (g_Sleeper_sort_of Z) C (hr.mono (by decide : 1 ≤ 1)) (sim_var 0) (sima_cons (sim_var 2) sima_nil)))
  (sims_cons (sim_ifS (simt_cmp (op_eqD (un64 C.un)) s_eqQ (sim_ixQ C.un (sim_var 1) sim_int) (sim_strC ce_asleep)) (sims_one (sim_ret (sim_call (g_heard_asleep Z) C (hr.mono (by decide : 1 ≤ 1)) (sima_cons (sim_var 0) (sima_cons (sim_var 1) (sima_cons (sim_var 2) (sima_cons (sim_var 3) sima_nil))))))) sims_nil)
  (sims_cons (sim_ifS (simt_cmp (op_neD (un64 C.un)) s_neQ (sim_var 3) (sim_strC ce_loud)) (sims_one (sim_ret (sim_var 1))) sims_nil)
  (sims_cons (sim_ifS (SimW.t (simw_and (simt_cmp (op_eqD (un64 C.un)) s_eqQ (sim_ixQ C.un (sim_var 1) sim_int) (sim_strC ce_dozing)) (simw_and1 (simt_cmp (op_neD (un64 C.un)) s_neQ (sim_fldC Z.ct ce_loud (sim_var 0)) (sim_strC ce_wake))))) (sims_one (sim_ret (sim_if (simt_cmp (op_eqD (un64 C.un)) s_eqQ (sim_fldC Z.ct ce_loud (sim_var 0)) (sim_strC ce_again)) (sim_tup (sima_cons (sim_strC ce_dozing) (sima_cons (sim_fldC Z.ct ce_doze (sim_var 0)) sima_nil))) (sim_var 1)))) sims_nil)
  (sims_one (sim_ret (sim_if (simt_cmp (r_in2 C.un) s_inQ (sim_ixQ C.un (sim_var 1) sim_int) (sim_tup (sima_cons (sim_strC ce_dozing) (sima_cons (sim_strC ce_stirring) sima_nil)))) (sim_glob Z.gc_WOKEN_sleepers) (sim_var 1))))))))
theorem g_heard (Z : Zs w h0 K mg) : GFn P w K mg base 2 "heard" ["sleeper", "state", "noise"] [] F_heard := by
  obtain ⟨fd, D⟩ := Z.c.t.d.def_ 7 (d := d_heard)
  exact ⟨_, fd, [], [], Z.glo 27, D.kp, D.bindsN (fun _ _ _ _ _ _ us hl => match us, hl with | [_, _, _], _ => rfl), .nil, fun _ _ => by simp, n_heard Z D⟩
theorem n_heard_all (Z : Zs w h0 K mg) {fd : FuncData} (D : FunD K d_heard_all.name d_heard_all.qual d_heard_all.params d_heard_all.body d_heard_all.scope (d_heard_all.dvs K) (d_heard_all.kws K) (He.fAd K d_heard_all.at_) fd) : FnG P w K mg base 3 (He.fAd K d_heard_all.at_) fd ["sleeper", "state", "noises"] F_heard_all := by
  refine FnG.frame <| fn_sim (k := 2) D sc_heard_all fun cd A outer s H E hr C => ?_
  unfold M_heard_all
  unfold B_heard_all_0
  exact (sims_cons (sim_for (sl := [3]) C (simi_seq (sim_var 2)) (simg_name C.nd 3) (sims_one (sim_set C 1 (sim_call (g_heard Z) C (hr.mono (by decide : 2 ≤ 2)) (sima_cons (sim_var 0) (sima_cons (sim_var 1) (sima_cons (sim_var 3) sima_nil)))))))
  (sims_one (sim_ret (sim_var 1))))
theorem g_heard_all (Z : Zs w h0 K mg) : GFn P w K mg base 3 "heard_all" ["sleeper", "state", "noises"] [] F_heard_all := by
  obtain ⟨fd, D⟩ := Z.c.t.d.def_ 8 (d := d_heard_all)
  exact ⟨_, fd, [], [], Z.glo 28, D.kp, D.bindsN (fun _ _ _ _ _ _ us hl => match us, hl with | [_, _, _], _ => rfl), .nil, fun _ _ => by simp, n_heard_all Z D⟩
theorem n_House_made_by (Z : Zs w h0 K mg) {fd : FuncData} (D : FunD K d_House_made_by.name d_House_made_by.qual d_House_made_by.params d_House_made_by.body d_House_made_by.scope (d_House_made_by.dvs K) (d_House_made_by.kws K) (He.fAd K d_House_made_by.at_) fd) : FnG P w K mg base 1 (He.fAd K d_House_made_by.at_) fd ["self", "door", "room"] F_House_made_by := by
  refine FnG.frame <| fn_sim (k := 0) D sc_House_made_by fun cd A outer s H E hr C => ?_
  unfold M_House_made_by
  exact (sims_cons (sim_set C 3 (sim_ixQ C.un (sim_ixQ C.un (sim_fldC Z.ct ce_doors (sim_var 0)) (sim_var 1)) sim_int))
  (sims_cons (lcset_go (i := 4) (sl := ([5] ++ ([6] ++ []))) (own := [("spot", 5), ("name", 6)]) (fun res h => tidyR h res) (fun S p => p.tidy S) C (simi_seq (sim_fldC Z.ct ce_floors (sim_var 0))) (blk_ok (by show blkB N_House_made_by (defScope s_House_made_by) _ _ = true; decide +kernel)) (by decide) (fun sh1 H1 Cc1 cl1 fp1 => (simg_tup (by exact C.calm) (simg_cons (simg_name (by exact C.nd) 5) (simg_cons (simg_name (by exact C.nd) 6) simg_nil)))) (fun sh1 H1 Cc1 cl1 fp1 => (simts_one (simt_cmp (op_eqD (by exact un64 C.un)) s_eqQ (sim_var 5) (sim_var 2)))) (fun sh1 H1 Cc1 cl1 fp1 => (sim_var 6)) rfl rfl rfl (by intro _; rfl))
  (sims_one (sim_ret (sim_callTy call_tuple_of b_tuple (Z.free 1) bb_tuple (sima_cons (sim_if (simt_cmp r_is s_is (sim_var 3) sim_non) (sim_var 4) (sim_lstV (sima_cons (sim_var 3) (sima_star (sim_var 4) sima_nil)))) sima_nil))))))
theorem g_House_made_by (Z : Zs w h0 K mg) : GMt P w K mg base 1 "House" "made_by" ["self", "door", "room"] [] F_House_made_by := by
  obtain ⟨fd, D⟩ := Z.c.t.d.def_ 9 (d := d_House_made_by)
  exact ⟨_, _, fd, [], [], Z.glo 29, He.cls_ok (Z.c.t.d.fact 30 (f := .cls "House")), He.meth_ok (Z.c.t.d.fact 31 (f := .meth "House" "made_by")), D.bindsN (fun _ _ _ _ _ _ us hl => match us, hl with | [_, _, _], _ => rfl), .nil, fun _ _ => by simp, n_House_made_by Z D⟩
theorem n_House_ways (Z : Zs w h0 K mg) {fd : FuncData} (D : FunD K d_House_ways.name d_House_ways.qual d_House_ways.params d_House_ways.body d_House_ways.scope (d_House_ways.dvs K) (d_House_ways.kws K) (He.fAd K d_House_ways.at_) fd) : FnG P w K mg base 1 (He.fAd K d_House_ways.at_) fd ["self", "room"] F_House_ways := by
  refine FnG.frame <| fn_sim (k := 0) D sc_House_ways fun cd A outer s H E hr C => ?_
  unfold M_House_ways
  exact (sims_cons (lcset_go (i := 2) (sl := ([3] ++ ([4] ++ []))) (own := [("at", 3), ("door", 4)]) (fun res h => tidyR h res) (fun S p => p.tidy S) C (simi_enumA (Z.free 2) (sima_cons (sim_fldC Z.ct ce_doors (sim_var 0)) sima_nil)) (blk_ok (by show blkB N_House_ways (defScope s_House_ways) _ _ = true; decide +kernel)) (by decide) (fun sh1 H1 Cc1 cl1 fp1 => (simg_tup (by exact C.calm) (simg_cons (simg_name (by exact C.nd) 3) (simg_cons (simg_name (by exact C.nd) 4) simg_nil)))) (fun sh1 H1 Cc1 cl1 fp1 => (simts_one (simt_cmp (r_in2 (by exact C.un)) s_inQ (sim_var 1) (sim_sliceV (sim_var 4) simo_none (simo_some sim_int))))) (fun sh1 H1 Cc1 cl1 fp1 => (sim_tup (sima_cons (sim_var 3) (sima_cons (sim_ixQ (by exact C.un) (sim_var 4) (sim_sub sim_int (sim_tix (sim_var 4) simo_none (simo_some sim_int) (sim_var 1) ⟨rfl, rfl, rfl, rfl⟩))) sima_nil)))) rfl rfl rfl (by intro _; rfl))
  (sims_one (sim_ret (sim_callTy call_tuple_of b_tuple (Z.free 1) bb_tuple (sima_cons (sim_var 2) sima_nil)))))
theorem g_House_ways (Z : Zs w h0 K mg) : GMt P w K mg base 1 "House" "ways" ["self", "room"] [] F_House_ways := by
  obtain ⟨fd, D⟩ := Z.c.t.d.def_ 10 (d := d_House_ways)
  exact ⟨_, _, fd, [], [], Z.glo 29, He.cls_ok (Z.c.t.d.fact 30 (f := .cls "House")), He.meth_ok (Z.c.t.d.fact 32 (f := .meth "House" "ways")), D.bindsN (fun _ _ _ _ _ _ us hl => match us, hl with | [_, _], _ => rfl), .nil, fun _ _ => by simp, n_House_ways Z D⟩
theorem n_behind_steps (Z : Zs w h0 K mg) {fd : FuncData} (D : FunD K d_behind_steps.name d_behind_steps.qual d_behind_steps.params d_behind_steps.body d_behind_steps.scope (d_behind_steps.dvs K) (d_behind_steps.kws K) (He.fAd K d_behind_steps.at_) fd) : FnG P w K mg base 4 (He.fAd K d_behind_steps.at_) fd ["house", "sleeper", "standing"] F_behind_steps := by
  refine FnG.tidy <| fn_sim (k := 3) D sc_behind_steps fun cd A outer s H E hr C => ?_
  unfold M_behind_steps
  unfold B_behind_steps_1
  unfold B_behind_steps_0
  exact (sims_cons (sim_asg (sl := ([3] ++ ([4] ++ ([5] ++ [])))) (sim_var 2) (simg_tup C.calm (simg_cons (simg_name C.nd 3) (simg_cons (simg_name C.nd 4) (simg_cons (simg_name C.nd 5) simg_nil)))))
  (sims_cons (sim_set C 6 (sim_lst sima_nil))
  (sims_cons (sim_for (sl := [7]) C (simi_seq (sim_var 4)) (simg_name C.nd 7) (sims_one (sim_for (sl := ([8] ++ ([9] ++ []))) C (simi_seq (sim_methC ce_House ce_ways (g_House_ways Z) C (hr.mono (by decide : 1 ≤ 3)) (sim_var 0) (sima_cons (sim_var 7) sima_nil))) (simg_tup C.calm (simg_cons (simg_name C.nd 8) (simg_cons (simg_name C.nd 9) simg_nil))) (sims_cons (sim_set C 10 (sim_call (g_heard_all Z) C (hr.mono (by decide : 3 ≤ 3)) (sima_cons (sim_var 1) (sima_cons (sim_var 3) (sima_cons (sim_methC ce_House ce_made_by (g_House_made_by Z) C (hr.mono (by decide : 1 ≤ 3)) (sim_var 0) (sima_cons (sim_var 8) (sima_cons (sim_var 9) sima_nil))) sima_nil)))))
  (sims_cons (sim_set C 11 (sim_if (simt_cmp (r_in2 C.un) s_inQ (sim_var 9) (sim_var 5)) (sim_var 5) (sim_callTy call_tuple_of b_tuple (Z.free 1) bb_tuple (sima_cons (sim_callB (cr_sortA C.un) b_sortedV (Z.free 4) bb_sorted (sima_cons (sim_lstV (sima_star (sim_var 5) (sima_cons (sim_callTy c_int b_int (Z.free 3) bb_int (sima_cons (sim_var 9) sima_nil)) sima_nil))) sima_nil)) sima_nil))))
  (sims_one (sim_expr (sim_bmL m_append mt_append PySem.F.plainAttrs_list PySem.F.slot_list_append PySem.F.type_list_append (sim_var 6) (sima_cons (sim_tup (sima_cons (sim_var 8) (sima_cons (sim_var 9) (sima_cons (sim_if (simt_cmp (op_eqD (un64 C.un)) s_eqQ (sim_var 10) (sim_glob Z.gc_WOKEN_guests)) sim_non (sim_tup (sima_cons (sim_var 10) (sima_cons (sim_var 4) (sima_cons (sim_var 11) sima_nil))))) sima_nil)))) sima_nil)))))))))
  (sims_one (sim_ret (sim_var 6))))))
theorem g_behind_steps (Z : Zs w h0 K mg) : GFn P w K mg base 4 "behind_steps" ["house", "sleeper", "standing"] [] F_behind_steps := by
  obtain ⟨fd, D⟩ := Z.c.t.d.def_ 11 (d := d_behind_steps)
  exact ⟨_, fd, [], [], Z.glo 33, D.kp, D.bindsN (fun _ _ _ _ _ _ us hl => match us, hl with | [_, _, _], _ => rfl), .nil, fun _ _ => by simp, n_behind_steps Z D⟩
theorem n_Search_closed_by_steps (Z : Zs w h0 K mg) {fd : FuncData} (D : FunD K d_Search_closed_by_steps.name d_Search_closed_by_steps.qual d_Search_closed_by_steps.params d_Search_closed_by_steps.body d_Search_closed_by_steps.scope (d_Search_closed_by_steps.dvs K) (d_Search_closed_by_steps.kws K) (He.fAd K d_Search_closed_by_steps.at_) fd) : FnG P w K mg base 5 (He.fAd K d_Search_closed_by_steps.at_) fd ["self", "layer"] F_Search_closed_by_steps := by
  refine FnG.tidy <| fn_sim (k := 4) D sc_Search_closed_by_steps fun cd A outer s H E hr C => ?_
  unfold M_Search_closed_by_steps
  unfold B_Search_closed_by_steps_1
  unfold B_Search_closed_by_steps_0
  exact (sims_cons (sim_par2 C 2 3 (sima_cons (sim_callTy call_list_of b_list (Z.free 5) bb_list (sima_cons (sim_var 1) sima_nil)) (sima_cons sim_int sima_nil)))
  (sims_cons (sim_while C (simt_cmp op_lt s_lt (sim_var 3) (sim_callB c_len2 b_len2 (Z.free 0) bb_len (sima_cons (sim_var 2) sima_nil))) (sims_cons (sim_for (sl := ([4] ++ ([5] ++ ([6] ++ [])))) C (simi_seq (sim_call (g_behind_steps Z) C (hr.mono (by decide : 4 ≤ 4)) (sima_cons (sim_fldC Z.ct ce_used_house (sim_var 0)) (sima_cons (sim_fldC Z.ct ce_used_sleeper (sim_var 0)) (sima_cons (sim_ixQ C.un (sim_var 2) (sim_var 3)) sima_nil))))) (simg_tup C.calm (simg_cons (simg_name C.nd 4) (simg_cons (simg_name C.nd 5) (simg_cons (simg_name C.nd 6) simg_nil)))) (sims_one (sim_ifS (SimW.t (simw_and (simt_cmp r_isNot s_isNot (sim_var 6) sim_non) (simw_and1 (simt_cmp (r_notIn2 C.un) s_notInQ (sim_var 6) (sim_fldC Z.ct ce_ahead (sim_var 0)))))) (sims_cons (sim_putQ C (sim_fldC Z.ct ce_ahead (sim_var 0)) (sim_var 6) (sim_tup (sima_cons (sim_ixQ C.un (sim_var 2) (sim_var 3)) (sima_cons (sim_var 4) (sima_cons (sim_var 5) sima_nil)))))
  (sims_one (sim_expr (sim_bmL m_append mt_append PySem.F.plainAttrs_list PySem.F.slot_list_append PySem.F.type_list_append (sim_var 2) (sima_cons (sim_var 6) sima_nil))))) sims_nil)))
  (sims_one (sim_aug C 3 sim_int))))
  (sims_one (sim_ret (sim_var 2)))))
theorem g_Search_closed_by_steps (Z : Zs w h0 K mg) : GMt P w K mg base 5 "Search" "closed_by_steps" ["self", "layer"] [] F_Search_closed_by_steps := by
  obtain ⟨fd, D⟩ := Z.c.t.d.def_ 12 (d := d_Search_closed_by_steps)
  exact ⟨_, _, fd, [], [], Z.glo 20, He.cls_ok (Z.c.t.d.fact 21 (f := .cls "Search")), He.meth_ok (Z.c.t.d.fact 34 (f := .meth "Search" "closed_by_steps")), D.bindsN (fun _ _ _ _ _ _ us hl => match us, hl with | [_, _], _ => rfl), .nil, fun _ _ => by simp, n_Search_closed_by_steps Z D⟩
theorem n_Search___init__ (Z : Zs w h0 K mg) {fd : FuncData} (D : FunD K d_Search___init__.name d_Search___init__.qual d_Search___init__.params d_Search___init__.body d_Search___init__.scope (d_Search___init__.dvs K) (d_Search___init__.kws K) (He.fAd K d_Search___init__.at_) fd) : FnG P w K mg base 6 (He.fAd K d_Search___init__.at_) fd ["self", "house", "sleeper", "first"] F_Search___init__ := by
  refine fn_sim (k := 5) D sc_Search___init__ fun cd A outer s H E hr C => ?_
  unfold M_Search___init__
  unfold B_Search___init___0
  exact (sims_cons (sim_setFC Z.ct ce_used_house (sim_var 0) (sim_var 1))
  (sims_cons (sim_setFC Z.ct ce_used_sleeper (sim_var 0) (sim_var 2))
  (sims_cons (sim_set C 4 (sim_call (g_first_standing Z) C (hr.mono (by decide : 2 ≤ 5)) (sima_cons (sim_var 2) (sima_cons (sim_var 3) sima_nil))))
  (sims_cons (sim_setFC Z.ct ce_ahead (sim_var 0) (sim_disp1N C (sim_var 4) sim_non))
  (sims_cons (sim_setFC Z.ct ce_layers (sim_var 0) (sim_lst sima_nil))
  (sims_cons (sim_set C 5 (sim_lstV (sima_cons (sim_var 4) sima_nil)))
  (sims_one (sim_while C (simt_cmp op_gt s_gt (sim_callB c_len2 b_len2 (Z.free 0) bb_len (sima_cons (sim_var 5) sima_nil)) sim_int) (sims_cons (sim_expr (sim_bmL m_append mt_append PySem.F.plainAttrs_list PySem.F.slot_list_append PySem.F.type_list_append (sim_fldC Z.ct ce_layers (sim_var 0)) (sima_cons (sim_methC ce_Search ce_closed_by_steps (g_Search_closed_by_steps Z) C (hr.mono (by decide : 5 ≤ 5)) (sim_var 0) (sima_cons (sim_var 5) sima_nil)) sima_nil)))
  (sims_one (sim_set C 5 (sim_methC ce_Search ce_behind_ticks (g_Search_behind_ticks Z) C (hr.mono (by decide : 3 ≤ 5)) (sim_var 0) (sima_cons (sim_ixQ C.un (sim_fldC Z.ct ce_layers (sim_var 0)) (sim_neg sim_int)) sima_nil)))))))))))))
theorem g_Search___init__ (Z : Zs w h0 K mg) : GCl P w K mg base 6 "Search" ["self", "house", "sleeper", "first"] [] F_Search___init__ := by
  obtain ⟨fd, D⟩ := Z.c.t.d.def_ 13 (d := d_Search___init__)
  exact ⟨_, _, fd, [], [], Z.glo 20, He.mkr_ok (Z.c.t.d.fact 35 (f := .mkr "Search")), D.bindsN (fun _ _ _ _ _ _ us hl => match us, hl with | [_, _, _, _], _ => rfl), .nil, fun _ _ => by simp, n_Search___init__ Z D⟩
theorem n_Search_with_room (Z : Zs w h0 K mg) {fd : FuncData} (D : FunD K d_Search_with_room.name d_Search_with_room.qual d_Search_with_room.params d_Search_with_room.body d_Search_with_room.scope (d_Search_with_room.dvs K) (d_Search_with_room.kws K) (He.fAd K d_Search_with_room.at_) fd) : FnG P w K mg base 1 (He.fAd K d_Search_with_room.at_) fd ["self", "room"] F_Search_with_room := by
  refine fn_sim (k := 0) D sc_Search_with_room fun cd A outer s H E hr C => ?_
  unfold M_Search_with_room
  unfold B_Search_with_room_1
  unfold B_Search_with_room_0
  exact (sims_cons (sim_for (sl := ([2] ++ ([3] ++ []))) C (simi_enumA (Z.free 2) (sima_cons (sim_fldC Z.ct ce_layers (sim_var 0)) sima_nil)) (simg_tup C.calm (simg_cons (simg_name C.nd 2) (simg_cons (simg_name C.nd 3) simg_nil))) (sims_one (sim_for (sl := [4]) C (simi_seq (sim_var 3)) (simg_name C.nd 4) (sims_one (sim_ifS (simt_cmp (r_in2 C.un) s_inQ (sim_var 1) (sim_ixQ C.un (sim_var 4) sim_int)) (sims_one (sim_ret (sim_tup (sima_cons (sim_var 2) (sima_cons (sim_var 4) sima_nil))))) sims_nil)))))
  (sims_one (sim_ret sim_non)))
theorem g_Search_with_room (Z : Zs w h0 K mg) : GMt P w K mg base 1 "Search" "with_room" ["self", "room"] [] F_Search_with_room := by
  obtain ⟨fd, D⟩ := Z.c.t.d.def_ 14 (d := d_Search_with_room)
  exact ⟨_, _, fd, [], [], Z.glo 20, He.cls_ok (Z.c.t.d.fact 21 (f := .cls "Search")), He.meth_ok (Z.c.t.d.fact 36 (f := .meth "Search" "with_room")), D.bindsN (fun _ _ _ _ _ _ us hl => match us, hl with | [_, _], _ => rfl), .nil, fun _ _ => by simp, n_Search_with_room Z D⟩
theorem n_fewest (Z : Zs w h0 K mg) {fd : FuncData} (D : FunD K d_fewest.name d_fewest.qual d_fewest.params d_fewest.body d_fewest.scope (d_fewest.dvs K) (d_fewest.kws K) (He.fAd K d_fewest.at_) fd) : FnG P w K mg base 8 (He.fAd K d_fewest.at_) fd ["house", "sleeper", "first", "room"] F_fewest := by
  refine FnG.frame <| FnG.tidy <| fn_sim (k := 7) D sc_fewest fun cd A outer s H E hr C => ?_
  unfold M_fewest
  exact (sims_cons (sim_set C 4 (sim_methC ce_Search ce_with_room (g_Search_with_room Z) C (hr.mono (by decide : 1 ≤ 7)) (sim_makeC ce_Search (g_Search___init__ Z) C (hr.mono (by decide : 7 ≤ 7)) (sima_cons (sim_var 0) (sima_cons (sim_var 1) (sima_cons (sim_var 2) sima_nil)))) (sima_cons (sim_var 3) sima_nil)))
  (sims_one (sim_ret (sim_if (simt_cmp r_is s_is (sim_var 4) sim_non) sim_non (sim_ixQ C.un (sim_var 4) sim_int)))))
theorem g_fewest (Z : Zs w h0 K mg) : GFn P w K mg base 8 "fewest" ["house", "sleeper", "first", "room"] [] F_fewest := by
  obtain ⟨fd, D⟩ := Z.c.t.d.def_ 15 (d := d_fewest)
  exact ⟨_, fd, [], [], Z.glo 37, D.kp, D.bindsN (fun _ _ _ _ _ _ us hl => match us, hl with | [_, _, _, _], _ => rfl), .nil, fun _ _ => by simp, n_fewest Z D⟩
theorem gk_fewest_0 (Z : Zs w h0 K mg) : GKw P w K mg base 8 "fewest" ["house", "sleeper", "first", "room"] ["room", "first", "sleeper", "house"] [3, 2, 1, 0] F_fewest := by
  obtain ⟨fd, D⟩ := Z.c.t.d.def_ 15 (d := d_fewest)
  exact ⟨_, fd, Z.glo 37, D.kp, binds_kw D (fun _ _ _ _ _ _ us hl => match us, hl with | [_, _, _, _], _ => rfl), n_fewest Z D⟩
theorem n_unheard (Z : Zs w h0 K mg) {fd : FuncData} (D : FunD K d_unheard.name d_unheard.qual d_unheard.params d_unheard.body d_unheard.scope (d_unheard.dvs K) (d_unheard.kws K) (He.fAd K d_unheard.at_) fd) : FnG P w K mg base 8 (He.fAd K d_unheard.at_) fd ["house", "sleeper", "first"] F_unheard := by
  refine FnG.frame <| FnG.tidy <| fn_sim (k := 7) D sc_unheard fun cd A outer s H E hr C => ?_
  unfold M_unheard
  unfold B_unheard_1
  unfold B_unheard_0
  exact (sims_cons (sim_set C 3 sim_dnew)
  (sims_cons (sim_for (sl := [4]) C (simi_seq (sim_fldC Z.ct ce_layers (sim_makeC ce_Search (g_Search___init__ Z) C (hr.mono (by decide : 7 ≤ 7)) (sima_cons (sim_var 0) (sima_cons (sim_var 1) (sima_cons (sim_var 2) sima_nil)))))) (simg_name C.nd 4) (sims_one (sim_for (sl := [5]) C (simi_seq (sim_var 4)) (simg_name C.nd 5) (sims_one (sim_expr (sim_bmD m_updQ (mt_update C.calm) PySem.F.plainAttrs_dict PySem.F.slot_dict_update PySem.F.type_dict_update (sim_var 3) (sima_cons (sim_tidy (sim_lc (sl := [6]) (own := [("room", 6)]) C (simi_seq (sim_ixQ C.un (sim_var 5) sim_int)) (blk_ok (by show blkB N_unheard (defScope s_unheard) _ _ = true; decide +kernel)) (by decide) (fun sh1 H1 Cc1 cl1 fp1 => (simg_name (by exact C.nd) 6)) (fun sh1 H1 Cc1 cl1 fp1 => simts_nil) (fun sh1 H1 Cc1 cl1 fp1 => (sim_tup (sima_cons (sim_var 6) (sima_cons sim_bl sima_nil)))))) sima_nil)))))))
  (sims_one (sim_ret (sim_callTy call_tuple_of b_tuple (Z.free 1) bb_tuple (sima_cons (sim_callB (cr_sortA C.un) b_sortedV (Z.free 4) bb_sorted (sima_cons (sim_tidy (sim_lockM (sim_lc (sl := [6]) (own := [("room", 6)]) C (simi_keys (sim_var 3)) (blk_ok (by show blkB N_unheard (defScope s_unheard) _ _ = true; decide +kernel)) (by decide) (fun sh1 H1 Cc1 cl1 fp1 => (simg_name (by exact C.nd) 6)) (fun sh1 H1 Cc1 cl1 fp1 => simts_nil) (fun sh1 H1 Cc1 cl1 fp1 => (sim_callTy c_int b_int (Z.free 3) bb_int (sima_cons (sim_var 6) sima_nil)))))) sima_nil)) sima_nil))))))
theorem g_unheard (Z : Zs w h0 K mg) : GFn P w K mg base 8 "unheard" ["house", "sleeper", "first"] [] F_unheard := by
  obtain ⟨fd, D⟩ := Z.c.t.d.def_ 16 (d := d_unheard)
  exact ⟨_, fd, [], [], Z.glo 38, D.kp, D.bindsN (fun _ _ _ _ _ _ us hl => match us, hl with | [_, _, _], _ => rfl), .nil, fun _ _ => by simp, n_unheard Z D⟩
theorem gk_unheard_0 (Z : Zs w h0 K mg) : GKw P w K mg base 8 "unheard" ["house", "sleeper", "first"] ["first", "house", "sleeper"] [1, 2, 0] F_unheard := by
  obtain ⟨fd, D⟩ := Z.c.t.d.def_ 16 (d := d_unheard)
  exact ⟨_, fd, Z.glo 38, D.kp, binds_kw D (fun _ _ _ _ _ _ us hl => match us, hl with | [_, _, _], _ => rfl), n_unheard Z D⟩
theorem n_table (Z : Zs w h0 K mg) {fd : FuncData} (D : FunD K d_table.name d_table.qual d_table.params d_table.body d_table.scope (d_table.dvs K) (d_table.kws K) (He.fAd K d_table.at_) fd) : FnG P w K mg base 9 (He.fAd K d_table.at_) fd ["house", "sleeper", "first", "room"] F_table := by
  refine FnG.frame <| FnG.tidy <| fn_sim (k := 8) D sc_table fun cd A outer s H E hr C => ?_
  unfold M_table
  unfold B_table_0
  exact (sims_cons (sim_ifS (simt_cmp (r_in2 C.un) s_inQ (sim_var 3) (sim_call (g_unheard Z) C (hr.mono (by decide : 8 ≤ 8)) (sima_cons (sim_var 0) (sima_cons (sim_var 1) (sima_cons (sim_var 2) sima_nil))))) (sims_one (sim_ret sim_non)) sims_nil)
  (sims_cons (sim_set C 4 (sim_lst sima_nil))
  (sims_cons (sim_for (sl := [5]) C (simi_seq (sim_fldC Z.ct ce_layers (sim_makeC ce_Search (g_Search___init__ Z) C (hr.mono (by decide : 7 ≤ 8)) (sima_cons (sim_var 0) (sima_cons (sim_var 1) (sima_cons (sim_var 2) sima_nil)))))) (simg_name C.nd 5) (sims_one (sim_expr (sim_bmL m_extend mt_extend PySem.F.plainAttrs_list PySem.F.slot_list_extend PySem.F.type_list_extend (sim_var 4) (sima_cons (sim_var 5) sima_nil)))))
  (sims_one (sim_ret (sim_callTy call_tuple_of b_tuple (Z.free 1) bb_tuple (sima_cons (sim_var 4) sima_nil)))))))
theorem g_table (Z : Zs w h0 K mg) : GFn P w K mg base 9 "table" ["house", "sleeper", "first", "room"] [] F_table := by
  obtain ⟨fd, D⟩ := Z.c.t.d.def_ 17 (d := d_table)
  exact ⟨_, fd, [], [], Z.glo 39, D.kp, D.bindsN (fun _ _ _ _ _ _ us hl => match us, hl with | [_, _, _, _], _ => rfl), .nil, fun _ _ => by simp, n_table Z D⟩
theorem gk_table_0 (Z : Zs w h0 K mg) : GKw P w K mg base 9 "table" ["house", "sleeper", "first", "room"] ["room", "first", "sleeper", "house"] [3, 2, 1, 0] F_table := by
  obtain ⟨fd, D⟩ := Z.c.t.d.def_ 17 (d := d_table)
  exact ⟨_, fd, Z.glo 39, D.kp, binds_kw D (fun _ _ _ _ _ _ us hl => match us, hl with | [_, _, _, _], _ => rfl), n_table Z D⟩
theorem n_is_integer (Z : Zs w h0 K mg) {fd : FuncData} (D : FunD K d_is_integer.name d_is_integer.qual d_is_integer.params d_is_integer.body d_is_integer.scope (d_is_integer.dvs K) (d_is_integer.kws K) (He.fAd K d_is_integer.at_) fd) : FnG P w K mg base 1 (He.fAd K d_is_integer.at_) fd ["value"] F_is_integer := by
  refine FnG.frame <| fn_sim (k := 0) D sc_is_integer fun cd A outer s H E hr C => ?_
  unfold M_is_integer
  exact (sims_one (sim_ret (sim_and (sim_isi .int (Z.free 6) (Z.free 3) bt_int (sim_var 0)) (sim_one (sim_not (sim_isi .bl (Z.free 6) (Z.free 7) bt_bool (sim_var 0)))))))
theorem g_is_integer (Z : Zs w h0 K mg) : GFn P w K mg base 1 "is_integer" ["value"] [] F_is_integer := by
  obtain ⟨fd, D⟩ := Z.c.t.d.def_ 18 (d := d_is_integer)
  exact ⟨_, fd, [], [], Z.glo 40, D.kp, D.bindsN (fun _ _ _ _ _ _ us hl => match us, hl with | [_], _ => rfl), .nil, fun _ _ => by simp, n_is_integer Z D⟩
theorem n_is_from (Z : Zs w h0 K mg) {fd : FuncData} (D : FunD K d_is_from.name d_is_from.qual d_is_from.params d_is_from.body d_is_from.scope (d_is_from.dvs K) (d_is_from.kws K) (He.fAd K d_is_from.at_) fd) : FnG P w K mg base 2 (He.fAd K d_is_from.at_) fd ["value", "least"] F_is_from := by
  refine FnG.frame <| fn_sim (k := 1) D sc_is_from fun cd A outer s H E hr C => ?_
  unfold M_is_from
  exact (sims_one (sim_ret (sim_and (sim_call (g_is_integer Z) C (hr.mono (by decide : 1 ≤ 1)) (sima_cons (sim_var 0) sima_nil)) (sim_one (sim_cmp op_ge s_ge (sim_var 0) (sim_var 1))))))
theorem g_is_from (Z : Zs w h0 K mg) : GFn P w K mg base 2 "is_from" ["value", "least"] [] F_is_from := by
  obtain ⟨fd, D⟩ := Z.c.t.d.def_ 19 (d := d_is_from)
  exact ⟨_, fd, [], [], Z.glo 41, D.kp, D.bindsN (fun _ _ _ _ _ _ us hl => match us, hl with | [_, _], _ => rfl), .nil, fun _ _ => by simp, n_is_from Z D⟩
theorem n_is_number (Z : Zs w h0 K mg) {fd : FuncData} (D : FunD K d_is_number.name d_is_number.qual d_is_number.params d_is_number.body d_is_number.scope (d_is_number.dvs K) (d_is_number.kws K) (He.fAd K d_is_number.at_) fd) : FnG P w K mg base 3 (He.fAd K d_is_number.at_) fd ["value"] F_is_number := by
  refine FnG.frame <| fn_sim (k := 2) D sc_is_number fun cd A outer s H E hr C => ?_
  unfold M_is_number
  exact (sims_one (sim_ret (sim_call (g_is_from Z) C (hr.mono (by decide : 2 ≤ 2)) (sima_cons (sim_var 0) (sima_cons sim_int sima_nil)))))
theorem g_is_number (Z : Zs w h0 K mg) : GFn P w K mg base 3 "is_number" ["value"] [] F_is_number := by
  obtain ⟨fd, D⟩ := Z.c.t.d.def_ 20 (d := d_is_number)
  exact ⟨_, fd, [], [], Z.glo 42, D.kp, D.bindsN (fun _ _ _ _ _ _ us hl => match us, hl with | [_], _ => rfl), .nil, fun _ _ => by simp, n_is_number Z D⟩
theorem n_is_lot (Z : Zs w h0 K mg) {fd : FuncData} (D : FunD K d_is_lot.name d_is_lot.qual d_is_lot.params d_is_lot.body d_is_lot.scope (d_is_lot.dvs K) (d_is_lot.kws K) (He.fAd K d_is_lot.at_) fd) : FnG P w K mg base 4 (He.fAd K d_is_lot.at_) fd ["house", "value"] F_is_lot := by
  refine FnG.frame <| fn_sim (k := 3) D sc_is_lot fun cd A outer s H E hr C => ?_
  unfold M_is_lot
  exact (sims_cons (sim_ifS (SimW.t (simw_or (simt_not (simt_tru (sim_isi .tup (Z.free 6) (Z.free 1) bt_tuple (sim_var 1)))) (simw_or1 (simt_not (simt_tru (sim_callB (cr_all C.calm) b_all (Z.free 8) bb_all (sima_cons (sim_tidy (sim_lc (sl := [2]) (own := [("room", 2)]) C (simi_seq (sim_var 1)) (blk_ok (by show blkB N_is_lot (defScope s_is_lot) _ _ = true; decide +kernel)) (by decide) (fun sh1 H1 Cc1 cl1 fp1 => (simg_name (by exact C.nd) 2)) (fun sh1 H1 Cc1 cl1 fp1 => simts_nil) (fun sh1 H1 Cc1 cl1 fp1 => (sim_and (sim_call (g_is_number Z) (cok_blk C) (hr.mono (by decide : 3 ≤ 3)) (sima_cons (sim_var 2) sima_nil)) (sim_one (sim_cmp op_lt s_lt (sim_var 2) (sim_fldC Z.ct ce_rooms (sim_var 0)))))))) sima_nil))))))) (sims_one (sim_ret sim_bl)) sims_nil)
  (sims_one (sim_ret (sim_callB (cr_all C.calm) b_all (Z.free 8) bb_all (sima_cons (sim_tidy (sim_lc (sl := ([3] ++ ([4] ++ []))) (own := [("one", 3), ("other", 4)]) C (simi_zipA (Z.free 9) (sima_cons (sim_var 1) (sima_cons (sim_sliceV (sim_var 1) (simo_some sim_int) simo_none) sima_nil))) (blk_ok (by show blkB N_is_lot (defScope s_is_lot) _ _ = true; decide +kernel)) (by decide) (fun sh1 H1 Cc1 cl1 fp1 => (simg_tup (by exact C.calm) (simg_cons (simg_name (by exact C.nd) 3) (simg_cons (simg_name (by exact C.nd) 4) simg_nil)))) (fun sh1 H1 Cc1 cl1 fp1 => simts_nil) (fun sh1 H1 Cc1 cl1 fp1 => (sim_cmp op_lt s_lt (sim_var 3) (sim_var 4))))) sima_nil)))))
theorem g_is_lot (Z : Zs w h0 K mg) : GFn P w K mg base 4 "is_lot" ["house", "value"] [] F_is_lot := by
  obtain ⟨fd, D⟩ := Z.c.t.d.def_ 21 (d := d_is_lot)
  exact ⟨_, fd, [], [], Z.glo 43, D.kp, D.bindsN (fun _ _ _ _ _ _ us hl => match us, hl with | [_, _], _ => rfl), .nil, fun _ _ => by simp, n_is_lot Z D⟩
theorem n_is_between (Z : Zs w h0 K mg) {fd : FuncData} (D : FunD K d_is_between.name d_is_between.qual d_is_between.params d_is_between.body d_is_between.scope (d_is_between.dvs K) (d_is_between.kws K) (He.fAd K d_is_between.at_) fd) : FnG P w K mg base 2 (He.fAd K d_is_between.at_) fd ["value", "least", "most"] F_is_between := by
  refine FnG.frame <| fn_sim (k := 1) D sc_is_between fun cd A outer s H E hr C => ?_
  unfold M_is_between
  exact (sims_one (sim_ret (sim_and (sim_call (g_is_integer Z) C (hr.mono (by decide : 1 ≤ 1)) (sima_cons (sim_var 0) sima_nil)) (sim_one (sim_chain op_le op_le s_le s_le (sim_var 1) (sim_var 0) (sim_var 2))))))
theorem g_is_between (Z : Zs w h0 K mg) : GFn P w K mg base 2 "is_between" ["value", "least", "most"] [] F_is_between := by
  obtain ⟨fd, D⟩ := Z.c.t.d.def_ 22 (d := d_is_between)
  exact ⟨_, fd, [], [], Z.glo 44, D.kp, D.bindsN (fun _ _ _ _ _ _ us hl => match us, hl with | [_, _, _], _ => rfl), .nil, fun _ _ => by simp, n_is_between Z D⟩
theorem n_is_longer_state (Z : Zs w h0 K mg) {fd : FuncData} (D : FunD K d_is_longer_state.name d_is_longer_state.qual d_is_longer_state.params d_is_longer_state.body d_is_longer_state.scope (d_is_longer_state.dvs K) (d_is_longer_state.kws K) (He.fAd K d_is_longer_state.at_) fd) : FnG P w K mg base 3 (He.fAd K d_is_longer_state.at_) fd ["sleeper", "value"] F_is_longer_state := by
  refine fn_sim (k := 2) D sc_is_longer_state fun cd A outer s H E hr C => ?_
  unfold M_is_longer_state
  exact (sims_cons (sim_ifS (SimW.t (simw_and (simt_cmp (op_eqD (un64 C.un)) s_eqQ (sim_callB c_len2 b_len2 (Z.free 0) bb_len (sima_cons (sim_var 1) sima_nil)) sim_int) (simw_and1 (simt_cmp (op_eqD (un64 C.un)) s_eqQ (sim_ixQ C.un (sim_var 1) sim_int) (sim_strC ce_dozing))))) (sims_one (sim_ret (sim_call (g_is_between Z) C (hr.mono (by decide : 2 ≤ 2)) (sima_cons (sim_ixQ C.un (sim_var 1) sim_int) (sima_cons sim_int (sima_cons (sim_fldC Z.ct ce_doze (sim_var 0)) sima_nil)))))) sims_nil)
  (sims_cons (sim_ifS (simt_cmp (op_eqD (un64 C.un)) s_eqQ (sim_callB c_len2 b_len2 (Z.free 0) bb_len (sima_cons (sim_var 1) sima_nil)) sim_int) (sims_one (sim_ret (sim_and (sim_cmp (op_eqD (un64 C.un)) s_eqQ (sim_ixQ C.un (sim_var 1) sim_int) (sim_strC ce_stirring)) (sim_one (sim_call (g_is_between Z) C (hr.mono (by decide : 2 ≤ 2)) (sima_cons (sim_ixQ C.un (sim_var 1) sim_int) (sima_cons sim_int (sima_cons (sim_fldC Z.ct ce_stir (sim_var 0)) sima_nil)))))))) sims_nil)
  (sims_cons (sim_ifS (SimW.t (simw_or (simt_cmp (op_neD (un64 C.un)) s_neQ (sim_callB c_len2 b_len2 (Z.free 0) bb_len (sima_cons (sim_var 1) sima_nil)) sim_int) (simw_or (simt_cmp (op_neD (un64 C.un)) s_neQ (sim_ixQ C.un (sim_var 1) sim_int) (sim_strC ce_asleep)) (simw_or1 (simt_not (simt_tru (sim_isi .str (Z.free 6) (Z.free 10) bt_str (sim_ixQ C.un (sim_var 1) sim_int)))))))) (sims_one (sim_ret sim_bl)) sims_nil)
  (sims_one (sim_ret (sim_and (sim_cmp (op_eqD (un64 C.un)) s_eqQ (sim_methC ce_Sleeper ce_sort_of (g_Sleeper_sort_of Z) C (hr.mono (by decide : 1 ≤ 2)) (sim_var 0) (sima_cons (sim_ixQ C.un (sim_var 1) sim_int) sima_nil)) (sim_strC ce_faint)) (sim_one (sim_call (g_is_between Z) C (hr.mono (by decide : 2 ≤ 2)) (sima_cons (sim_ixQ C.un (sim_var 1) sim_int) (sima_cons sim_int (sima_cons (sim_fldC Z.ct ce_near (sim_var 0)) sima_nil)))))))))))
theorem g_is_longer_state (Z : Zs w h0 K mg) : GFn P w K mg base 3 "is_longer_state" ["sleeper", "value"] [] F_is_longer_state := by
  obtain ⟨fd, D⟩ := Z.c.t.d.def_ 23 (d := d_is_longer_state)
  exact ⟨_, fd, [], [], Z.glo 45, D.kp, D.bindsN (fun _ _ _ _ _ _ us hl => match us, hl with | [_, _], _ => rfl), .nil, fun _ _ => by simp, n_is_longer_state Z D⟩
theorem n_is_state (Z : Zs w h0 K mg) {fd : FuncData} (D : FunD K d_is_state.name d_is_state.qual d_is_state.params d_is_state.body d_is_state.scope (d_is_state.dvs K) (d_is_state.kws K) (He.fAd K d_is_state.at_) fd) : FnG P w K mg base 4 (He.fAd K d_is_state.at_) fd ["sleeper", "value"] F_is_state := by
  refine fn_sim (k := 3) D sc_is_state fun cd A outer s H E hr C => ?_
  unfold M_is_state
  exact (sims_cons (sim_ifS (SimW.t (simw_or (simt_not (simt_tru (sim_isi .tup (Z.free 6) (Z.free 1) bt_tuple (sim_var 1)))) (simw_or (simt_cmp (op_eqD (un64 C.un)) s_eqQ (sim_callB c_len2 b_len2 (Z.free 0) bb_len (sima_cons (sim_var 1) sima_nil)) sim_int) (simw_or1 (simt_not (simt_tru (sim_isi .str (Z.free 6) (Z.free 10) bt_str (sim_ixQ C.un (sim_var 1) sim_int)))))))) (sims_one (sim_ret sim_bl)) sims_nil)
  (sims_one (sim_ret (sim_if (simt_cmp (op_eqD (un64 C.un)) s_eqQ (sim_callB c_len2 b_len2 (Z.free 0) bb_len (sima_cons (sim_var 1) sima_nil)) sim_int) (sim_cmp (r_in2 C.un) s_inQ (sim_ixQ C.un (sim_var 1) sim_int) (sim_tup (sima_cons (sim_strC ce_asleep) (sima_cons (sim_strC ce_up) sima_nil)))) (sim_call (g_is_longer_state Z) C (hr.mono (by decide : 3 ≤ 3)) (sima_cons (sim_var 0) (sima_cons (sim_var 1) sima_nil)))))))
theorem g_is_state (Z : Zs w h0 K mg) : GFn P w K mg base 4 "is_state" ["sleeper", "value"] [] F_is_state := by
  obtain ⟨fd, D⟩ := Z.c.t.d.def_ 24 (d := d_is_state)
  exact ⟨_, fd, [], [], Z.glo 46, D.kp, D.bindsN (fun _ _ _ _ _ _ us hl => match us, hl with | [_, _], _ => rfl), .nil, fun _ _ => by simp, n_is_state Z D⟩
theorem n_is_standing (Z : Zs w h0 K mg) {fd : FuncData} (D : FunD K d_is_standing.name d_is_standing.qual d_is_standing.params d_is_standing.body d_is_standing.scope (d_is_standing.dvs K) (d_is_standing.kws K) (He.fAd K d_is_standing.at_) fd) : FnG P w K mg base 5 (He.fAd K d_is_standing.at_) fd ["house", "sleeper", "value"] F_is_standing := by
  refine FnG.frame <| fn_sim (k := 4) D sc_is_standing fun cd A outer s H E hr C => ?_
  unfold M_is_standing
  exact (sims_cons (sim_ifS (SimW.t (simw_or (simt_not (simt_tru (sim_isi .tup (Z.free 6) (Z.free 1) bt_tuple (sim_var 2)))) (simw_or (simt_cmp (op_neD (un64 C.un)) s_neQ (sim_callB c_len2 b_len2 (Z.free 0) bb_len (sima_cons (sim_var 2) sima_nil)) sim_int) (simw_or1 (simt_not (simt_tru (sim_call (g_is_state Z) C (hr.mono (by decide : 4 ≤ 4)) (sima_cons (sim_var 1) (sima_cons (sim_ixQ C.un (sim_var 2) sim_int) sima_nil))))))))) (sims_one (sim_ret sim_bl)) sims_nil)
  (sims_cons (sim_ifS (SimW.t (simw_or (simt_not (simt_tru (sim_call (g_is_lot Z) C (hr.mono (by decide : 4 ≤ 4)) (sima_cons (sim_var 0) (sima_cons (sim_ixQ C.un (sim_var 2) sim_int) sima_nil))))) (simw_or (simt_not (simt_tru (sim_call (g_is_lot Z) C (hr.mono (by decide : 4 ≤ 4)) (sima_cons (sim_var 0) (sima_cons (sim_ixQ C.un (sim_var 2) sim_int) sima_nil))))) (simw_or1 (simt_cmp (op_eqD (un64 C.un)) s_eqQ (sim_callB c_len2 b_len2 (Z.free 0) bb_len (sima_cons (sim_ixQ C.un (sim_var 2) sim_int) sima_nil)) sim_int))))) (sims_one (sim_ret sim_bl)) sims_nil)
  (sims_one (sim_ret (sim_callB (cr_all C.calm) b_all (Z.free 8) bb_all (sima_cons (sim_tidy (sim_lc (sl := [3]) (own := [("room", 3)]) C (simi_seq (sim_ixQ C.un (sim_var 2) sim_int)) (blk_ok (by show blkB N_is_standing (defScope s_is_standing) _ _ = true; decide +kernel)) (by decide) (fun sh1 H1 Cc1 cl1 fp1 => (simg_name (by exact C.nd) 3)) (fun sh1 H1 Cc1 cl1 fp1 => simts_nil) (fun sh1 H1 Cc1 cl1 fp1 => (sim_cmp (r_in2 (by exact C.un)) s_inQ (sim_var 3) (sim_ixQ (by exact C.un) (sim_var 2) sim_int))))) sima_nil))))))
theorem g_is_standing (Z : Zs w h0 K mg) : GFn P w K mg base 5 "is_standing" ["house", "sleeper", "value"] [] F_is_standing := by
  obtain ⟨fd, D⟩ := Z.c.t.d.def_ 25 (d := d_is_standing)
  exact ⟨_, fd, [], [], Z.glo 47, D.kp, D.bindsN (fun _ _ _ _ _ _ us hl => match us, hl with | [_, _, _], _ => rfl), .nil, fun _ _ => by simp, n_is_standing Z D⟩
theorem n_leads_within (Z : Zs w h0 K mg) {fd : FuncData} (D : FunD K d_leads_within.name d_leads_within.qual d_leads_within.params d_leads_within.body d_leads_within.scope (d_leads_within.dvs K) (d_leads_within.kws K) (He.fAd K d_leads_within.at_) fd) : FnG P w K mg base 5 (He.fAd K d_leads_within.at_) fd ["house", "sleeper", "standing", "known"] F_leads_within := by
  refine FnG.frame <| FnG.tidy <| fn_sim (k := 4) D sc_leads_within fun cd A outer s H E hr C => ?_
  unfold M_leads_within
  exact (sims_cons (lcset_go (i := 4) (sl := ([5] ++ ([6] ++ ([7] ++ [])))) (own := [("door", 5), ("room", 6), ("behind", 7)]) (fun res h => res) (fun _ p => p) C (simi_seq (sim_call (g_behind_steps Z) C (hr.mono (by decide : 4 ≤ 4)) (sima_cons (sim_var 0) (sima_cons (sim_var 1) (sima_cons (sim_var 2) sima_nil))))) (blk_ok (by show blkB N_leads_within (defScope s_leads_within) _ _ = true; decide +kernel)) (by decide) (fun sh1 H1 Cc1 cl1 fp1 => (simg_tup (by exact C.calm) (simg_cons (simg_name (by exact C.nd) 5) (simg_cons (simg_name (by exact C.nd) 6) (simg_cons (simg_name (by exact C.nd) 7) simg_nil))))) (fun sh1 H1 Cc1 cl1 fp1 => simts_nil) (fun sh1 H1 Cc1 cl1 fp1 => (sim_var 7)) rfl rfl rfl (by intro _; rfl))
  (sims_cons (sim_expr (sim_bmL m_append mt_append PySem.F.plainAttrs_list PySem.F.slot_list_append PySem.F.type_list_append (sim_var 4) (sima_cons (sim_call (g_behind_tick Z) C (hr.mono (by decide : 2 ≤ 4)) (sima_cons (sim_var 1) (sima_cons (sim_var 2) sima_nil))) sima_nil)))
  (sims_one (sim_ret (sim_callB (cr_all C.calm) b_all (Z.free 8) bb_all (sima_cons (sim_tidy (sim_lc (sl := [7]) (own := [("behind", 7)]) C (simi_seq (sim_var 4)) (blk_ok (by show blkB N_leads_within (defScope s_leads_within) _ _ = true; decide +kernel)) (by decide) (fun sh1 H1 Cc1 cl1 fp1 => (simg_name (by exact C.nd) 7)) (fun sh1 H1 Cc1 cl1 fp1 => simts_nil) (fun sh1 H1 Cc1 cl1 fp1 => (sim_or (sim_cmp r_is s_is (sim_var 7) sim_non) (sim_one (sim_cmp (r_in2 (by exact C.un)) s_inQ (sim_var 7) (sim_var 3))))))) sima_nil))))))
theorem g_leads_within (Z : Zs w h0 K mg) : GFn P w K mg base 5 "leads_within" ["house", "sleeper", "standing", "known"] [] F_leads_within := by
  obtain ⟨fd, D⟩ := Z.c.t.d.def_ 26 (d := d_leads_within)
  exact ⟨_, fd, [], [], Z.glo 48, D.kp, D.bindsN (fun _ _ _ _ _ _ us hl => match us, hl with | [_, _, _, _], _ => rfl), .nil, fun _ _ => by simp, n_leads_within Z D⟩
theorem n_table_holds (Z : Zs w h0 K mg) {fd : FuncData} (D : FunD K d_table_holds.name d_table_holds.qual d_table_holds.params d_table_holds.body d_table_holds.scope (d_table_holds.dvs K) (d_table_holds.kws K) (He.fAd K d_table_holds.at_) fd) : FnG P w K mg base 6 (He.fAd K d_table_holds.at_) fd ["house", "sleeper", "first", "room", "value"] F_table_holds := by
  refine FnG.frame <| FnG.tidy <| fn_sim (k := 5) D sc_table_holds fun cd A outer s H E hr C => ?_
  unfold M_table_holds
  exact (sims_cons (sim_ifS (SimW.t (simw_or (simt_not (simt_tru (sim_isi .tup (Z.free 6) (Z.free 1) bt_tuple (sim_var 4)))) (simw_or1 (simt_not (simt_tru (sim_callB (cr_all C.calm) b_all (Z.free 8) bb_all (sima_cons (sim_tidy (sim_lc (sl := [5]) (own := [("one", 5)]) C (simi_seq (sim_var 4)) (blk_ok (by show blkB N_table_holds (defScope s_table_holds) _ _ = true; decide +kernel)) (by decide) (fun sh1 H1 Cc1 cl1 fp1 => (simg_name (by exact C.nd) 5)) (fun sh1 H1 Cc1 cl1 fp1 => simts_nil) (fun sh1 H1 Cc1 cl1 fp1 => (sim_call (g_is_standing Z) (cok_blk C) (hr.mono (by decide : 5 ≤ 5)) (sima_cons (sim_var 0) (sima_cons (sim_var 1) (sima_cons (sim_var 5) sima_nil))))))) sima_nil))))))) (sims_one (sim_ret sim_bl)) sims_nil)
  (sims_cons (sim_set C 6 (sim_dcN (sl := [7]) (own := [("standing", 7)]) C (simi_seq (sim_var 4)) (blk_ok (by show blkB N_table_holds (defScope s_table_holds) _ _ = true; decide +kernel)) (by decide) (fun sh1 H1 Cc1 cl1 fp1 => (simg_name (by exact C.nd) 7)) (fun sh1 H1 Cc1 cl1 fp1 => simts_nil) (fun sh1 H1 Cc1 cl1 fp1 => (sim_var 7)) (fun sh1 H1 Cc1 cl1 fp1 => sim_bl)))
  (sims_cons (sim_ifS (SimW.t (simw_or (simt_cmp op_lt s_lt (sim_callB c_len2 b_len2 (Z.free 0) bb_len (sima_cons (sim_var 6) sima_nil)) (sim_callB c_len2 b_len2 (Z.free 0) bb_len (sima_cons (sim_var 4) sima_nil))) (simw_or1 (simt_cmp (r_notIn2 C.un) s_notInQ (sim_call (g_first_standing Z) C (hr.mono (by decide : 2 ≤ 5)) (sima_cons (sim_var 1) (sima_cons (sim_var 2) sima_nil))) (sim_var 6))))) (sims_one (sim_ret sim_bl)) sims_nil)
  (sims_cons (sim_ifS (simt_tru (sim_callB (cr_any C.calm) b_any (Z.free 11) bb_any (sima_cons (sim_tidy (sim_lc (sl := [7]) (own := [("standing", 7)]) C (simi_seq (sim_var 4)) (blk_ok (by show blkB N_table_holds (defScope s_table_holds) _ _ = true; decide +kernel)) (by decide) (fun sh1 H1 Cc1 cl1 fp1 => (simg_name (by exact C.nd) 7)) (fun sh1 H1 Cc1 cl1 fp1 => simts_nil) (fun sh1 H1 Cc1 cl1 fp1 => (sim_cmp (r_in2 (by exact C.un)) s_inQ (sim_var 3) (sim_ixQ (by exact C.un) (sim_var 7) sim_int))))) sima_nil))) (sims_one (sim_ret sim_bl)) sims_nil)
  (sims_one (sim_ret (sim_callB (cr_all C.calm) b_all (Z.free 8) bb_all (sima_cons (sim_tidy (sim_lc (sl := [7]) (own := [("standing", 7)]) C (simi_seq (sim_var 4)) (blk_ok (by show blkB N_table_holds (defScope s_table_holds) _ _ = true; decide +kernel)) (by decide) (fun sh1 H1 Cc1 cl1 fp1 => (simg_name (by exact C.nd) 7)) (fun sh1 H1 Cc1 cl1 fp1 => simts_nil) (fun sh1 H1 Cc1 cl1 fp1 => (sim_call (g_leads_within Z) (cok_blk C) (hr.mono (by decide : 5 ≤ 5)) (sima_cons (sim_var 0) (sima_cons (sim_var 1) (sima_cons (sim_var 7) (sima_cons (sim_var 6) sima_nil)))))))) sima_nil))))))))
theorem g_table_holds (Z : Zs w h0 K mg) : GFn P w K mg base 6 "table_holds" ["house", "sleeper", "first", "room", "value"] [] F_table_holds := by
  obtain ⟨fd, D⟩ := Z.c.t.d.def_ 27 (d := d_table_holds)
  exact ⟨_, fd, [], [], Z.glo 49, D.kp, D.bindsN (fun _ _ _ _ _ _ us hl => match us, hl with | [_, _, _, _, _], _ => rfl), .nil, fun _ _ => by simp, n_table_holds Z D⟩
theorem gk_table_holds_0 (Z : Zs w h0 K mg) : GKw P w K mg base 6 "table_holds" ["house", "sleeper", "first", "room", "value"] ["value", "room", "first", "house", "sleeper"] [3, 4, 2, 1, 0] F_table_holds := by
  obtain ⟨fd, D⟩ := Z.c.t.d.def_ 27 (d := d_table_holds)
  exact ⟨_, fd, Z.glo 49, D.kp, binds_kw D (fun _ _ _ _ _ _ us hl => match us, hl with | [_, _, _, _, _], _ => rfl), n_table_holds Z D⟩
theorem n_Crowd___init__ (Z : Zs w h0 K mg) {fd : FuncData} (D : FunD K d_Crowd___init__.name d_Crowd___init__.qual d_Crowd___init__.params d_Crowd___init__.body d_Crowd___init__.scope (d_Crowd___init__.dvs K) (d_Crowd___init__.kws K) (He.fAd K d_Crowd___init__.at_) fd) : FnG P w K mg base 1 (He.fAd K d_Crowd___init__.at_) fd ["self", "house", "room"] F_Crowd___init__ := by
  refine fn_sim (k := 0) D sc_Crowd___init__ fun cd A outer s H E hr C => ?_
  unfold M_Crowd___init__
  exact (sims_cons (sim_setFC Z.ct ce_used_house (sim_var 0) (sim_var 1))
  (sims_cons (sim_setFC Z.ct ce_rooms (sim_var 0) (sim_lst (sima_cons (sim_var 2) sima_nil)))
  (sims_one (sim_setFC Z.ct ce_lines (sim_var 0) (sim_lst sima_nil)))))
theorem g_Crowd___init__ (Z : Zs w h0 K mg) : GCl P w K mg base 1 "Crowd" ["self", "house", "room"] [] F_Crowd___init__ := by
  obtain ⟨fd, D⟩ := Z.c.t.d.def_ 28 (d := d_Crowd___init__)
  exact ⟨_, _, fd, [], [], Z.glo 50, He.mkr_ok (Z.c.t.d.fact 52 (f := .mkr "Crowd")), D.bindsN (fun _ _ _ _ _ _ us hl => match us, hl with | [_, _, _], _ => rfl), .nil, fun _ _ => by simp, n_Crowd___init__ Z D⟩
theorem n_Crowd_undo_step (Z : Zs w h0 K mg) {fd : FuncData} (D : FunD K d_Crowd_undo_step.name d_Crowd_undo_step.qual d_Crowd_undo_step.params d_Crowd_undo_step.body d_Crowd_undo_step.scope (d_Crowd_undo_step.dvs K) (d_Crowd_undo_step.kws K) (He.fAd K d_Crowd_undo_step.at_) fd) : FnG P w K mg base 1 (He.fAd K d_Crowd_undo_step.at_) fd ["self", "standing", "door", "room"] F_Crowd_undo_step := by
  refine fn_sim (k := 0) D sc_Crowd_undo_step fun cd A outer s H E hr C => ?_
  unfold M_Crowd_undo_step
  unfold B_Crowd_undo_step_0
  exact (sims_cons (lcset_go (i := 4) (sl := ([5] ++ ([6] ++ []))) (own := [("at", 5), ("here", 6)]) (fun res h => tidyR h res) (fun S p => p.tidy S) C (simi_enumA (Z.free 2) (sima_cons (sim_fldC Z.ct ce_rooms (sim_var 0)) sima_nil)) (blk_ok (by show blkB N_Crowd_undo_step (defScope s_Crowd_undo_step) _ _ = true; decide +kernel)) (by decide) (fun sh1 H1 Cc1 cl1 fp1 => (simg_tup (by exact C.calm) (simg_cons (simg_name (by exact C.nd) 5) (simg_cons (simg_name (by exact C.nd) 6) simg_nil)))) (fun sh1 H1 Cc1 cl1 fp1 => (simts_one (SimW.t (simw_and (simt_cmp (op_eqD (by exact un64 C.un)) s_eqQ (sim_var 6) (sim_var 3)) (simw_and1 (simt_cmp (r_notIn2 (by exact C.un)) s_notInQ (sim_var 3) (sim_ixQ (by exact C.un) (sim_var 1) sim_int))))))) (fun sh1 H1 Cc1 cl1 fp1 => (sim_var 5)) rfl rfl rfl (by intro _; rfl))
  (sims_cons (sim_ifS (simt_cmp (op_eqD (un64 C.un)) s_eqQ (sim_callB c_len2 b_len2 (Z.free 0) bb_len (sima_cons (sim_var 4) sima_nil)) sim_int) (sims_cons (sim_expr (sim_bmL m_append mt_append PySem.F.plainAttrs_list PySem.F.slot_list_append PySem.F.type_list_append (sim_fldC Z.ct ce_rooms (sim_var 0)) (sima_cons (sim_var 3) sima_nil)))
  (sims_one (sim_set C 4 (sim_lstV (sima_cons (sim_sub (sim_callB c_len2 b_len2 (Z.free 0) bb_len (sima_cons (sim_fldC Z.ct ce_rooms (sim_var 0)) sima_nil)) sim_int) sima_nil))))) sims_nil)
  (sims_cons (sim_set C 7 (sim_ixQ C.un (sim_tidy (sim_lc (sl := [8]) (own := [("spot", 8)]) C (simi_seq (sim_sliceV (sim_ixQ C.un (sim_fldC Z.ct ce_doors (sim_fldC Z.ct ce_used_house (sim_var 0))) (sim_var 2)) simo_none (simo_some sim_int))) (blk_ok (by show blkB N_Crowd_undo_step (defScope s_Crowd_undo_step) _ _ = true; decide +kernel)) (by decide) (fun sh1 H1 Cc1 cl1 fp1 => (simg_name (by exact C.nd) 8)) (fun sh1 H1 Cc1 cl1 fp1 => (simts_one (simt_cmp (op_neD (by exact un64 C.un)) s_neQ (sim_var 8) (sim_var 3)))) (fun sh1 H1 Cc1 cl1 fp1 => (sim_var 8)))) sim_int))
  (sims_one (sim_for (sl := [5]) C (simi_seq (sim_var 4)) (simg_name C.nd 5) (sims_cons (sim_putQ C (sim_fldC Z.ct ce_rooms (sim_var 0)) (sim_var 5) (sim_var 7))
  (sims_one (sim_expr (sim_bmL m_append mt_append PySem.F.plainAttrs_list PySem.F.slot_list_append PySem.F.type_list_append (sim_fldC Z.ct ce_lines (sim_var 0)) (sima_cons (sim_joined (.cons (sim_strC ce_x30) (.cons (sim_fmt (sim_var 5)) (.cons (sim_strC ce_x31) (.cons (sim_fmt (sim_var 2)) .nil))))) sima_nil))))))))))
theorem g_Crowd_undo_step (Z : Zs w h0 K mg) : GMt P w K mg base 1 "Crowd" "undo_step" ["self", "standing", "door", "room"] [] F_Crowd_undo_step := by
  obtain ⟨fd, D⟩ := Z.c.t.d.def_ 29 (d := d_Crowd_undo_step)
  exact ⟨_, _, fd, [], [], Z.glo 50, He.cls_ok (Z.c.t.d.fact 51 (f := .cls "Crowd")), He.meth_ok (Z.c.t.d.fact 53 (f := .meth "Crowd" "undo_step")), D.bindsN (fun _ _ _ _ _ _ us hl => match us, hl with | [_, _, _, _], _ => rfl), .nil, fun _ _ => by simp, n_Crowd_undo_step Z D⟩
theorem n_Search_moves_to (Z : Zs w h0 K mg) {fd : FuncData} (D : FunD K d_Search_moves_to.name d_Search_moves_to.qual d_Search_moves_to.params d_Search_moves_to.body d_Search_moves_to.scope (d_Search_moves_to.dvs K) (d_Search_moves_to.kws K) (He.fAd K d_Search_moves_to.at_) fd) : FnG P w K mg base 1 (He.fAd K d_Search_moves_to.at_) fd ["self", "standing"] F_Search_moves_to := by
  refine FnG.tidy <| fn_sim (k := 0) D sc_Search_moves_to fun cd A outer s H E hr C => ?_
  unfold M_Search_moves_to
  unfold B_Search_moves_to_0
  exact (sims_cons (sim_set C 2 (sim_lst sima_nil))
  (sims_cons (sim_while C (simt_cmp r_isNot s_isNot (sim_ixQ C.un (sim_fldC Z.ct ce_ahead (sim_var 0)) (sim_var 1)) sim_non) (sims_cons (sim_expr (sim_bmL m_append mt_append PySem.F.plainAttrs_list PySem.F.slot_list_append PySem.F.type_list_append (sim_var 2) (sima_cons (sim_ixQ C.un (sim_fldC Z.ct ce_ahead (sim_var 0)) (sim_var 1)) sima_nil)))
  (sims_one (sim_set C 1 (sim_ixQ C.un (sim_ixQ C.un (sim_fldC Z.ct ce_ahead (sim_var 0)) (sim_var 1)) sim_int)))))
  (sims_one (sim_ret (sim_revV (sim_var 2))))))
theorem g_Search_moves_to (Z : Zs w h0 K mg) : GMt P w K mg base 1 "Search" "moves_to" ["self", "standing"] [] F_Search_moves_to := by
  obtain ⟨fd, D⟩ := Z.c.t.d.def_ 30 (d := d_Search_moves_to)
  exact ⟨_, _, fd, [], [], Z.glo 20, He.cls_ok (Z.c.t.d.fact 21 (f := .cls "Search")), He.meth_ok (Z.c.t.d.fact 54 (f := .meth "Search" "moves_to")), D.bindsN (fun _ _ _ _ _ _ us hl => match us, hl with | [_, _], _ => rfl), .nil, fun _ _ => by simp, n_Search_moves_to Z D⟩
theorem n_number_in (Z : Zs w h0 K mg) {fd : FuncData} (D : FunD K d_number_in.name d_number_in.qual d_number_in.params d_number_in.body d_number_in.scope (d_number_in.dvs K) (d_number_in.kws K) (He.fAd K d_number_in.at_) fd) : FnG P w K mg base 1 (He.fAd K d_number_in.at_) fd ["word", "most"] F_number_in := by
  refine FnG.frame <| fn_sim (k := 0) D sc_number_in fun cd A outer s H E hr C => ?_
  unfold M_number_in
  exact (sims_cons (sim_ifS (SimW.t (simw_or (simt_not (simt_chain op_le op_le s_le s_le sim_int (sim_callB c_len2 b_len2 (Z.free 0) bb_len (sima_cons (sim_var 0) sima_nil)) (sim_var 1))) (simw_or1 (simt_not (simt_tru (sim_callB (cr_all C.calm) b_all (Z.free 8) bb_all (sima_cons (sim_tidy (sim_lc (sl := [2]) (own := [("sign", 2)]) C (simi_seq (sim_var 0)) (blk_ok (by show blkB N_number_in (defScope s_number_in) _ _ = true; decide +kernel)) (by decide) (fun sh1 H1 Cc1 cl1 fp1 => (simg_name (by exact C.nd) 2)) (fun sh1 H1 Cc1 cl1 fp1 => simts_nil) (fun sh1 H1 Cc1 cl1 fp1 => (sim_cmp (r_in2 (by exact C.un)) s_inQ (sim_var 2) (sim_glob Z.gc_DIGITS))))) sima_nil))))))) (sims_one (sim_ret sim_non)) sims_nil)
  (sims_one (sim_ret (sim_if (SimW.t (simw_or (simt_cmp (op_eqD (un64 C.un)) s_eqQ (sim_var 0) (sim_strC ce_x32)) (simw_or1 (simt_cmp (op_neD (un64 C.un)) s_neQ (sim_ixQ C.un (sim_var 0) sim_int) (sim_strC ce_x32))))) (sim_callTy c_int b_int (Z.free 3) bb_int (sima_cons (sim_var 0) sima_nil)) sim_non))))
theorem g_number_in (Z : Zs w h0 K mg) : GFn P w K mg base 1 "number_in" ["word", "most"] [] F_number_in := by
  obtain ⟨fd, D⟩ := Z.c.t.d.def_ 31 (d := d_number_in)
  exact ⟨_, fd, [], [], Z.glo 55, D.kp, D.bindsN (fun _ _ _ _ _ _ us hl => match us, hl with | [_, _], _ => rfl), .nil, fun _ _ => by simp, n_number_in Z D⟩
theorem n_event_in (Z : Zs w h0 K mg) {fd : FuncData} (D : FunD K d_event_in.name d_event_in.qual d_event_in.params d_event_in.body d_event_in.scope (d_event_in.dvs K) (d_event_in.kws K) (He.fAd K d_event_in.at_) fd) : FnG P w K mg base 2 (He.fAd K d_event_in.at_) fd ["value", "people"] F_event_in := by
  refine FnG.frame <| fn_sim (k := 1) D sc_event_in fun cd A outer s H E hr C => ?_
  unfold M_event_in
  exact (sims_cons (sim_set C 2 (sim_if (simt_tru (sim_isi .str (Z.free 6) (Z.free 10) bt_str (sim_var 0))) (sim_bmT m_splitV mt_split PySem.F.plainAttrs_str PySem.F.slot_str_split PySem.F.type_str_split (sim_var 0) (sima_cons (sim_strC ce_x31) sima_nil)) (sim_lstV sima_nil)))
  (sims_cons (sim_ifS (simt_cmp (op_eqD (un64 C.un)) s_eqQ (sim_var 2) (sim_lstV (sima_cons (sim_strC ce_tick) sima_nil))) (sims_one (sim_ret (sim_tup (sima_cons (sim_strC ce_tick) sima_nil)))) sims_nil)
  (sims_cons (sim_ifS (simt_cmp (op_neD (un64 C.un)) s_neQ (sim_callB c_len2 b_len2 (Z.free 0) bb_len (sima_cons (sim_var 2) sima_nil)) sim_int) (sims_one (sim_ret sim_non)) sims_nil)
  (sims_cons (sim_par2 C 3 4 (sima_cons (sim_call (g_number_in Z) C (hr.mono (by decide : 1 ≤ 1)) (sima_cons (sim_ixQ C.un (sim_var 2) sim_int) (sima_cons sim_int sima_nil))) (sima_cons (sim_call (g_number_in Z) C (hr.mono (by decide : 1 ≤ 1)) (sima_cons (sim_ixQ C.un (sim_var 2) sim_int) (sima_cons sim_int sima_nil))) sima_nil)))
  (sims_cons (sim_ifS (SimW.t (simw_or (simt_cmp r_is s_is (sim_var 3) sim_non) (simw_or1 (simt_cmp op_ge s_ge (sim_var 3) (sim_var 1))))) (sims_one (sim_ret sim_non)) sims_nil)
  (sims_cons (sim_ifS (SimW.t (simw_and (simt_cmp (op_eqD (un64 C.un)) s_eqQ (sim_ixQ C.un (sim_var 2) sim_int) (sim_strC ce_step)) (simw_and1 (simt_cmp r_isNot s_isNot (sim_var 4) sim_non)))) (sims_one (sim_ret (sim_tup (sima_cons (sim_strC ce_step) (sima_cons (sim_var 3) (sima_cons (sim_var 4) sima_nil)))))) sims_nil)
  (sims_one (sim_ret (sim_if (SimW.t (simw_and (simt_cmp (op_eqD (un64 C.un)) s_eqQ (sim_ixQ C.un (sim_var 2) sim_int) (sim_strC ce_hum)) (simw_and1 (simt_cmp (r_in2 C.un) s_inQ (sim_ixQ C.un (sim_var 2) sim_int) (sim_glob Z.gc_HUMS))))) (sim_tup (sima_cons (sim_strC ce_hum) (sima_cons (sim_var 3) (sima_cons (sim_ixQ C.un (sim_var 2) sim_int) sima_nil)))) sim_non)))))))))
theorem g_event_in (Z : Zs w h0 K mg) : GFn P w K mg base 2 "event_in" ["value", "people"] [] F_event_in := by
  obtain ⟨fd, D⟩ := Z.c.t.d.def_ 32 (d := d_event_in)
  exact ⟨_, fd, [], [], Z.glo 56, D.kp, D.bindsN (fun _ _ _ _ _ _ us hl => match us, hl with | [_, _], _ => rfl), .nil, fun _ _ => by simp, n_event_in Z D⟩
theorem n_events_of (Z : Zs w h0 K mg) {fd : FuncData} (D : FunD K d_events_of.name d_events_of.qual d_events_of.params d_events_of.body d_events_of.scope (d_events_of.dvs K) (d_events_of.kws K) (He.fAd K d_events_of.at_) fd) : FnG P w K mg base 3 (He.fAd K d_events_of.at_) fd ["values", "people"] F_events_of := by
  refine FnG.frame <| fn_sim (k := 2) D sc_events_of fun cd A outer s H E hr C => ?_
  unfold M_events_of
  exact (sims_cons (lcset_go (i := 2) (sl := [3]) (own := [("value", 3)]) (fun res h => tidyR h res) (fun S p => p.tidy S) C (simi_seq (sim_var 0)) (blk_ok (by show blkB N_events_of (defScope s_events_of) _ _ = true; decide +kernel)) (by decide) (fun sh1 H1 Cc1 cl1 fp1 => (simg_name (by exact C.nd) 3)) (fun sh1 H1 Cc1 cl1 fp1 => simts_nil) (fun sh1 H1 Cc1 cl1 fp1 => (sim_call (g_event_in Z) (cok_blk C) (hr.mono (by decide : 2 ≤ 2)) (sima_cons (sim_var 3) (sima_cons (sim_var 1) sima_nil)))) rfl rfl rfl (by intro _; rfl))
  (sims_cons (sim_ifS (simt_cmp (r_in2 C.un) s_inQ sim_non (sim_var 2)) (sims_one sim_never) sims_nil)
  (sims_one (sim_ret (sim_callTy call_tuple_of b_tuple (Z.free 1) bb_tuple (sima_cons (sim_var 2) sima_nil))))))
theorem g_events_of (Z : Zs w h0 K mg) : GFn P w K mg base 3 "events_of" ["values", "people"] [] F_events_of := by
  obtain ⟨fd, D⟩ := Z.c.t.d.def_ 33 (d := d_events_of)
  exact ⟨_, fd, [], [], Z.glo 57, D.kp, D.bindsN (fun _ _ _ _ _ _ us hl => match us, hl with | [_, _], _ => rfl), .nil, fun _ _ => by simp, n_events_of Z D⟩
theorem n_is_sequence (Z : Zs w h0 K mg) {fd : FuncData} (D : FunD K d_is_sequence.name d_is_sequence.qual d_is_sequence.params d_is_sequence.body d_is_sequence.scope (d_is_sequence.dvs K) (d_is_sequence.kws K) (He.fAd K d_is_sequence.at_) fd) : FnG P w K mg base 1 (He.fAd K d_is_sequence.at_) fd ["value"] F_is_sequence := by
  refine fn_sim (k := 0) D sc_is_sequence fun cd A outer s H E hr C => ?_
  unfold M_is_sequence
  exact (sims_one (sim_ret (sim_isi2 .lst .tup (Z.free 6) (Z.free 5) bt_list (Z.free 1) bt_tuple (sim_var 0))))
theorem g_is_sequence (Z : Zs w h0 K mg) : GFn P w K mg base 1 "is_sequence" ["value"] [] F_is_sequence := by
  obtain ⟨fd, D⟩ := Z.c.t.d.def_ 34 (d := d_is_sequence)
  exact ⟨_, fd, [], [], Z.glo 58, D.kp, D.bindsN (fun _ _ _ _ _ _ us hl => match us, hl with | [_], _ => rfl), .nil, fun _ _ => by simp, n_is_sequence Z D⟩
theorem n_is_word (Z : Zs w h0 K mg) {fd : FuncData} (D : FunD K d_is_word.name d_is_word.qual d_is_word.params d_is_word.body d_is_word.scope (d_is_word.dvs K) (d_is_word.kws K) (He.fAd K d_is_word.at_) fd) : FnG P w K mg base 1 (He.fAd K d_is_word.at_) fd ["value", "some"] F_is_word := by
  refine FnG.frame <| fn_sim (k := 0) D sc_is_word fun cd A outer s H E hr C => ?_
  unfold M_is_word
  exact (sims_one (sim_ret (sim_and (sim_isi .str (Z.free 6) (Z.free 10) bt_str (sim_var 0)) (sim_one (sim_cmp (r_in2 C.un) s_inQ (sim_var 0) (sim_var 1))))))
theorem g_is_word (Z : Zs w h0 K mg) : GFn P w K mg base 1 "is_word" ["value", "some"] [] F_is_word := by
  obtain ⟨fd, D⟩ := Z.c.t.d.def_ 35 (d := d_is_word)
  exact ⟨_, fd, [], [], Z.glo 59, D.kp, D.bindsN (fun _ _ _ _ _ _ us hl => match us, hl with | [_, _], _ => rfl), .nil, fun _ _ => by simp, n_is_word Z D⟩
theorem n_Walk___init__ (Z : Zs w h0 K mg) {fd : FuncData} (D : FunD K d_Walk___init__.name d_Walk___init__.qual d_Walk___init__.params d_Walk___init__.body d_Walk___init__.scope (d_Walk___init__.dvs K) (d_Walk___init__.kws K) (He.fAd K d_Walk___init__.at_) fd) : FnG P w K mg base 4 (He.fAd K d_Walk___init__.at_) fd ["self", "guests", "nurses", "first", "events"] F_Walk___init__ := by
  refine fn_sim (k := 3) D sc_Walk___init__ fun cd A outer s H E hr C => ?_
  unfold M_Walk___init__
  exact (sims_cons (sim_ifS (simt_not (simt_tru (sim_call (g_is_number Z) C (hr.mono (by decide : 3 ≤ 3)) (sima_cons (sim_var 1) sima_nil)))) (sims_one sim_never) sims_nil)
  (sims_cons (sim_ifS (simt_not (simt_tru (sim_call (g_is_number Z) C (hr.mono (by decide : 3 ≤ 3)) (sima_cons (sim_var 2) sima_nil)))) (sims_one sim_never) sims_nil)
  (sims_cons (sim_ifS (simt_not (simt_tru (sim_call (g_is_word Z) C (hr.mono (by decide : 1 ≤ 3)) (sima_cons (sim_var 3) (sima_cons (sim_glob Z.gc_FIRSTS) sima_nil))))) (sims_one sim_never) sims_nil)
  (sims_cons (sim_ifS (simt_not (simt_tru (sim_call (g_is_sequence Z) C (hr.mono (by decide : 1 ≤ 3)) (sima_cons (sim_var 4) sima_nil)))) (sims_one sim_never) sims_nil)
  (sims_cons (sim_setFC Z.ct ce_told_events (sim_var 0) (sim_call (g_events_of Z) C (hr.mono (by decide : 3 ≤ 3)) (sima_cons (sim_var 4) (sima_cons (sim_addV (sim_var 1) (sim_var 2)) sima_nil))))
  (sims_cons (sim_setFC Z.ct ce_guests (sim_var 0) (sim_var 1))
  (sims_cons (sim_setFC Z.ct ce_nurses (sim_var 0) (sim_var 2))
  (sims_cons (sim_setFC Z.ct ce_first (sim_var 0) (sim_var 3))
  (sims_one (sim_setFC Z.ct ce_events (sim_var 0) (sim_callTy call_tuple_of b_tuple (Z.free 1) bb_tuple (sima_cons (sim_var 4) sima_nil))))))))))))
theorem g_Walk___init__ (Z : Zs w h0 K mg) : GCl P w K mg base 4 "Walk" ["self", "guests", "nurses", "first", "events"] [] F_Walk___init__ := by
  obtain ⟨fd, D⟩ := Z.c.t.d.def_ 36 (d := d_Walk___init__)
  obtain ⟨ds, hv, hb⟩ := binds_df (ps := ["self", "guests", "nurses", "first", "events"]) D 5 1 (by intro z; cases z) rfl (fun T kV doc pm an cdv ct us its l1 l2 => match us, l1, its, l2 with | [_, _, _, _, _], _, [_], _ => ⟨_, rfl, rfl⟩)
  exact ⟨_, _, fd, _, _, Z.glo 60, He.mkr_ok (Z.c.t.d.fact 62 (f := .mkr "Walk")), hb, hv, fun r H => by show RVs _ _ _ _ _ [] []; simp, n_Walk___init__ Z D⟩
theorem n_way (Z : Zs w h0 K mg) {fd : FuncData} (D : FunD K d_way.name d_way.qual d_way.params d_way.body d_way.scope (d_way.dvs K) (d_way.kws K) (He.fAd K d_way.at_) fd) : FnG P w K mg base 8 (He.fAd K d_way.at_) fd ["house", "sleeper", "first", "room"] F_way := by
  refine FnG.tidy <| fn_sim (k := 7) D sc_way fun cd A outer s H E hr C => ?_
  unfold M_way
  unfold B_way_0
  exact (sims_cons (sim_set C 4 (sim_makeC ce_Search (g_Search___init__ Z) C (hr.mono (by decide : 7 ≤ 7)) (sima_cons (sim_var 0) (sima_cons (sim_var 1) (sima_cons (sim_var 2) sima_nil)))))
  (sims_cons (sim_set C 5 (sim_methC ce_Search ce_with_room (g_Search_with_room Z) C (hr.mono (by decide : 1 ≤ 7)) (sim_var 4) (sima_cons (sim_var 3) sima_nil)))
  (sims_cons (sim_ifS (simt_cmp r_is s_is (sim_var 5) sim_non) (sims_one (sim_ret sim_non)) sims_nil)
  (sims_cons (sim_set C 6 (sim_makeC ce_Crowd (g_Crowd___init__ Z) C (hr.mono (by decide : 2 ≤ 7)) (sima_cons (sim_var 0) (sima_cons (sim_var 3) sima_nil))))
  (sims_cons (sim_for (sl := ([7] ++ ([8] ++ ([9] ++ [])))) C (simi_seq (sim_revV (sim_methC ce_Search ce_moves_to (g_Search_moves_to Z) C (hr.mono (by decide : 1 ≤ 7)) (sim_var 4) (sima_cons (sim_ixQ C.un (sim_var 5) sim_int) sima_nil)))) (simg_tup C.calm (simg_cons (simg_name C.nd 7) (simg_cons (simg_name C.nd 8) (simg_cons (simg_name C.nd 9) simg_nil)))) (sims_one (sim_ifS (simt_cmp r_is s_is (sim_var 8) sim_non) (sims_one (sim_expr (sim_bmL m_append mt_append PySem.F.plainAttrs_list PySem.F.slot_list_append PySem.F.type_list_append (sim_fldC Z.ct ce_lines (sim_var 6)) (sima_cons (sim_strC ce_tick) sima_nil)))) (sims_one (sim_expr (sim_methC ce_Crowd ce_undo_step (g_Crowd_undo_step Z) C (hr.mono (by decide : 1 ≤ 7)) (sim_var 6) (sima_cons (sim_var 7) (sima_cons (sim_var 8) (sima_cons (sim_var 9) sima_nil)))))))))
  (sims_one (sim_ret (sim_tidy (sim_makeC ce_Walk (g_Walk___init__ Z) C (hr.mono (by decide : 5 ≤ 7)) (sima_cons (sim_callB c_len2 b_len2 (Z.free 0) bb_len (sima_cons (sim_fldC Z.ct ce_rooms (sim_var 6)) sima_nil)) (sima_cons sim_int (sima_cons (sim_var 2) (sima_cons (sim_revV (sim_fldC Z.ct ce_lines (sim_var 6))) sima_nil)))))))))))))
theorem g_way (Z : Zs w h0 K mg) : GFn P w K mg base 8 "way" ["house", "sleeper", "first", "room"] [] F_way := by
  obtain ⟨fd, D⟩ := Z.c.t.d.def_ 37 (d := d_way)
  exact ⟨_, fd, [], [], Z.glo 63, D.kp, D.bindsN (fun _ _ _ _ _ _ us hl => match us, hl with | [_, _, _, _], _ => rfl), .nil, fun _ _ => by simp, n_way Z D⟩
theorem gk_way_0 (Z : Zs w h0 K mg) : GKw P w K mg base 8 "way" ["house", "sleeper", "first", "room"] ["room", "first", "sleeper", "house"] [3, 2, 1, 0] F_way := by
  obtain ⟨fd, D⟩ := Z.c.t.d.def_ 37 (d := d_way)
  exact ⟨_, fd, Z.glo 63, D.kp, binds_kw D (fun _ _ _ _ _ _ us hl => match us, hl with | [_, _, _, _], _ => rfl), n_way Z D⟩
theorem n__law_called (Z : Zs w h0 K mg) {fd : FuncData} (D : FunD K d__law_called.name d__law_called.qual d__law_called.params d__law_called.body d__law_called.scope (d__law_called.dvs K) (d__law_called.kws K) (He.fAd K d__law_called.at_) fd) : FnG P w K mg base 10 (He.fAd K d__law_called.at_) fd ["_law_zhome", "_law_zquiet", "_law_zword"] F__law_called := by
  refine FnG.frame <| fn_sim (k := 9) D sc__law_called fun cd A outer s H E hr C => ?_
  unfold M__law_called
  unfold B__law_called_0
  simp only [frS_eq]
  exact (sims_cons (sim_ifS (simt_cmp (op_neD (un64 C.un)) s_neQ (sim_callK (gk_unheard_0 Z) C (hr.mono (by decide : 8 ≤ 9)) (simk_cons (sim_var 2) (simk_cons (sim_var 0) (simk_cons (sim_var 1) simk_nil)))) (sim_call (g_unheard Z) C (hr.mono (by decide : 8 ≤ 9)) (sima_cons (sim_var 0) (sima_cons (sim_var 1) (sima_cons (sim_var 2) sima_nil))))) (sims_one (sim_ret sim_bl)) sims_nil)
  (sims_cons (sim_for (sl := [3]) C (simi_rng1 (Z.free 12) (sima_cons (sim_fldC Z.ct ce_rooms (sim_var 0)) sima_nil)) (simg_name C.nd 3) (sims_cons (sim_set C 4 (sim_call (g_fewest Z) C (hr.mono (by decide : 8 ≤ 9)) (sima_cons (sim_var 0) (sima_cons (sim_var 1) (sima_cons (sim_var 2) (sima_cons (sim_var 3) sima_nil))))))
  (sims_cons (sim_ifS (simt_cmp (op_neD (un64 C.un)) s_neQ (sim_callK (gk_fewest_0 Z) C (hr.mono (by decide : 8 ≤ 9)) (simk_cons (sim_var 3) (simk_cons (sim_var 2) (simk_cons (sim_var 1) (simk_cons (sim_var 0) simk_nil))))) (sim_var 4)) (sims_one (sim_ret sim_bl)) sims_nil)
  (sims_cons (sim_ifS (simt_cmp (op_neD (un64 C.un)) s_neQ (sim_cmp r_is s_is (sim_callK (gk_way_0 Z) C (hr.mono (by decide : 8 ≤ 9)) (simk_cons (sim_var 3) (simk_cons (sim_var 2) (simk_cons (sim_var 1) (simk_cons (sim_var 0) simk_nil))))) sim_non) (sim_cmp r_is s_is (sim_var 4) sim_non)) (sims_one (sim_ret sim_bl)) sims_nil)
  (sims_cons (sim_set C 5 (sim_callK (gk_table_0 Z) C (hr.mono (by decide : 9 ≤ 9)) (simk_cons (sim_var 3) (simk_cons (sim_var 2) (simk_cons (sim_var 1) (simk_cons (sim_var 0) simk_nil))))))
  (sims_one (sim_ifS (simt_cmp (op_neD (un64 C.un)) s_neQ (sim_callK (gk_table_holds_0 Z) C (hr.mono (by decide : 6 ≤ 9)) (simk_cons (sim_var 5) (simk_cons (sim_var 3) (simk_cons (sim_var 2) (simk_cons (sim_var 0) (simk_cons (sim_var 1) simk_nil)))))) (sim_cmp r_is s_is (sim_var 4) sim_non)) (sims_one (sim_ret sim_bl)) sims_nil)))))))
  (sims_one (sim_ret sim_bl))))
theorem g__law_called (Z : Zs w h0 K mg) : GFn P w K mg base 10 "_law_called" ["_law_zhome", "_law_zquiet", "_law_zword"] [] F__law_called := by
  obtain ⟨fd, D⟩ := Z.c.t.d.def_ 38 (d := d__law_called)
  exact ⟨_, fd, [], [], Z.glo 64, D.kp, D.bindsN (fun _ _ _ _ _ _ us hl => match us, hl with | [_, _, _], _ => rfl), .nil, fun _ _ => by simp, n__law_called Z D⟩
theorem n_are_unlike (Z : Zs w h0 K mg) {fd : FuncData} (D : FunD K d_are_unlike.name d_are_unlike.qual d_are_unlike.params d_are_unlike.body d_are_unlike.scope (d_are_unlike.dvs K) (d_are_unlike.kws K) (He.fAd K d_are_unlike.at_) fd) : FnG P w K mg base 1 (He.fAd K d_are_unlike.at_) fd ["values"] F_are_unlike := by
  refine FnG.frame <| FnG.tidy <| fn_sim (k := 0) D sc_are_unlike fun cd A outer s H E hr C => ?_
  unfold M_are_unlike
  exact (sims_one (sim_ret (sim_cmp (op_eqD (un64 C.un)) s_eqQ (sim_callB c_len2 b_len2 (Z.free 0) bb_len (sima_cons (sim_dcQ (sl := [1]) (own := [("value", 1)]) C (simi_seq (sim_var 0)) (blk_ok (by show blkB N_are_unlike (defScope s_are_unlike) _ _ = true; decide +kernel)) (by decide) (fun sh1 H1 Cc1 cl1 fp1 => (simg_name (by exact C.nd) 1)) (fun sh1 H1 Cc1 cl1 fp1 => simts_nil) (fun sh1 H1 Cc1 cl1 fp1 => (sim_var 1)) (fun sh1 H1 Cc1 cl1 fp1 => sim_bl)) sima_nil)) (sim_callB c_len2 b_len2 (Z.free 0) bb_len (sima_cons (sim_var 0) sima_nil)))))
theorem g_are_unlike (Z : Zs w h0 K mg) : GFn P w K mg base 1 "are_unlike" ["values"] [] F_are_unlike := by
  obtain ⟨fd, D⟩ := Z.c.t.d.def_ 39 (d := d_are_unlike)
  exact ⟨_, fd, [], [], Z.glo 65, D.kp, D.bindsN (fun _ _ _ _ _ _ us hl => match us, hl with | [_], _ => rfl), .nil, fun _ _ => by simp, n_are_unlike Z D⟩
theorem n_is_name (Z : Zs w h0 K mg) {fd : FuncData} (D : FunD K d_is_name.name d_is_name.qual d_is_name.params d_is_name.body d_is_name.scope (d_is_name.dvs K) (d_is_name.kws K) (He.fAd K d_is_name.at_) fd) : FnG P w K mg base 1 (He.fAd K d_is_name.at_) fd ["value"] F_is_name := by
  refine FnG.frame <| fn_sim (k := 0) D sc_is_name fun cd A outer s H E hr C => ?_
  unfold M_is_name
  exact (sims_one (sim_ret (sim_and (sim_isi .str (Z.free 6) (Z.free 10) bt_str (sim_var 0)) (sim_and (sim_chain op_le op_le s_le s_le sim_int (sim_callB c_len2 b_len2 (Z.free 0) bb_len (sima_cons (sim_var 0) sima_nil)) sim_int) (sim_one (sim_callB (cr_all C.calm) b_all (Z.free 8) bb_all (sima_cons (sim_tidy (sim_lc (sl := [1]) (own := [("sign", 1)]) C (simi_seq (sim_var 0)) (blk_ok (by show blkB N_is_name (defScope s_is_name) _ _ = true; decide +kernel)) (by decide) (fun sh1 H1 Cc1 cl1 fp1 => (simg_name (by exact C.nd) 1)) (fun sh1 H1 Cc1 cl1 fp1 => simts_nil) (fun sh1 H1 Cc1 cl1 fp1 => (sim_cmp (r_in2 (by exact C.un)) s_inQ (sim_var 1) (sim_glob Z.gc_LETTERS))))) sima_nil)))))))
theorem g_is_name (Z : Zs w h0 K mg) : GFn P w K mg base 1 "is_name" ["value"] [] F_is_name := by
  obtain ⟨fd, D⟩ := Z.c.t.d.def_ 40 (d := d_is_name)
  exact ⟨_, fd, [], [], Z.glo 66, D.kp, D.bindsN (fun _ _ _ _ _ _ us hl => match us, hl with | [_], _ => rfl), .nil, fun _ _ => by simp, n_is_name Z D⟩
theorem n_is_room (Z : Zs w h0 K mg) {fd : FuncData} (D : FunD K d_is_room.name d_is_room.qual d_is_room.params d_is_room.body d_is_room.scope (d_is_room.dvs K) (d_is_room.kws K) (He.fAd K d_is_room.at_) fd) : FnG P w K mg base 2 (He.fAd K d_is_room.at_) fd ["value", "rooms"] F_is_room := by
  refine FnG.frame <| fn_sim (k := 1) D sc_is_room fun cd A outer s H E hr C => ?_
  unfold M_is_room
  exact (sims_one (sim_ret (sim_and (sim_call (g_is_integer Z) C (hr.mono (by decide : 1 ≤ 1)) (sima_cons (sim_var 0) sima_nil)) (sim_one (sim_chain op_le op_lt s_le s_lt sim_int (sim_var 0) (sim_var 1))))))
theorem g_is_room (Z : Zs w h0 K mg) : GFn P w K mg base 2 "is_room" ["value", "rooms"] [] F_is_room := by
  obtain ⟨fd, D⟩ := Z.c.t.d.def_ 41 (d := d_is_room)
  exact ⟨_, fd, [], [], Z.glo 67, D.kp, D.bindsN (fun _ _ _ _ _ _ us hl => match us, hl with | [_, _], _ => rfl), .nil, fun _ _ => by simp, n_is_room Z D⟩
theorem n_is_door (Z : Zs w h0 K mg) {fd : FuncData} (D : FunD K d_is_door.name d_is_door.qual d_is_door.params d_is_door.body d_is_door.scope (d_is_door.dvs K) (d_is_door.kws K) (He.fAd K d_is_door.at_) fd) : FnG P w K mg base 3 (He.fAd K d_is_door.at_) fd ["value", "rooms"] F_is_door := by
  refine FnG.frame <| fn_sim (k := 2) D sc_is_door fun cd A outer s H E hr C => ?_
  unfold M_is_door
  exact (sims_cons (sim_ifS (SimW.t (simw_or (simt_not (simt_tru (sim_isi .tup (Z.free 6) (Z.free 1) bt_tuple (sim_var 0)))) (simw_or1 (simt_cmp (op_neD (un64 C.un)) s_neQ (sim_callB c_len2 b_len2 (Z.free 0) bb_len (sima_cons (sim_var 0) sima_nil)) sim_int)))) (sims_one (sim_ret sim_bl)) sims_nil)
  (sims_cons (sim_asg (sl := ([2] ++ ([3] ++ ([4] ++ [])))) (sim_var 0) (simg_tup C.calm (simg_cons (simg_name C.nd 2) (simg_cons (simg_name C.nd 3) (simg_cons (simg_name C.nd 4) simg_nil)))))
  (sims_cons (sim_ifS (SimW.t (simw_or (simt_not (simt_tru (sim_call (g_is_room Z) C (hr.mono (by decide : 2 ≤ 2)) (sima_cons (sim_var 2) (sima_cons (sim_var 1) sima_nil))))) (simw_or (simt_not (simt_tru (sim_call (g_is_room Z) C (hr.mono (by decide : 2 ≤ 2)) (sima_cons (sim_var 3) (sima_cons (sim_var 1) sima_nil))))) (simw_or1 (simt_cmp (op_eqD (un64 C.un)) s_eqQ (sim_var 2) (sim_var 3)))))) (sims_one (sim_ret sim_bl)) sims_nil)
  (sims_one (sim_ret (sim_or (sim_cmp r_is s_is (sim_var 4) sim_non) (sim_one (sim_call (g_is_name Z) C (hr.mono (by decide : 1 ≤ 2)) (sima_cons (sim_var 4) sima_nil)))))))))
theorem g_is_door (Z : Zs w h0 K mg) : GFn P w K mg base 3 "is_door" ["value", "rooms"] [] F_is_door := by
  obtain ⟨fd, D⟩ := Z.c.t.d.def_ 42 (d := d_is_door)
  exact ⟨_, fd, [], [], Z.glo 68, D.kp, D.bindsN (fun _ _ _ _ _ _ us hl => match us, hl with | [_, _], _ => rfl), .nil, fun _ _ => by simp, n_is_door Z D⟩
theorem n_is_floor (Z : Zs w h0 K mg) {fd : FuncData} (D : FunD K d_is_floor.name d_is_floor.qual d_is_floor.params d_is_floor.body d_is_floor.scope (d_is_floor.dvs K) (d_is_floor.kws K) (He.fAd K d_is_floor.at_) fd) : FnG P w K mg base 3 (He.fAd K d_is_floor.at_) fd ["value", "rooms"] F_is_floor := by
  refine FnG.frame <| fn_sim (k := 2) D sc_is_floor fun cd A outer s H E hr C => ?_
  unfold M_is_floor
  exact (sims_one (sim_ret (sim_and (sim_isi .tup (Z.free 6) (Z.free 1) bt_tuple (sim_var 0)) (sim_and (sim_cmp (op_eqD (un64 C.un)) s_eqQ (sim_callB c_len2 b_len2 (Z.free 0) bb_len (sima_cons (sim_var 0) sima_nil)) sim_int) (sim_and (sim_call (g_is_room Z) C (hr.mono (by decide : 2 ≤ 2)) (sima_cons (sim_ixQ C.un (sim_var 0) sim_int) (sima_cons (sim_var 1) sima_nil))) (sim_one (sim_call (g_is_name Z) C (hr.mono (by decide : 1 ≤ 2)) (sima_cons (sim_ixQ C.un (sim_var 0) sim_int) sima_nil))))))))
theorem g_is_floor (Z : Zs w h0 K mg) : GFn P w K mg base 3 "is_floor" ["value", "rooms"] [] F_is_floor := by
  obtain ⟨fd, D⟩ := Z.c.t.d.def_ 43 (d := d_is_floor)
  exact ⟨_, fd, [], [], Z.glo 69, D.kp, D.bindsN (fun _ _ _ _ _ _ us hl => match us, hl with | [_, _], _ => rfl), .nil, fun _ _ => by simp, n_is_floor Z D⟩
theorem n_wrong_in_houses (Z : Zs w h0 K mg) {fd : FuncData} (D : FunD K d_wrong_in_houses.name d_wrong_in_houses.qual d_wrong_in_houses.params d_wrong_in_houses.body d_wrong_in_houses.scope (d_wrong_in_houses.dvs K) (d_wrong_in_houses.kws K) (He.fAd K d_wrong_in_houses.at_) fd) : FnG P w K mg base 4 (He.fAd K d_wrong_in_houses.at_) fd ["rooms", "doors", "floors", "cradles"] F_wrong_in_houses := by
  refine FnG.frame <| fn_sim (k := 3) D sc_wrong_in_houses fun cd A outer s H E hr C => ?_
  unfold M_wrong_in_houses
  exact (sims_cons (sim_ifS (simt_not (simt_tru (sim_call (g_is_from Z) C (hr.mono (by decide : 2 ≤ 3)) (sima_cons (sim_var 0) (sima_cons sim_int sima_nil))))) (sims_one (sim_ret (sim_strC ce_rooms))) sims_nil)
  (sims_cons (sim_ifS (SimW.t (simw_or (simt_not (simt_tru (sim_call (g_is_sequence Z) C (hr.mono (by decide : 1 ≤ 3)) (sima_cons (sim_var 1) sima_nil)))) (simw_or1 (simt_not (simt_tru (sim_callB (cr_all C.calm) b_all (Z.free 8) bb_all (sima_cons (sim_tidy (sim_lc (sl := [4]) (own := [("door", 4)]) C (simi_seq (sim_var 1)) (blk_ok (by show blkB N_wrong_in_houses (defScope s_wrong_in_houses) _ _ = true; decide +kernel)) (by decide) (fun sh1 H1 Cc1 cl1 fp1 => (simg_name (by exact C.nd) 4)) (fun sh1 H1 Cc1 cl1 fp1 => simts_nil) (fun sh1 H1 Cc1 cl1 fp1 => (sim_call (g_is_door Z) (cok_blk C) (hr.mono (by decide : 3 ≤ 3)) (sima_cons (sim_var 4) (sima_cons (sim_var 0) sima_nil)))))) sima_nil))))))) (sims_one (sim_ret (sim_strC ce_doors))) sims_nil)
  (sims_cons (sim_ifS (SimW.t (simw_or (simt_not (simt_tru (sim_call (g_is_sequence Z) C (hr.mono (by decide : 1 ≤ 3)) (sima_cons (sim_var 2) sima_nil)))) (simw_or1 (simt_not (simt_tru (sim_callB (cr_all C.calm) b_all (Z.free 8) bb_all (sima_cons (sim_tidy (sim_lc (sl := [5]) (own := [("floor", 5)]) C (simi_seq (sim_var 2)) (blk_ok (by show blkB N_wrong_in_houses (defScope s_wrong_in_houses) _ _ = true; decide +kernel)) (by decide) (fun sh1 H1 Cc1 cl1 fp1 => (simg_name (by exact C.nd) 5)) (fun sh1 H1 Cc1 cl1 fp1 => simts_nil) (fun sh1 H1 Cc1 cl1 fp1 => (sim_call (g_is_floor Z) (cok_blk C) (hr.mono (by decide : 3 ≤ 3)) (sima_cons (sim_var 5) (sima_cons (sim_var 0) sima_nil)))))) sima_nil))))))) (sims_one (sim_ret (sim_strC ce_floors))) sims_nil)
  (sims_cons (sim_ifS (simt_not (simt_tru (sim_call (g_are_unlike Z) C (hr.mono (by decide : 1 ≤ 3)) (sima_cons (sim_tidy (sim_lc (sl := ([6] ++ ([7] ++ []))) (own := [("room", 6), ("noise", 7)]) C (simi_seq (sim_var 2)) (blk_ok (by show blkB N_wrong_in_houses (defScope s_wrong_in_houses) _ _ = true; decide +kernel)) (by decide) (fun sh1 H1 Cc1 cl1 fp1 => (simg_tup (by exact C.calm) (simg_cons (simg_name (by exact C.nd) 6) (simg_cons (simg_name (by exact C.nd) 7) simg_nil)))) (fun sh1 H1 Cc1 cl1 fp1 => simts_nil) (fun sh1 H1 Cc1 cl1 fp1 => (sim_var 6)))) sima_nil)))) (sims_one (sim_ret (sim_strC ce_floors))) sims_nil)
  (sims_cons (sim_ifS (SimW.t (simw_or (simt_not (simt_tru (sim_call (g_is_sequence Z) C (hr.mono (by decide : 1 ≤ 3)) (sima_cons (sim_var 3) sima_nil)))) (simw_or1 (simt_not (simt_tru (sim_callB (cr_all C.calm) b_all (Z.free 8) bb_all (sima_cons (sim_tidy (sim_lc (sl := [6]) (own := [("room", 6)]) C (simi_seq (sim_var 3)) (blk_ok (by show blkB N_wrong_in_houses (defScope s_wrong_in_houses) _ _ = true; decide +kernel)) (by decide) (fun sh1 H1 Cc1 cl1 fp1 => (simg_name (by exact C.nd) 6)) (fun sh1 H1 Cc1 cl1 fp1 => simts_nil) (fun sh1 H1 Cc1 cl1 fp1 => (sim_call (g_is_room Z) (cok_blk C) (hr.mono (by decide : 2 ≤ 3)) (sima_cons (sim_var 6) (sima_cons (sim_var 0) sima_nil)))))) sima_nil))))))) (sims_one (sim_ret (sim_strC ce_cradles))) sims_nil)
  (sims_one (sim_ret (sim_if (simt_tru (sim_call (g_are_unlike Z) C (hr.mono (by decide : 1 ≤ 3)) (sima_cons (sim_var 3) sima_nil))) sim_non (sim_strC ce_cradles)))))))))
theorem g_wrong_in_houses (Z : Zs w h0 K mg) : GFn P w K mg base 4 "wrong_in_houses" ["rooms", "doors", "floors", "cradles"] [] F_wrong_in_houses := by
  obtain ⟨fd, D⟩ := Z.c.t.d.def_ 44 (d := d_wrong_in_houses)
  exact ⟨_, fd, [], [], Z.glo 70, D.kp, D.bindsN (fun _ _ _ _ _ _ us hl => match us, hl with | [_, _, _, _], _ => rfl), .nil, fun _ _ => by simp, n_wrong_in_houses Z D⟩
theorem n_House___init__ (Z : Zs w h0 K mg) {fd : FuncData} (D : FunD K d_House___init__.name d_House___init__.qual d_House___init__.params d_House___init__.body d_House___init__.scope (d_House___init__.dvs K) (d_House___init__.kws K) (He.fAd K d_House___init__.at_) fd) : FnG P w K mg base 5 (He.fAd K d_House___init__.at_) fd ["self", "rooms", "doors", "floors", "cradles"] F_House___init__ := by
  refine fn_sim (k := 4) D sc_House___init__ fun cd A outer s H E hr C => ?_
  unfold M_House___init__
  exact (sims_cons (sim_set C 5 (sim_call (g_wrong_in_houses Z) C (hr.mono (by decide : 4 ≤ 4)) (sima_cons (sim_var 1) (sima_cons (sim_var 2) (sima_cons (sim_var 3) (sima_cons (sim_var 4) sima_nil))))))
  (sims_cons (sim_ifS (simt_cmp r_isNot s_isNot (sim_var 5) sim_non) (sims_one sim_never) sims_nil)
  (sims_cons (sim_setFC Z.ct ce_rooms (sim_var 0) (sim_var 1))
  (sims_cons (sim_setFC Z.ct ce_doors (sim_var 0) (sim_callTy call_tuple_of b_tuple (Z.free 1) bb_tuple (sima_cons (sim_var 2) sima_nil)))
  (sims_cons (sim_setFC Z.ct ce_floors (sim_var 0) (sim_callTy call_tuple_of b_tuple (Z.free 1) bb_tuple (sima_cons (sim_callB (cr_sortA C.un) b_sortedV (Z.free 4) bb_sorted (sima_cons (sim_var 3) sima_nil)) sima_nil)))
  (sims_one (sim_setFC Z.ct ce_cradles (sim_var 0) (sim_callTy call_tuple_of b_tuple (Z.free 1) bb_tuple (sima_cons (sim_callB (cr_sortA C.un) b_sortedV (Z.free 4) bb_sorted (sima_cons (sim_tidy (sim_lc (sl := [6]) (own := [("room", 6)]) C (simi_seq (sim_var 4)) (blk_ok (by show blkB N_House___init__ (defScope s_House___init__) _ _ = true; decide +kernel)) (by decide) (fun sh1 H1 Cc1 cl1 fp1 => (simg_name (by exact C.nd) 6)) (fun sh1 H1 Cc1 cl1 fp1 => simts_nil) (fun sh1 H1 Cc1 cl1 fp1 => (sim_callTy c_int b_int (Z.free 3) bb_int (sima_cons (sim_var 6) sima_nil))))) sima_nil)) sima_nil)))))))))
theorem g_House___init__ (Z : Zs w h0 K mg) : GCl P w K mg base 5 "House" ["self", "rooms", "doors", "floors", "cradles"] [] F_House___init__ := by
  obtain ⟨fd, D⟩ := Z.c.t.d.def_ 45 (d := d_House___init__)
  obtain ⟨ds, hv, hb⟩ := binds_df (ps := ["self", "rooms", "doors", "floors", "cradles"]) D 5 2 (by intro z; cases z) rfl (fun T kV doc pm an cdv ct us its l1 l2 => match us, l1, its, l2 with | [_, _, _, _, _], _, [_, _], _ => ⟨_, rfl, rfl⟩)
  exact ⟨_, _, fd, _, _, Z.glo 29, He.mkr_ok (Z.c.t.d.fact 71 (f := .mkr "House")), hb, hv, fun r H => by show RVs _ _ _ _ _ [] []; simp, n_House___init__ Z D⟩
theorem n_is_sorted_name (Z : Zs w h0 K mg) {fd : FuncData} (D : FunD K d_is_sorted_name.name d_is_sorted_name.qual d_is_sorted_name.params d_is_sorted_name.body d_is_sorted_name.scope (d_is_sorted_name.dvs K) (d_is_sorted_name.kws K) (He.fAd K d_is_sorted_name.at_) fd) : FnG P w K mg base 2 (He.fAd K d_is_sorted_name.at_) fd ["value"] F_is_sorted_name := by
  refine FnG.frame <| fn_sim (k := 1) D sc_is_sorted_name fun cd A outer s H E hr C => ?_
  unfold M_is_sorted_name
  exact (sims_one (sim_ret (sim_and (sim_isi .tup (Z.free 6) (Z.free 1) bt_tuple (sim_var 0)) (sim_and (sim_cmp (op_eqD (un64 C.un)) s_eqQ (sim_callB c_len2 b_len2 (Z.free 0) bb_len (sima_cons (sim_var 0) sima_nil)) sim_int) (sim_and (sim_call (g_is_name Z) C (hr.mono (by decide : 1 ≤ 1)) (sima_cons (sim_ixQ C.un (sim_var 0) sim_int) sima_nil)) (sim_one (sim_call (g_is_word Z) C (hr.mono (by decide : 1 ≤ 1)) (sima_cons (sim_ixQ C.un (sim_var 0) sim_int) (sima_cons (sim_glob Z.gc_SORTS) sima_nil)))))))))
theorem g_is_sorted_name (Z : Zs w h0 K mg) : GFn P w K mg base 2 "is_sorted_name" ["value"] [] F_is_sorted_name := by
  obtain ⟨fd, D⟩ := Z.c.t.d.def_ 46 (d := d_is_sorted_name)
  exact ⟨_, fd, [], [], Z.glo 72, D.kp, D.bindsN (fun _ _ _ _ _ _ us hl => match us, hl with | [_], _ => rfl), .nil, fun _ _ => by simp, n_is_sorted_name Z D⟩
theorem n_wrong_in_sleepers (Z : Zs w h0 K mg) {fd : FuncData} (D : FunD K d_wrong_in_sleepers.name d_wrong_in_sleepers.qual d_wrong_in_sleepers.params d_wrong_in_sleepers.body d_wrong_in_sleepers.scope (d_wrong_in_sleepers.dvs K) (d_wrong_in_sleepers.kws K) (He.fAd K d_wrong_in_sleepers.at_) fd) : FnG P w K mg base 3 (He.fAd K d_wrong_in_sleepers.at_) fd ["sorts", "stir", "doze", "near", "loud"] F_wrong_in_sleepers := by
  refine FnG.frame <| fn_sim (k := 2) D sc_wrong_in_sleepers fun cd A outer s H E hr C => ?_
  unfold M_wrong_in_sleepers
  exact (sims_cons (sim_ifS (SimW.t (simw_or (simt_not (simt_tru (sim_call (g_is_sequence Z) C (hr.mono (by decide : 1 ≤ 2)) (sima_cons (sim_var 0) sima_nil)))) (simw_or1 (simt_not (simt_tru (sim_callB (cr_all C.calm) b_all (Z.free 8) bb_all (sima_cons (sim_tidy (sim_lc (sl := [5]) (own := [("one", 5)]) C (simi_seq (sim_var 0)) (blk_ok (by show blkB N_wrong_in_sleepers (defScope s_wrong_in_sleepers) _ _ = true; decide +kernel)) (by decide) (fun sh1 H1 Cc1 cl1 fp1 => (simg_name (by exact C.nd) 5)) (fun sh1 H1 Cc1 cl1 fp1 => simts_nil) (fun sh1 H1 Cc1 cl1 fp1 => (sim_call (g_is_sorted_name Z) (cok_blk C) (hr.mono (by decide : 2 ≤ 2)) (sima_cons (sim_var 5) sima_nil))))) sima_nil))))))) (sims_one (sim_ret (sim_strC ce_sorts))) sims_nil)
  (sims_cons (sim_ifS (simt_not (simt_tru (sim_call (g_are_unlike Z) C (hr.mono (by decide : 1 ≤ 2)) (sima_cons (sim_tidy (sim_lc (sl := ([6] ++ ([7] ++ []))) (own := [("name", 6), ("sort", 7)]) C (simi_seq (sim_var 0)) (blk_ok (by show blkB N_wrong_in_sleepers (defScope s_wrong_in_sleepers) _ _ = true; decide +kernel)) (by decide) (fun sh1 H1 Cc1 cl1 fp1 => (simg_tup (by exact C.calm) (simg_cons (simg_name (by exact C.nd) 6) (simg_cons (simg_name (by exact C.nd) 7) simg_nil)))) (fun sh1 H1 Cc1 cl1 fp1 => simts_nil) (fun sh1 H1 Cc1 cl1 fp1 => (sim_var 6)))) sima_nil)))) (sims_one (sim_ret (sim_strC ce_sorts))) sims_nil)
  (sims_cons (sim_ifS (simt_not (simt_tru (sim_call (g_is_from Z) C (hr.mono (by decide : 2 ≤ 2)) (sima_cons (sim_var 1) (sima_cons sim_int sima_nil))))) (sims_one (sim_ret (sim_strC ce_stir))) sims_nil)
  (sims_cons (sim_ifS (simt_not (simt_tru (sim_call (g_is_from Z) C (hr.mono (by decide : 2 ≤ 2)) (sima_cons (sim_var 2) (sima_cons sim_int sima_nil))))) (sims_one (sim_ret (sim_strC ce_doze))) sims_nil)
  (sims_cons (sim_ifS (simt_not (simt_tru (sim_call (g_is_from Z) C (hr.mono (by decide : 2 ≤ 2)) (sima_cons (sim_var 3) (sima_cons sim_int sima_nil))))) (sims_one (sim_ret (sim_strC ce_near))) sims_nil)
  (sims_one (sim_ret (sim_if (simt_tru (sim_call (g_is_word Z) C (hr.mono (by decide : 1 ≤ 2)) (sima_cons (sim_var 4) (sima_cons (sim_glob Z.gc_AT_LOUD) sima_nil)))) sim_non (sim_strC ce_loud)))))))))
theorem g_wrong_in_sleepers (Z : Zs w h0 K mg) : GFn P w K mg base 3 "wrong_in_sleepers" ["sorts", "stir", "doze", "near", "loud"] [] F_wrong_in_sleepers := by
  obtain ⟨fd, D⟩ := Z.c.t.d.def_ 47 (d := d_wrong_in_sleepers)
  exact ⟨_, fd, [], [], Z.glo 73, D.kp, D.bindsN (fun _ _ _ _ _ _ us hl => match us, hl with | [_, _, _, _, _], _ => rfl), .nil, fun _ _ => by simp, n_wrong_in_sleepers Z D⟩
theorem n_Sleeper___init__ (Z : Zs w h0 K mg) {fd : FuncData} (D : FunD K d_Sleeper___init__.name d_Sleeper___init__.qual d_Sleeper___init__.params d_Sleeper___init__.body d_Sleeper___init__.scope (d_Sleeper___init__.dvs K) (d_Sleeper___init__.kws K) (He.fAd K d_Sleeper___init__.at_) fd) : FnG P w K mg base 4 (He.fAd K d_Sleeper___init__.at_) fd ["self", "sorts", "stir", "doze", "near", "loud"] F_Sleeper___init__ := by
  refine fn_sim (k := 3) D sc_Sleeper___init__ fun cd A outer s H E hr C => ?_
  unfold M_Sleeper___init__
  exact (sims_cons (sim_set C 6 (sim_call (g_wrong_in_sleepers Z) C (hr.mono (by decide : 3 ≤ 3)) (sima_cons (sim_var 1) (sima_cons (sim_var 2) (sima_cons (sim_var 3) (sima_cons (sim_var 4) (sima_cons (sim_var 5) sima_nil)))))))
  (sims_cons (sim_ifS (simt_cmp r_isNot s_isNot (sim_var 6) sim_non) (sims_one sim_never) sims_nil)
  (sims_cons (sim_setFC Z.ct ce_sorts (sim_var 0) (sim_callTy call_tuple_of b_tuple (Z.free 1) bb_tuple (sima_cons (sim_callB (cr_sortA C.un) b_sortedV (Z.free 4) bb_sorted (sima_cons (sim_var 1) sima_nil)) sima_nil)))
  (sims_cons (sim_setFC Z.ct ce_stir (sim_var 0) (sim_var 2))
  (sims_cons (sim_setFC Z.ct ce_doze (sim_var 0) (sim_var 3))
  (sims_cons (sim_setFC Z.ct ce_near (sim_var 0) (sim_var 4))
  (sims_one (sim_setFC Z.ct ce_loud (sim_var 0) (sim_var 5)))))))))
theorem g_Sleeper___init__ (Z : Zs w h0 K mg) : GCl P w K mg base 4 "Sleeper" ["self", "sorts", "stir", "doze", "near", "loud"] [] F_Sleeper___init__ := by
  obtain ⟨fd, D⟩ := Z.c.t.d.def_ 48 (d := d_Sleeper___init__)
  exact ⟨_, _, fd, [], [], Z.glo 24, He.mkr_ok (Z.c.t.d.fact 74 (f := .mkr "Sleeper")), D.bindsN (fun _ _ _ _ _ _ us hl => match us, hl with | [_, _, _, _, _, _], _ => rfl), .nil, fun _ _ => by simp, n_Sleeper___init__ Z D⟩
theorem g_law (Z : Zs w h0 K mg) {fd : FuncData} (D : FunD K d_law.name d_law.qual d_law.params d_law.body d_law.scope (d_law.dvs K) (d_law.kws K) (He.fAd K d_law.at_) fd) : FnG P w K mg base 11 (He.fAd K d_law.at_) fd ["_law_script"] F_law := by
  refine fn_sim (k := 10) D sc_law fun cd A outer s H E hr C => ?_
  unfold M_law
  unfold B_law_2
  unfold B_law_1
  unfold B_law_0
  simp only [frS_eq]
  exact (sims_cons (sim_for (sl := [1]) C (simi_rng1 (Z.free 12) (sima_cons (sim_callB (call_max2 C.calm) b_max2 (Z.free 14) bb_max (sima_cons sim_int (sima_cons (sim_callB (call_min2 C.calm) b_min2 (Z.free 13) bb_min (sima_cons sim_int (sima_cons (sim_callB c_len2 b_len2 (Z.free 0) bb_len (sima_cons (sim_var 0) sima_nil)) sima_nil))) sima_nil))) sima_nil)) (simg_name C.nd 1) (sims_cons (sim_set C 2 (sim_if (simt_cmp (op_neD (un64 C.un)) s_neQ (sim_var 0) (sim_lstV sima_nil)) (sim_addV sim_int (sim_callTy c_int b_int (Z.free 3) bb_int (sima_cons (sim_mod (sim_callB call_abs b_abs (Z.free 15) bb_abs (sima_cons (sim_ixQ C.un (sim_var 0) (sim_var 1)) sima_nil)) sim_int) sima_nil))) sim_int))
  (sims_cons (sim_set C 3 (sim_tidy (sim_makeC ce_House (g_House___init__ Z) C (hr.mono (by decide : 6 ≤ 10)) (sima_cons sim_int (sima_cons (sim_lstV (sima_cons (sim_tup (sima_cons sim_int (sima_cons sim_int (sima_cons (sim_strC ce_gate) sima_nil)))) (sima_cons (sim_tup (sima_cons sim_int (sima_cons sim_int (sima_cons sim_non sima_nil)))) sima_nil))) (sima_cons (sim_lstV (sima_cons (sim_tup (sima_cons sim_int (sima_cons (sim_strC ce_plnk) sima_nil))) sima_nil)) (sima_cons (sim_lstV (sima_cons sim_int sima_nil)) sima_nil)))))))
  (sims_one (sim_for (sl := [4]) C (simi_seq (sim_tup (sima_cons (sim_lstV (sima_cons (sim_tup (sima_cons (sim_strC ce_gate) (sima_cons (sim_strC ce_soft) sima_nil))) (sima_cons (sim_tup (sima_cons (sim_strC ce_plnk) (sima_cons (sim_strC ce_sudden) sima_nil))) sima_nil))) (sima_cons (sim_lstV (sima_cons (sim_tup (sima_cons (sim_strC ce_gate) (sima_cons (sim_strC ce_faint) sima_nil))) (sima_cons (sim_tup (sima_cons (sim_strC ce_plnk) (sima_cons (sim_strC ce_faint) sima_nil))) sima_nil))) sima_nil)))) (simg_name C.nd 4) (sims_cons (sim_set C 5 (sim_tidy (sim_makeC ce_Sleeper (g_Sleeper___init__ Z) C (hr.mono (by decide : 5 ≤ 10)) (sima_cons (sim_var 4) (sima_cons (sim_var 2) (sima_cons sim_int (sima_cons sim_int (sima_cons (sim_strC ce_again) sima_nil))))))))
  (sims_one (sim_for (sl := [6]) C (simi_seq (sim_tup (sima_cons (sim_strC ce_asleep) (sima_cons (sim_strC ce_dozing) (sima_cons (sim_strC ce_up) sima_nil))))) (simg_name C.nd 6) (sims_one (sim_ifS (simt_not (simt_tru (sim_call (g__law_called Z) C (hr.mono (by decide : 10 ≤ 10)) (sima_cons (sim_var 3) (sima_cons (sim_var 5) (sima_cons (sim_var 6) sima_nil)))))) (sims_one (sim_ret sim_bl)) sims_nil))))))))))
  (sims_one (sim_ret sim_bl)))
end
abbrev R : PySem.W.OpenRow := PySem.W.OpenLaw.row PySem.Challenge.rw_hushsteps_k31_guests_and_tables_by_names
abbrev hk : PySem.W.Hook := He.hookX 5 fa fn [] [] ex
def ob (s : PySem.W.SharedT) : He.AlX := He.obsX 5 fa fn [] [] ex (HandSHeadRun.getT s)
theorem ob_eq (s : PySem.W.SharedT) : ob s = hk.obs s.abs := He.obsX_eq (HandSHeadRun.getT_eq s)
def loose : List PySem.Str := [("_wall" : PySem.Str), ("HushError" : PySem.Str), ("InvalidHouse" : PySem.Str), ("InvalidSleeper" : PySem.Str), ("InvalidWalk" : PySem.Str), ("InvalidEvent" : PySem.Str), ("InvalidText" : PySem.Str), ("FIRSTS" : PySem.Str), ("SORTS" : PySem.Str), ("LETTERS" : PySem.Str), ("DIGITS" : PySem.Str), ("is_integer" : PySem.Str), ("is_from" : PySem.Str), ("is_number" : PySem.Str), ("is_sequence" : PySem.Str), ("is_name" : PySem.Str), ("is_word" : PySem.Str), ("number_in" : PySem.Str), ("are_unlike" : PySem.Str), ("AT_LOUD" : PySem.Str), ("ASLEEP" : PySem.Str), ("WOKEN_sleepers" : PySem.Str), ("is_sorted_name" : PySem.Str), ("wrong_in" : PySem.Str), ("wrong_in_sleepers" : PySem.Str), ("Sleeper" : PySem.Str), ("first_state" : PySem.Str), ("heard_asleep" : PySem.Str), ("heard" : PySem.Str), ("heard_all" : PySem.Str), ("ticked" : PySem.Str), ("HUMS" : PySem.Str), ("event_in" : PySem.Str), ("events_of" : PySem.Str), ("Walk" : PySem.Str), ("WOKEN_guests" : PySem.Str), ("first_standing" : PySem.Str), ("behind_steps" : PySem.Str), ("behind_tick" : PySem.Str), ("Search" : PySem.Str), ("unheard" : PySem.Str), ("fewest" : PySem.Str), ("Crowd" : PySem.Str), ("way" : PySem.Str), ("is_room" : PySem.Str), ("is_door" : PySem.Str), ("is_floor" : PySem.Str), ("wrong_in_houses" : PySem.Str), ("rooms_in" : PySem.Str), ("door_in" : PySem.Str), ("floor_in" : PySem.Str), ("cradles_in" : PySem.Str), ("parts_in" : PySem.Str), ("House" : PySem.Str), ("is_between" : PySem.Str), ("is_longer_state" : PySem.Str), ("is_state" : PySem.Str), ("is_lot" : PySem.Str), ("is_standing" : PySem.Str), ("table" : PySem.Str), ("leads_within" : PySem.Str), ("table_holds" : PySem.Str), ("_law_called" : PySem.Str)]
end Lw
end

section
set_option Elab.async false
set_option linter.all false
set_option maxRecDepth 100000
set_option maxHeartbeats 0
namespace Lw
open PySem PySem.Spec PyProof.Rows L2 Hs
theorem run (w : World) : HandSHeadRun.RunEq R (PySem.W.view R.prog [72]) hk ob 20000 loose w := by
  intro os
  kernel_rfl
end Lw
end

section
set_option Elab.async false
set_option linter.all false
set_option maxRecDepth 100000
set_option maxHeartbeats 0

open PySem PySem.W PySem.Calls PyProof.Rows
theorem PySem.Challenge.cw_hushsteps_k31_guests_and_tables_by_names_holds : PySem.Challenge.rw_hushsteps_k31_guests_and_tables_by_names.Holds := by
  w_on; o_law
  refine HandSHeadRun.head_any (r := OpenLaw.row PySem.Challenge.rw_hushsteps_k31_guests_and_tables_by_names) (q := view (OpenLaw.row PySem.Challenge.rw_hushsteps_k31_guests_and_tables_by_names).prog [72]) (H := Lw.hk) (ob := Lw.ob) (M := 20000) (loose := Lw.loose) (d := HandSHeadRun.topDef (OpenLaw.row PySem.Challenge.rw_hushsteps_k31_guests_and_tables_by_names).prog 72) (kwd := []) Lw.ob_eq
    (by kernel_rfl) (fun s => by kernel_rfl) Lw.run (by kernel_rfl) (by kernel_rfl) (by kernel_rfl) (by rfl) (by first | assumption | decide +kernel) (by decide +kernel) ⟨rfl, rfl, rfl, rfl, rfl, by decide +kernel⟩ ?hw ?hc
  case hw => w_witness2
  case hc =>
    refine Hs.end_walk (l := PySem.Challenge.rw_hushsteps_k31_guests_and_tables_by_names) (n := 63) (k := 11) (x := "_law_script") (F := Lw.F_law) rfl (by decide) (by kernel_rfl) ⟨rfl, by decide, by decide⟩ Lw.says ?_
    intro w mg fa h Y G hmg0
    obtain ⟨K, KX, c⟩ := Y
    have e : (HandSHeadRun.topDef (OpenLaw.row PySem.Challenge.rw_hushsteps_k31_guests_and_tables_by_names).prog 72).name = ("law" : PySem.Str) := by kernel_rfl
    rw [e] at hmg0
    have Z : Lw.Zs w h K mg := ⟨KX, G, c⟩
    obtain ⟨fd, D⟩ := c.t.d.def_ 49 (d := Lw.d_law)
    have ef := hmg0.symm.trans (Z.glo 75 (x := "law"))
    cases ef
    have b := L2.FunD.bindsA (ps := ["_law_script"]) D (fun _ _ _ _ _ _ us hl => match us, hl with | [_], _ => rfl)
    exact ⟨K, fd, KX, fun s u => b s [u] rfl, fun base _ _ => Lw.g_law Z D⟩
end
