import PyProof.Rows.All
import Wide.All
import OpenK.AllK
import Wide.FinOn
import KE.KDictSum
import PyProof.LetGo
import PyProof.IsiTupleAll
import PyProof.IsiPairs
import PyProof.IsiHeapPairs
import PyProof.DictTable
import PyProof.WalksEnum
import PyProof.StrWalks
import PyProof.EnumMake
import PyProof.RangeFor
import PyProof.Rows.LoopUnroll
import PyProof.ExcBaseAll.Exception
import PyProof.ExcArgs
import PySem.Challenge.RW_on0172_01
open PySem PySem.W PyProof.Rows PySem.Calls
set_option Elab.async false
set_option maxRecDepth 1000000
set_option maxHeartbeats 4000000
set_option linter.unusedVariables false
set_option genInjectivity false
set_option genSizeOf false
set_option genSizeOfSpec false
namespace Mine
theorem cp {G : Prop} (h : ∀ P : Prop, (G → P) → P) : G := h G id
theorem inj2 {α : Type} {o : Option α} {x y : α} (h : o = some x) (h' : o = some y) : x = y := Option.some.inj (h.symm.trans h')
theorem no2 {α : Type} {o : Option α} {x : α} {P : Prop} (h : o = none) (h' : o = some x) : P := (Option.some_ne_none x (h'.symm.trans h)).elim
theorem isN {α : Type} {o : Option α} (h : ∀ x, o = some x → False) : o = none := by cases o with | none => rfl | some x => exact (h x rfl).elim
theorem no1 {α : Type} {x : α} {P : Prop} (h : none = some x) : P := (Option.some_ne_none x h.symm).elim
theorem no3 {α : Type} {x : α} {P : Prop} (h : some x = none) : P := (Option.some_ne_none x h).elim
theorem bft {P : Prop} (h : false = true) : P := Bool.noConfusion h
theorem btf {P : Prop} (h : true = false) : P := Bool.noConfusion h
theorem bel_nil {p : Nat → Prop} : ∀ d, d < 0 → p d := fun d h => absurd h (Nat.not_lt_zero d)
theorem bel {n : Nat} {p : Nat → Prop} (h : ∀ d, d < n → p d) (hn : p n) : ∀ d, d < n + 1 → p d := fun d hd => (Nat.lt_succ_iff_lt_or_eq.mp hd).elim (h d) fun e => e ▸ hn
theorem all_cons {α : Type} {p : α → Prop} {x : α} {l : List α} (h1 : p x) (h2 : ∀ z ∈ l, p z) : ∀ z ∈ x :: l, p z := List.forall_mem_cons.mpr ⟨h1, h2⟩
theorem all_nil {α : Type} {p : α → Prop} : ∀ z ∈ ([] : List α), p z := nofun
inductive V where
  | none
  | bool (b : Bool)
  | int (i : Int)
  | str (s : Str)
  | tup (l : List V)
  | ref (a : Addr)
noncomputable abbrev seqMost : Nat := 1000000
noncomputable abbrev strMost : Nat := 100000
noncomputable def SF (s : Str) : Prop := PyData.strOk s = true ∧ s.length ≤ 2 ^ 40
mutual
inductive Rv (h : Heap) : Value → V → Prop
  | none : Rv h .none .none
  | bool (b : Bool) : Rv h (.bool b) (.bool b)
  | int (i : Int) (t : Tok) : Rv h (.int i t) (.int i)
  | str (s : Str) (t : Tok) (hs : SF s) : Rv h (.str s t) (.str s)
  | ref (a : Addr) : Rv h (.ref a) (.ref a)
  | tup {a : Addr} {o : Obj} {n : Nat} {vs : List Value} {l : List V} (ho : h.get? a = some o) (hc : o.cls = .type "tuple") (hd : o.data = .seq vs.toArray n) (hl : RvL h vs l) (hz : l.length ≤ seqMost) : Rv h (.ref a) (.tup l)
inductive RvL (h : Heap) : List Value → List V → Prop
  | nil : RvL h [] []
  | cons {v : Value} {x : V} {vs : List Value} {l : List V} (hv : Rv h v x) (hl : RvL h vs l) : RvL h (v :: vs) (x :: l)
end
noncomputable def TupK (h h' : Heap) : Prop := ∀ b o, h.get? b = some o → o.cls = .type "tuple" → (∃ vs n, o.data = .seq vs n) → ∃ sl, h'.get? b = some { o with slots := sl }
theorem Rv.mono {h h' : Heap} (k : TupK h h') {v : Value} {x : V} (r : Rv h v x) : Rv h' v x :=
  Rv.rec (motive_1 := fun v x _ => Rv h' v x) (motive_2 := fun vs l _ => RvL h' vs l) .none .bool .int .str .ref (fun ho hc hd _ hz ih => (k _ _ ho hc ⟨_, _, hd⟩).elim fun _ e => .tup e hc hd ih hz) .nil (fun _ _ a b => .cons a b) r
theorem RvL.ind {h : Heap} {p : List Value → List V → Prop} (nil : p [] []) (cons : ∀ {v x vs l}, Rv h v x → RvL h vs l → p vs l → p (v :: vs) (x :: l)) {vs : List Value} {l : List V} (r : RvL h vs l) : p vs l :=
  RvL.rec (motive_1 := fun _ _ _ => True) (motive_2 := fun vs l _ => p vs l) trivial (fun _ => trivial) (fun _ _ => trivial) (fun _ _ _ => trivial) (fun _ => trivial) (fun _ _ _ _ _ _ => trivial) nil (fun hv hl _ ih => cons hv hl ih) r
section
variable {h : Heap} {vs ws : List Value} {l r : List V}
theorem RvL.mono {h' : Heap} (k : TupK h h') (x : RvL h vs l) : RvL h' vs l := x.ind .nil fun hv _ ih => .cons (hv.mono k) ih
theorem RvL.length (x : RvL h vs l) : vs.length = l.length := x.ind (p := fun vs l => vs.length = l.length) rfl fun _ _ ih => congrArg (· + 1) ih
theorem RvL.get (x : RvL h vs l) : ∀ (i : Nat) (x : V), l[i]? = some x → ∃ v, vs[i]? = some v ∧ Rv h v x :=
  x.ind (p := fun vs l => ∀ (i : Nat) (x : V), l[i]? = some x → ∃ v, vs[i]? = some v ∧ Rv h v x) (fun _ _ e => no2 List.getElem?_nil e)
    fun {v _ _ _} hv _ ih i => i.casesOn (fun _ e => ⟨v, rfl, Option.some.inj e ▸ hv⟩) fun i x e => ih i x e
theorem RvL.append (x : RvL h vs l) (y : RvL h ws r) : RvL h (vs ++ ws) (l ++ r) := x.ind (p := fun vs l => RvL h (vs ++ ws) (l ++ r)) y fun hv _ ih => .cons hv ih
theorem RvL.set {v : Value} {x : V} (hv : Rv h v x) (y : RvL h vs l) : ∀ i, RvL h (vs.set i v) (l.set i x) :=
  y.ind (p := fun vs l => ∀ i, RvL h (vs.set i v) (l.set i x)) (fun _ => .nil) fun hu r ih i => i.casesOn (.cons hv r) fun i => .cons hu (ih i)
theorem RvL.take (x : RvL h vs l) : ∀ n, RvL h (vs.take n) (l.take n) :=
  x.ind (p := fun vs l => ∀ n, RvL h (vs.take n) (l.take n)) (fun n => n.casesOn .nil fun _ => .nil) fun hv _ ih n => n.casesOn .nil fun n => .cons hv (ih n)
theorem RvL.drop (x : RvL h vs l) : ∀ n, RvL h (vs.drop n) (l.drop n) :=
  x.ind (p := fun vs l => ∀ n, RvL h (vs.drop n) (l.drop n)) (fun n => n.casesOn .nil fun _ => .nil) fun hv r ih n => n.casesOn (.cons hv r) fun n => ih n
theorem RvL.reverse (x : RvL h vs l) : RvL h vs.reverse l.reverse :=
  x.ind (p := fun vs l => RvL h vs.reverse l.reverse) .nil fun hv _ ih => by rw [List.reverse_cons, List.reverse_cons]; exact ih.append (.cons hv .nil)
end
inductive AO where
  | list (l : List V)
  | di (es : List (Int × V))
  | ds (es : List (Str × V))
  | inst (C dx : Addr)
  | fld (fs : List (Str × V))
noncomputable abbrev AS := Addr → Option AO
noncomputable def AS.set (σ : AS) (a : Addr) (o : AO) : AS := fun b => if b = a then some o else σ b
@[simp] theorem AS.set_same (σ : AS) (a : Addr) (o : AO) : σ.set a o a = some o := if_pos rfl
theorem AS.set_ne (σ : AS) {a b : Addr} (o : AO) (h : b ≠ a) : σ.set a o b = σ b := if_neg h
inductive RvD {K : Type} (h : Heap) : List (K × Value) → List (K × V) → Prop
  | nil : RvD h [] []
  | cons {k : K} {v : Value} {x : V} {vs : List (K × Value)} {l : List (K × V)} (hv : Rv h v x) (hl : RvD h vs l) : RvD h ((k, v) :: vs) ((k, x) :: l)
theorem RvD.mono {K : Type} {h h' : Heap} (k : TupK h h') {vs : List (K × Value)} {l : List (K × V)} (r : RvD h vs l) : RvD h' vs l := by
  induction r with
  | nil => exact .nil
  | cons hv _ ih => exact .cons (hv.mono k) ih
noncomputable def FldAt (h : Heap) (es : List DictEntry) (fs : List (Str × V)) : Prop :=
  es.length = fs.length ∧ ∀ x, match fs.lookup x with
    | some v => ∃ cv, getL x es = some (some cv) ∧ Rv h cv v
    | none => getL x es = some none
noncomputable def OM (prog : Program) (w : World) (h : Heap) (a : Addr) : AO → Prop
  | .list l => ∃ vs, h.PlainList a vs.toArray ∧ RvL h vs l ∧ l.length ≤ seqMost
  | .di es => ∃ kvs, h.DictOf (intKind prog w) a kvs ∧ RvD h kvs es
  | .ds es => ∃ kvs, h.DictOf (strKind prog w) a kvs ∧ RvD h kvs es
  | .inst C dx => h.get? a = some (instObj C dx)
  | .fld fs => ∃ es n, h.get? a = some (dictOf es n) ∧ FldAt h es fs
noncomputable def frs (l : List Env) : List Addr := l.filterMap (·.frame)
structure Kc (Fs X : List Addr) (σ σ' : AS) (h h' : Heap) : Prop where
  ex : ∀ b o, h.get? b = some o → σ b = none → b ∉ Fs → b ∉ X → h'.get? b = some o
  sl : ∀ b o, h.get? b = some o → b ∈ Fs → b ∉ X → ∃ sl, h'.get? b = some { o with slots := sl }
  nw : ∀ b o, h.get? b = some o → σ b = none → σ' b = none
  pr : ∀ b o, h.get? b = some o → ∃ o', h'.get? b = some o'
theorem Kc.refl {Fs X : List Addr} {σ : AS} {h : Heap} : Kc Fs X σ σ h h :=
  ⟨fun _ _ e _ _ _ => e, fun _ o e _ _ => ⟨o.slots, e⟩, fun _ _ _ e => e, fun _ o e => ⟨o, e⟩⟩
theorem Kc.up {Fs X : List Addr} {σ σ' : AS} {h h' : Heap} (k : Kc Fs X σ σ' h h') {b : Addr} {o : Obj} (e : h.get? b = some o) (hs : σ b = none) (hx : b ∉ X) : ∃ sl, h'.get? b = some { o with slots := sl } := by
  by_cases hf : b ∈ Fs
  · exact k.sl b o e hf hx
  · exact ⟨o.slots, k.ex b o e hs hf hx⟩
theorem Kc.trans {Fs X : List Addr} {σ₁ σ₂ σ₃ : AS} {h₁ h₂ h₃ : Heap} (x : Kc Fs X σ₁ σ₂ h₁ h₂) (y : Kc Fs X σ₂ σ₃ h₂ h₃) : Kc Fs X σ₁ σ₃ h₁ h₃ :=
  ⟨fun b o e hs hf hx => y.ex b o (x.ex b o e hs hf hx) (x.nw b o e hs) hf hx,
   fun b o e hf hx => let ⟨_, e₁⟩ := x.sl b o e hf hx; let ⟨sl, e₂⟩ := y.sl b _ e₁ hf hx; ⟨sl, e₂⟩,
   fun b o e hs => let ⟨_, e₁⟩ := x.pr b o e; y.nw b _ e₁ (x.nw b o e hs), fun b o e => let ⟨_, e₁⟩ := x.pr b o e; y.pr b _ e₁⟩
theorem Kc.mono {Fs X X' : List Addr} {σ σ' : AS} {h h' : Heap} (k : Kc Fs X σ σ' h h') (s : ∀ b ∈ X, b ∈ X') : Kc Fs X' σ σ' h h' :=
  ⟨fun b o e hs hf hx => k.ex b o e hs hf fun q => hx (s b q), fun b o e hf hx => k.sl b o e hf fun q => hx (s b q), k.nw, k.pr⟩
theorem Kc.of_keep {Fs X : List Addr} {σ σ' : AS} {h h' : Heap} (k : ∀ b o, h.get? b = some o → h'.get? b = some o) (n : ∀ b o, h.get? b = some o → σ b = none → σ' b = none) : Kc Fs X σ σ' h h' :=
  ⟨fun b o e _ _ _ => k b o e, fun b o e _ _ => ⟨o.slots, k b o e⟩, n, fun b o e => ⟨o, k b o e⟩⟩
theorem Kc.of_at {Fs X : List Addr} {σ : AS} {h h' : Heap} {a : Addr} {ao : AO} (k : Heap.SameBut a h h') (ha : σ a ≠ none) (hf : a ∉ Fs) (hp : ∃ o, h'.get? a = some o) : Kc Fs X σ (σ.set a ao) h h' :=
  ⟨fun b o e hs _ _ => by rw [k.2 b (fun q : b = a => ha (q ▸ hs))]; exact e, fun b o e hb _ => ⟨o.slots, by rw [k.2 b (fun q : b = a => hf (q ▸ hb))]; exact e⟩,
   fun b o _ hs => by rw [AS.set_ne σ ao (fun q : b = a => ha (q ▸ hs))]; exact hs, fun b o e => by
    by_cases q : b = a
    · subst q; exact hp
    · exact ⟨o, (k.2 b q).trans e⟩⟩
structure At (prog : Program) (w : World) (hB : Heap) (os0 : OsState) (A : Around) (k : Nat) (σ : AS) (s : Shared) : Prop where
  st : hB.StaysIn s.heap
  obj : ∀ a o, σ a = some o → OM prog w s.heap a o ∧ hB.get? a = none
  fr : ∃ l, A.frames = some l ∧ s.heap.FunFrames hB l ∧ ∀ b ∈ frs l, σ b = none
  hd : A.handled = none
  dp : A.depth + 4 * k ≤ 800
  un : A.units + 60 * k ≤ 6000
  gens : s.gens = #[]
  os : s.os = os0
theorem OM.lt {prog : Program} {w : World} {h : Heap} {a : Addr} {o : AO} (x : OM prog w h a o) : ∃ ob, h.get? a = some ob ∧ ob.cls ≠ .type "tuple" := by
  cases o with
  | list l => obtain ⟨vs, ⟨n, e⟩, _⟩ := x; exact ⟨_, e, by simp⟩
  | di es => obtain ⟨kvs, ⟨o, _, _, e, c, _⟩, _⟩ := x; exact ⟨_, e, by rw [c.1]; simp⟩
  | ds es => obtain ⟨kvs, ⟨o, _, _, e, c, _⟩, _⟩ := x; exact ⟨_, e, by rw [c.1]; simp⟩
  | inst C dx => exact ⟨_, x, by simp⟩
  | fld fs => obtain ⟨es, n, e, _⟩ := x; exact ⟨_, e, by simp⟩
theorem At.no_tup {prog : Program} {w : World} {hB : Heap} {os0 : OsState} {A : Around} {k : Nat} {σ : AS} {s : Shared} (x : At prog w hB os0 A k σ s) {b : Addr} {o : Obj} (e : s.heap.get? b = some o) (c : o.cls = .type "tuple") : σ b = none := by
  refine isN fun ao q => ?_
  obtain ⟨ob, e', c'⟩ := (x.obj b ao q).1.lt
  obtain rfl := inj2 e e'; exact absurd c c'
theorem At.tupK {prog : Program} {w : World} {hB : Heap} {os0 : OsState} {A : Around} {k : Nat} {σ σ' : AS} {s : Shared} {Fs : List Addr} {h' : Heap} (x : At prog w hB os0 A k σ s) (c : Kc Fs [] σ σ' s.heap h') : TupK s.heap h' :=
  fun _ _ e hc _ => c.up e (x.no_tup e hc) (by simp)
theorem At.le {prog : Program} {w : World} {hB : Heap} {os0 : OsState} {A : Around} {k k' : Nat} {σ : AS} {s : Shared} (x : At prog w hB os0 A k σ s) (h : k' ≤ k) : At prog w hB os0 A k' σ s :=
  { x with dp := by have := x.dp; lia, un := by have := x.un; lia }
theorem OM.at {prog : Program} {w : World} {h h' : Heap} {a : Addr} {o : AO} (x : OM prog w h a o) (k : ∀ ob, h.get? a = some ob → h'.get? a = some ob) (t : TupK h h') : OM prog w h' a o := by
  cases o with
  | list l => obtain ⟨vs, ⟨n, e⟩, r, z⟩ := x; exact ⟨vs, ⟨n, k _ e⟩, r.mono t, z⟩
  | di es => obtain ⟨kvs, ⟨o, a1, a2, e, c⟩, r⟩ := x; exact ⟨kvs, ⟨o, a1, a2, k _ e, c⟩, r.mono t⟩
  | ds es => obtain ⟨kvs, ⟨o, a1, a2, e, c⟩, r⟩ := x; exact ⟨kvs, ⟨o, a1, a2, k _ e, c⟩, r.mono t⟩
  | inst C dx => exact k _ x
  | fld fs =>
    obtain ⟨es, n, e, z, f⟩ := x
    refine ⟨es, n, k _ e, z, fun y => ?_⟩
    have := f y
    cases q : fs.lookup y with
    | none => rw [q] at this; exact this
    | some v => rw [q] at this; obtain ⟨cv, g, r⟩ := this; exact ⟨cv, g, r.mono t⟩
theorem funFrames_of {h h' base : Heap} {l : List Env} : h.FunFrames base l → (∀ b ∈ frs l, ∀ o, h.get? b = some o → ∃ o', h'.get? b = some o' ∧ o'.data = o.data) → h'.FunFrames base l := by
  induction l with
  | nil => exact fun _ _ => trivial
  | cons env r ih =>
    intro ⟨hk, ⟨L, o, hf, hn, ho, hd⟩, hr⟩ k
    have e : frs (env :: r) = L :: frs r := List.filterMap_cons_some hf
    rw [e] at k
    obtain ⟨o', ho', hd'⟩ := k L (.head _) o ho
    exact ⟨hk, ⟨L, o', hf, hn, ho', fun vs => hd' ▸ hd vs⟩, ih hr fun b hb => k b (.tail _ hb)⟩
theorem frs_in {h base : Heap} : ∀ {l : List Env}, h.FunFrames base l → ∀ b ∈ frs l, base.get? b = none ∧ ∃ o, h.get? b = some o
  | l, hl, b, hb => let ⟨a, o, e, _⟩ := hl.mem hb; ⟨a, o, e⟩
theorem At.next {prog : Program} {w : World} {hB : Heap} {os0 : OsState} {A : Around} {k : Nat} {σ σ' : AS} {s s' : Shared} (x : At prog w hB os0 A k σ s) {l : List Env} (hl : A.frames = some l) (c : Kc (frs l) [] σ σ' s.heap s'.heap)
    (o : ∀ a o, σ' a = some o → OM prog w s'.heap a o ∧ hB.get? a = none) (hg : s'.gens = s.gens) (ho : s'.os = s.os) : At prog w hB os0 A k σ' s' := by
  obtain ⟨l', hl', ff, fσ⟩ := x.fr
  obtain rfl := inj2 hl hl'
  have nf : ∀ b o, hB.get? b = some o → b ∉ frs l := fun b o e hm => by have := (frs_in ff b hm).1; exact no2 this e
  have nσ : ∀ b o, hB.get? b = some o → σ b = none := fun b o e => by
    refine isN fun ao q => ?_
    have := (x.obj b ao q).2; exact no2 this e
  refine ⟨fun b o e => c.ex b o (x.st b o e) (nσ b o e) (nf b o e) (by simp), o, ⟨l, hl, funFrames_of ff fun b hb o e => ?_, fun b hb => ?_⟩, x.hd, x.dp, x.un, hg.trans x.gens, ho.trans x.os⟩
  · obtain ⟨sl, e'⟩ := c.up e (fσ b hb) (by simp)
    exact ⟨_, e', rfl⟩
  · obtain ⟨_, o, e⟩ := frs_in ff b hb
    exact c.nw b o e (fσ b hb)
noncomputable abbrev M := List (Option V)
structure Fx where
  prog : Program
  w : World
  hB : Heap
  os0 : OsState
  A : Around
  l : List Env
  env : Env
  k : Nat
  ne : List (Str × Nat)
noncomputable abbrev Fx.own (f : Fx) : List Addr := f.env.locals :: f.env.cells.map (·.2)
noncomputable abbrev Fx.At (f : Fx) (σ : AS) (s : Shared) : Prop := Mine.At f.prog f.w f.hB f.os0 f.A f.k σ s
structure Base (prog : Program) (hB : Heap) : Prop where
  lim : hB.NoLimit
  seer : hB.NoSeer
  dig : hB.NoDigits
  tree : prog.given.tree = none
  mods : ∃ o, hB.get? sysModules = some o
structure Fx.Ok (f : Fx) : Prop where
  base : Base f.prog f.hB
  gen : f.env.scope.isGenerator = false
  co : f.env.scope.isCoroutine = false
  kind : f.env.scope.kind = .function
  glob : f.env.globals = mainGlobals
  bi : f.env.builtins = builtinsNs
  fr : f.A.frames = some f.l
  ne : ∀ x i, f.ne.lookup x = some i → (x == ("__debug__" : Str)) = false ∧ (f.env.kindOf x = some .local ∨ ((f.env.kindOf x = some .cell ∨ (f.env.kindOf x = some .free ∧ (x == ("__classdict__" : Str)) = false)) ∧ ∃ c, f.env.cells.lookup x = some c))
  inj : ∀ x y i, f.ne.lookup x = some i → f.ne.lookup y = some i → x = y
  cinj : ∀ x y c, (x, c) ∈ f.env.cells → (y, c) ∈ f.env.cells → x = y
  cfun : ∀ x c c', (x, c) ∈ f.env.cells → (x, c') ∈ f.env.cells → c = c'
theorem hidW {M : Model} {A : Around} {α : Type} {c : Sem α} {Q : α → Shared → Prop} {E : Value → Shared → Prop} {s : Shared} (h : ∀ Q' E', (∀ r s, Q r s → Q' r s) → (∀ x s, E x s → E' x s) → wpAny M A c Q' E' s) : wpAny M A c Q E s := h Q E (fun _ _ h => h) fun _ _ h => h
structure FS (f : Fx) (m : M) (σ : AS) (s : Shared) : Prop where
  at_ : f.At σ s
  lo : ∃ mm, s.heap.Ns f.env.locals mm ∧ ∀ x i v, f.ne.lookup x = some i → f.env.kindOf x = some .local → m[i]? = some (some v) → ∃ cv, mm x = some cv ∧ Rv s.heap cv v
  ce : ∀ x c, (x, c) ∈ f.env.cells → ∃ o v, s.heap.get? c = some o ∧ o.data = .cell v ∧ ∀ i u, f.ne.lookup x = some i → f.env.kindOf x ≠ some .local → m[i]? = some (some u) → ∃ cv, v = some cv ∧ Rv s.heap cv u
  sL : σ f.env.locals = none
  sC : ∀ x c, (x, c) ∈ f.env.cells → σ c = none
  bL : f.hB.get? f.env.locals = none
  bC : ∀ x c, (x, c) ∈ f.env.cells → f.hB.get? c = none
section
variable {f : Fx} {m : M} {σ σ' : AS} {s s' : Shared}
theorem FS.next (x : FS f m σ s) (ok : f.Ok) (c : Kc (frs f.l) [] σ σ' s.heap s'.heap) (o : ∀ a o, σ' a = some o → OM f.prog f.w s'.heap a o ∧ f.hB.get? a = none) (hg : s'.gens = s.gens := by rfl) (ho : s'.os = s.os := by rfl) : FS f m σ' s' := by
  have t := x.at_.tupK c
  refine ⟨x.at_.next ok.fr c o hg ho, ?_, fun y ca hc => ?_, ?_, fun y ca hc => ?_, x.bL, x.bC⟩
  · obtain ⟨mm, ⟨ob, es, ep, hn, r⟩, hv⟩ := x.lo
    obtain ⟨sl, e⟩ := c.up hn x.sL (by simp)
    refine ⟨mm, ⟨_, es, ep, e, r⟩, fun y i v h1 h2 h3 => ?_⟩
    obtain ⟨cv, a, b⟩ := hv y i v h1 h2 h3
    exact ⟨cv, a, b.mono t⟩
  · obtain ⟨ob, v, e, d, r⟩ := x.ce y ca hc
    obtain ⟨sl, e'⟩ := c.up e (x.sC y ca hc) (by simp)
    refine ⟨_, v, e', d, fun i u h1 h2 h3 => ?_⟩
    obtain ⟨cv, a, b⟩ := r i u h1 h2 h3
    exact ⟨cv, a, b.mono t⟩
  · obtain ⟨mm, ⟨ob, _, _, hn, _⟩, _⟩ := x.lo
    exact c.nw _ ob hn x.sL
  · obtain ⟨ob, v, e, _⟩ := x.ce y ca hc
    exact c.nw _ ob e (x.sC y ca hc)
theorem FS.read {x : Str} {i : Nat} {v : V} {pos : Pos} {Q : Value → Shared → Prop} {E : Value → Shared → Prop} {M : Model} {A : Around} (h : FS f m σ s) (ok : f.Ok) (hx : f.ne.lookup x = some i) (hm : m[i]? = some (some v))
    (q : ∀ cv, Rv s.heap cv v → Q cv s) : wpAny M A (eval (.Name x pos) f.env) Q E s := by
  obtain ⟨hd, hk⟩ := ok.ne x i hx
  rcases hk with hk | ⟨hk, c, hc⟩
  · obtain ⟨mm, hn, hv⟩ := h.lo
    obtain ⟨cv, a, b⟩ := hv x i v hx hk hm
    exact wpAny_Name (wpAny_loadName_local ok.kind hk hn a (q cv b)) hd
  · obtain ⟨o, ov, e, d, r⟩ := h.ce x c (mem_of_lookup hc)
    have hnl : f.env.kindOf x ≠ some .local := by rcases hk with hk | ⟨hk, _⟩ <;> rw [hk] <;> simp
    obtain ⟨cv, rfl, b⟩ := r i v hx hnl hm
    rcases hk with hk | ⟨hk, hcd⟩
    · exact wpAny_Name (wpAny_loadName_cell ok.kind hk hc ⟨o, e, d⟩ (q cv b)) hd
    · exact wpAny_Name (wpAny_loadName_free ok.kind hk hc ⟨o, e, d⟩ (q cv b) hcd) hd
theorem FS.tupKX (x : FS f m σ s) {h' : Heap} {σ' : AS} (c : Kc (frs f.l) f.own σ σ' s.heap h') : TupK s.heap h' := fun b o e hc ⟨vs, n, hd⟩ => by
  refine c.up e (x.at_.no_tup e hc) fun hm => ?_
  rcases List.mem_cons.mp hm with rfl | hm
  · obtain ⟨mm, ⟨ob, es, ep, hn, d, _⟩, _⟩ := x.lo
    obtain rfl := inj2 e hn; rw [hd] at d; cases d
  · obtain ⟨⟨y, ca⟩, hy, rfl⟩ := List.mem_map.mp hm
    obtain ⟨ob, v, he, d, _⟩ := x.ce y ca hy
    obtain rfl := inj2 e he; rw [hd] at d; cases d
theorem FS.store {x : Str} {i : Nat} {cv : Value} {v : V} {Q : Unit → Shared → Prop} {E : Value → Shared → Prop} {M : Model} {A : Around} (h : FS f m σ s) (ok : f.Ok) (hx : f.ne.lookup x = some i) (hk : f.env.kindOf x ≠ some .free) (hi : i < m.length) (hv : Rv s.heap cv v)
    (q : ∀ s', FS f (m.set i (some v)) σ s' → Kc (frs f.l) f.own σ σ s.heap s'.heap → (f.env.kindOf x = some .local → Heap.SameBut f.env.locals s.heap s'.heap) → Q () s') : wpAny M A (storeName f.env x cv) Q E s := by
  obtain ⟨hd, hkk⟩ := ok.ne x i hx
  obtain ⟨l', hl', ff, fσ⟩ := h.at_.fr
  obtain rfl := inj2 ok.fr hl'
  have key : ∀ (a : Addr) (s' : Shared), a ∈ f.own → (∃ o, s.heap.get? a = some o ∧ ∃ o', s'.heap.get? a = some o' ∧ ((∃ vs n, o.data = .dict vs n) ∧ (∃ vs n, o'.data = .dict vs n) ∨ (∃ v, o.data = .cell v) ∧ (∃ v, o'.data = .cell v))) → Heap.SameBut a s.heap s'.heap → s'.gens = s.gens → s'.os = s.os →
      f.At σ s' ∧ Kc (frs f.l) f.own σ σ s.heap s'.heap ∧ TupK s.heap s'.heap := by
    intro a s' ha ⟨o, ho, o', ho', hdd⟩ hs hg hos
    have kc : Kc (frs f.l) f.own σ σ s.heap s'.heap := ⟨fun b o e _ _ hb => by rw [hs.2 b (fun q : b = a => hb (q ▸ ha))]; exact e, fun b o e _ hb => ⟨o.slots, by rw [hs.2 b (fun q : b = a => hb (q ▸ ha))]; exact e⟩, fun _ _ _ e => e, fun b o e => by
      by_cases q : b = a
      · subst q; exact ⟨o', ho'⟩
      · exact ⟨o, (hs.2 b q).trans e⟩⟩
    have tk := h.tupKX kc
    have σa : σ a = none := by
      rcases List.mem_cons.mp ha with rfl | hm
      · exact h.sL
      · obtain ⟨⟨y, ca⟩, hy, rfl⟩ := List.mem_map.mp hm; exact h.sC y ca hy
    have ba : f.hB.get? a = none := by
      rcases List.mem_cons.mp ha with rfl | hm
      · exact h.bL
      · obtain ⟨⟨y, ca⟩, hy, rfl⟩ := List.mem_map.mp hm; exact h.bC y ca hy
    refine ⟨⟨fun b o e => ?_, fun b ao e => ⟨(h.at_.obj b ao e).1.at (fun ob eb => ?_) tk, (h.at_.obj b ao e).2⟩, ⟨f.l, ok.fr, ?_, fσ⟩, h.at_.hd, h.at_.dp, h.at_.un, hg.trans h.at_.gens, hos.trans h.at_.os⟩, kc, tk⟩
    · rw [hs.2 b (fun q : b = a => by rw [q, ba] at e; exact no1 e)]; exact h.at_.st b o e
    · rw [hs.2 b (fun q : b = a => by rw [q, σa] at e; exact no1 e)]; exact eb
    · -- the frames
      have : ∀ l, s.heap.FunFrames f.hB l → s'.heap.FunFrames f.hB l := by
        intro l
        induction l with
        | nil => intro _; trivial
        | cons env r ih =>
          rintro ⟨h1, ⟨L, oL, h2, h3, h4, h5⟩, h6⟩
          by_cases e : L = a
          · subst e
            refine ⟨h1, ⟨L, o', h2, h3, ho', fun vs q => ?_⟩, ih h6⟩
            rcases hdd with ⟨_, ⟨_, _, z⟩⟩ | ⟨_, ⟨_, z⟩⟩ <;> rw [z] at q <;> cases q
          · exact ⟨h1, ⟨L, oL, h2, h3, (hs.2 L e).trans h4, h5⟩, ih h6⟩
      exact this _ ff
  obtain ⟨mm, hn, hvm⟩ := h.lo
  rcases hkk with hl | ⟨hkk, c, hc⟩
  · refine wpAny_storeName_local hl hn (fun h' hn' hs => ?_) (by rw [ok.kind]; rfl)
    obtain ⟨o, es, ep, ho, hod, _⟩ := id hn
    obtain ⟨o', es', ep', ho', hod', _⟩ := id hn'
    obtain ⟨at', kc, tk⟩ := key f.env.locals { s with heap := h', toks := s.toks + 1 } (by simp) ⟨o, ho, o', ho', .inl ⟨⟨_, _, hod⟩, ⟨_, _, hod'⟩⟩⟩ hs rfl rfl
    refine q _ ⟨at', ⟨_, hn', fun y j u h1 h2 h3 => ?_⟩, fun y ca hy => ?_, h.sL, h.sC, h.bL, h.bC⟩ kc fun _ => hs
    · by_cases e : y = x
      · subst e
        obtain rfl := inj2 hx h1
        rw [List.getElem?_set_self hi] at h3; cases h3
        exact ⟨cv, by simp, hv.mono tk⟩
      · have ij : i ≠ j := fun q => e (ok.inj y x i (q ▸ h1) hx)
        rw [List.getElem?_set_ne ij] at h3
        obtain ⟨cu, a, b⟩ := hvm y j u h1 h2 h3
        exact ⟨cu, by simp [e, a], b.mono tk⟩
    · obtain ⟨ob, ov, e, d, r⟩ := h.ce y ca hy
      have hne : ca ≠ f.env.locals := fun q => by rw [q, ho] at e; obtain rfl := Option.some.inj e; rw [hod] at d; cases d
      refine ⟨ob, ov, (hs.2 ca hne).trans e, d, fun j u h1 h2 h3 => ?_⟩
      have ij : i ≠ j := fun q => h2 (by rw [ok.inj y x i (q ▸ h1) hx]; exact hl)
      rw [List.getElem?_set_ne ij] at h3
      obtain ⟨cu, a, b⟩ := r j u h1 h2 h3
      exact ⟨cu, a, b.mono tk⟩
  · have hkc : f.env.kindOf x = some .cell := by rcases hkk with a | ⟨a, _⟩; exact a; exact absurd a hk
    obtain ⟨ob, ov, e, d, r⟩ := h.ce x c (mem_of_lookup hc)
    refine wpAny_storeName_cell ok.kind hkc hc ⟨ob, e, d⟩ fun h' hcell hs => ?_
    obtain ⟨ob', e', d'⟩ := id hcell
    obtain ⟨at', kc, tk⟩ := key c { s with heap := h' } (by simp only [Fx.own, List.mem_cons, List.mem_map]; exact .inr ⟨_, mem_of_lookup hc, rfl⟩) ⟨ob, e, ob', e', .inr ⟨⟨_, d⟩, ⟨_, d'⟩⟩⟩ hs rfl rfl
    obtain ⟨o, es, ep, ho, hod, hrest⟩ := id hn
    have hne : f.env.locals ≠ c := fun q => by rw [q, e] at ho; obtain rfl := Option.some.inj ho; rw [hod] at d; cases d
    refine q _ ⟨at', ⟨mm, ⟨o, es, ep, (hs.2 _ hne).trans ho, hod, hrest⟩, fun y j u h1 h2 h3 => ?_⟩, fun y ca hy => ?_, h.sL, h.sC, h.bL, h.bC⟩ kc fun hl => by rw [hkc] at hl; cases hl
    · have ij : i ≠ j := fun q => by rw [ok.inj y x i (q ▸ h1) hx, hkc] at h2; cases h2
      rw [List.getElem?_set_ne ij] at h3
      obtain ⟨cu, a, b⟩ := hvm y j u h1 h2 h3
      exact ⟨cu, a, b.mono tk⟩
    · by_cases ey : y = x
      · subst ey
        by_cases ec : ca = c
        · subst ec
          refine ⟨ob', _, e', d', fun j u h1 h2 h3 => ?_⟩
          obtain rfl := inj2 hx h1
          rw [List.getElem?_set_self hi] at h3; cases h3
          exact ⟨cv, rfl, hv.mono tk⟩
        · exact absurd (ok.cfun y ca c hy (mem_of_lookup hc)) ec
      · obtain ⟨ob2, ov2, e2, d2, r2⟩ := h.ce y ca hy
        have hcc : ca ≠ c := fun q => ey (ok.cinj y x c (q ▸ hy) (mem_of_lookup hc))
        refine ⟨ob2, ov2, (hs.2 ca hcc).trans e2, d2, fun j u h1 h2 h3 => ?_⟩
        have ij : i ≠ j := fun q => ey (ok.inj y x i (q ▸ h1) hx)
        rw [List.getElem?_set_ne ij] at h3
        obtain ⟨cu, a, b⟩ := r2 j u h1 h2 h3
        exact ⟨cu, a, b.mono tk⟩
end
structure Exn where
  cls : Addr
  what : V
noncomputable abbrev PQ := V → AS → Prop
noncomputable abbrev PXx := Exn → AS → Prop
noncomputable abbrev Spec := List V → AS → PQ → PXx → Prop
noncomputable abbrev NE := List (Str × Nat)
structure Cx where
  G : Str → Option V
  S : Str → Option Spec
  Me : Addr → Str → Option Spec
  X : Str → Option Addr
  ro : Addr → Option AO
  F : Addr → Str → Bool
  K : Frag
structure Post where
  n : M → AS → Prop
  r : V → AS → Prop
  c : M → AS → Prop
  x : Exn → M → AS → Prop
mutual
noncomputable def V.py : V → PyData
  | .none => .none
  | .bool b => .bool b
  | .int i => .int i
  | .str s => .str s
  | .tup l => .tuple (V.pys l)
  | .ref _ => .list []
noncomputable def V.pys : List V → List PyData
  | [] => []
  | v :: l => V.py v :: V.pys l
end
noncomputable def pyAt (σ : AS) : V → PyData
  | .ref a => match σ a with
    | some (.list l) => .list (V.pys l)
    | _ => .none
  | v => v.py
mutual
noncomputable def V.flat : V → Bool
  | .tup l => V.flats l
  | .ref _ => false
  | _ => true
noncomputable def V.flats : List V → Bool
  | [] => true
  | v :: l => V.flat v && V.flats l
end
mutual
noncomputable def V.dep : V → Nat
  | .tup l => V.deps l + 1
  | _ => 0
noncomputable def V.deps : List V → Nat
  | [] => 0
  | v :: l => max (V.dep v) (V.deps l)
end
noncomputable def eqOk (σ : AS) (v : V) : Prop := match v with
  | .ref a => ∃ l, σ a = some (.list l) ∧ V.flats l = true ∧ V.deps l ≤ 60
  | v => v.flat = true ∧ v.dep ≤ 60
noncomputable def plainB (v : V) : Bool := v.flat && decide (v.dep ≤ 60)
noncomputable def plainsB (l : List V) : Bool := V.flats l && decide (V.deps l ≤ 60)
noncomputable def listB (o : Option AO) : Bool := match o with
  | some (.list l) => plainsB l
  | _ => false
noncomputable def eqB (σ : AS) (v : V) : Bool := match v with
  | .ref a => listB (σ a)
  | v => plainB v
noncomputable def anew (C : Cx) (o : AO) (σ : AS) (Q : PQ) : Prop := ∀ c, σ c = none → C.ro c = none → Q (.ref c) (σ.set c o)
noncomputable def onInt (v : V) (k : Int → Prop) : Prop := match v with
  | .int i => k i
  | _ => False
noncomputable def onStr (v : V) (k : Str → Prop) : Prop := match v with
  | .str i => k i
  | _ => False
noncomputable def onTup (v : V) (k : List V → Prop) : Prop := match v with
  | .tup i => k i
  | _ => False
noncomputable def onRef (v : V) (k : Addr → Prop) : Prop := match v with
  | .ref i => k i
  | _ => False
noncomputable def onBool (v : V) (k : Bool → Prop) : Prop := match v with
  | .bool i => k i
  | _ => False
noncomputable def onNone (v : V) (k : Prop) : Prop := match v with
  | .none => k
  | _ => False
noncomputable def on4 (v : V) (ki : Int → Prop) (ks : Str → Prop) (kt : List V → Prop) (kr : Addr → Prop) : Prop := match v with
  | .int i => ki i
  | .str x => ks x
  | .tup l => kt l
  | .ref a => kr a
  | _ => False
noncomputable def on0 (vs : List V) (k : Prop) : Prop := match vs with
  | [] => k
  | _ => False
noncomputable def on1 (vs : List V) (k : V → Prop) : Prop := match vs with
  | [] => False
  | v :: r => on0 r (k v)
noncomputable def on2 (vs : List V) (k : V → V → Prop) : Prop := match vs with
  | [] => False
  | v :: r => on1 r (k v)
noncomputable def on12 (vs : List V) (k₁ : V → Prop) (k₂ : V → V → Prop) : Prop := match vs with
  | [] => False
  | v :: r => match r with
    | [] => k₁ v
    | u :: r => on0 r (k₂ v u)
theorem onInt_inv {v : V} {k : Int → Prop} (h : onInt v k) : ∃ i, v = .int i ∧ k i := by cases v <;> first | exact False.elim h | exact ⟨_, rfl, h⟩
theorem onStr_inv {v : V} {k : Str → Prop} (h : onStr v k) : ∃ i, v = .str i ∧ k i := by cases v <;> first | exact False.elim h | exact ⟨_, rfl, h⟩
theorem onTup_inv {v : V} {k : List V → Prop} (h : onTup v k) : ∃ i, v = .tup i ∧ k i := by cases v <;> first | exact False.elim h | exact ⟨_, rfl, h⟩
theorem onRef_inv {v : V} {k : Addr → Prop} (h : onRef v k) : ∃ i, v = .ref i ∧ k i := by cases v <;> first | exact False.elim h | exact ⟨_, rfl, h⟩
theorem onBool_inv {v : V} {k : Bool → Prop} (h : onBool v k) : ∃ i, v = .bool i ∧ k i := by cases v <;> first | exact False.elim h | exact ⟨_, rfl, h⟩
theorem onNone_inv {v : V} {k : Prop} (h : onNone v k) : v = .none ∧ k := by cases v <;> first | exact False.elim h | exact ⟨rfl, h⟩
theorem on4_inv {v : V} {ki : Int → Prop} {ks : Str → Prop} {kt : List V → Prop} {kr : Addr → Prop} (h : on4 v ki ks kt kr) :
    (∃ i, v = .int i ∧ ki i) ∨ (∃ i, v = .str i ∧ ks i) ∨ (∃ i, v = .tup i ∧ kt i) ∨ ∃ i, v = .ref i ∧ kr i := by
  cases v <;> first | exact False.elim h | exact .inl ⟨_, rfl, h⟩ | exact .inr (.inl ⟨_, rfl, h⟩) | exact .inr (.inr (.inl ⟨_, rfl, h⟩)) | exact .inr (.inr (.inr ⟨_, rfl, h⟩))
theorem on0_inv {vs : List V} {k : Prop} (h : on0 vs k) : vs = [] ∧ k := by cases vs <;> first | exact False.elim h | exact ⟨rfl, h⟩
theorem on1_inv {vs : List V} {k : V → Prop} (h : on1 vs k) : ∃ v, vs = [v] ∧ k v := by
  cases vs with
  | nil => exact False.elim h
  | cons v r => obtain ⟨rfl, h⟩ := on0_inv (vs := r) h; exact ⟨v, rfl, h⟩
theorem on2_inv {vs : List V} {k : V → V → Prop} (h : on2 vs k) : ∃ v u, vs = [v, u] ∧ k v u := by
  cases vs with
  | nil => exact False.elim h
  | cons v r => obtain ⟨u, rfl, h⟩ := on1_inv (vs := r) h; exact ⟨v, u, rfl, h⟩
theorem on12_inv {vs : List V} {k₁ : V → Prop} {k₂ : V → V → Prop} (h : on12 vs k₁ k₂) : (∃ v, vs = [v] ∧ k₁ v) ∨ ∃ v u, vs = [v, u] ∧ k₂ v u := by
  cases vs with
  | nil => exact False.elim h
  | cons v r => cases r with
    | nil => exact .inl ⟨v, rfl, h⟩
    | cons u r => obtain ⟨rfl, h⟩ := on0_inv (vs := r) h; exact .inr ⟨v, u, rfl, h⟩
noncomputable def oS {α : Type} (o : Option α) (k : α → Prop) : Prop := match o with
  | some a => k a
  | none => False
noncomputable def onB (c : Bool) (A B : Prop) : Prop := match c with
  | true => A
  | false => B
noncomputable def oL (o : Option AO) (k : List V → Prop) : Prop := oS o fun x => match x with
  | .list l => k l
  | _ => False
noncomputable def oDi (o : Option AO) (k : List (Int × V) → Prop) : Prop := oS o fun x => match x with
  | .di l => k l
  | _ => False
noncomputable def oDs (o : Option AO) (k : List (Str × V) → Prop) : Prop := oS o fun x => match x with
  | .ds l => k l
  | _ => False
noncomputable def oI (o : Option AO) (k : Addr → Addr → Prop) : Prop := oS o fun x => match x with
  | .inst K dx => k K dx
  | _ => False
noncomputable def oF (o : Option AO) (k : List (Str × V) → Prop) : Prop := oS o fun x => match x with
  | .fld l => k l
  | _ => False
noncomputable def oLD (o : Option AO) (k : List V → Prop) (kd : List (Int × V) → Prop) : Prop := oS o fun x => match x with
  | .list l => k l
  | .di l => kd l
  | _ => False
theorem oS_inv {α : Type} {o : Option α} {k : α → Prop} (h : oS o k) : ∃ a, o = some a ∧ k a := by cases o <;> first | exact False.elim h | exact ⟨_, rfl, h⟩
theorem oS_i {α : Type} {o : Option α} {k : α → Prop} {a : α} (h : o = some a) (q : k a) : oS o k := by cases h; exact q
theorem onB_inv {c : Bool} {A : Prop} (h : onB c A False) : c = true ∧ A := by cases c <;> first | exact False.elim h | exact ⟨rfl, h⟩
theorem onB_i {c : Bool} {A B : Prop} (h : c = true) (q : A) : onB c A B := by cases h; exact q
theorem onB_n {c : Bool} {A B : Prop} (h : c = false) (q : B) : onB c A B := by cases h; exact q
theorem onB_of {c : Bool} {A B : Prop} (h : c = true → A) (h' : c = false → B) : onB c A B := by cases c <;> first | exact h rfl | exact h' rfl
theorem oL_inv {o : Option AO} {k : List V → Prop} (h : oL o k) : ∃ l, o = some (.list l) ∧ k l := by
  obtain ⟨x, rfl, h⟩ := oS_inv h
  cases x <;> first | exact False.elim h | exact ⟨_, rfl, h⟩
theorem oL_i {o : Option AO} {k : List V → Prop} {l : List V} (h : o = some (.list l)) (q : k l) : oL o k := by cases h; exact q
theorem oDi_inv {o : Option AO} {k : List (Int × V) → Prop} (h : oDi o k) : ∃ l, o = some (.di l) ∧ k l := by
  obtain ⟨x, rfl, h⟩ := oS_inv h
  cases x <;> first | exact False.elim h | exact ⟨_, rfl, h⟩
theorem oDi_i {o : Option AO} {k : List (Int × V) → Prop} {l : List (Int × V)} (h : o = some (.di l)) (q : k l) : oDi o k := by cases h; exact q
theorem oDs_inv {o : Option AO} {k : List (Str × V) → Prop} (h : oDs o k) : ∃ l, o = some (.ds l) ∧ k l := by
  obtain ⟨x, rfl, h⟩ := oS_inv h
  cases x <;> first | exact False.elim h | exact ⟨_, rfl, h⟩
theorem oDs_i {o : Option AO} {k : List (Str × V) → Prop} {l : List (Str × V)} (h : o = some (.ds l)) (q : k l) : oDs o k := by cases h; exact q
theorem oI_inv {o : Option AO} {k : Addr → Addr → Prop} (h : oI o k) : ∃ K dx, o = some (.inst K dx) ∧ k K dx := by
  obtain ⟨x, rfl, h⟩ := oS_inv h
  cases x <;> first | exact False.elim h | exact ⟨_, _, rfl, h⟩
theorem oI_i {o : Option AO} {k : Addr → Addr → Prop} {K dx : Addr} (h : o = some (.inst K dx)) (q : k K dx) : oI o k := by cases h; exact q
theorem oF_inv {o : Option AO} {k : List (Str × V) → Prop} (h : oF o k) : ∃ l, o = some (.fld l) ∧ k l := by
  obtain ⟨x, rfl, h⟩ := oS_inv h
  cases x <;> first | exact False.elim h | exact ⟨_, rfl, h⟩
theorem oF_i {o : Option AO} {k : List (Str × V) → Prop} {l : List (Str × V)} (h : o = some (.fld l)) (q : k l) : oF o k := by cases h; exact q
theorem oLD_inv {o : Option AO} {k : List V → Prop} {kd : List (Int × V) → Prop} (h : oLD o k kd) : (∃ l, o = some (.list l) ∧ k l) ∨ ∃ l, o = some (.di l) ∧ kd l := by
  obtain ⟨x, rfl, h⟩ := oS_inv h
  cases x <;> first | exact False.elim h | exact .inl ⟨_, rfl, h⟩ | exact .inr ⟨_, rfl, h⟩
theorem oLD_l {o : Option AO} {k : List V → Prop} {kd : List (Int × V) → Prop} {l : List V} (h : o = some (.list l)) (q : k l) : oLD o k kd := by cases h; exact q
theorem oLD_d {o : Option AO} {k : List V → Prop} {kd : List (Int × V) → Prop} {l : List (Int × V)} (h : o = some (.di l)) (q : kd l) : oLD o k kd := by cases h; exact q
noncomputable def abin (C : Cx) (op : Operator) (v u : V) (σ : AS) (Q : PQ) : Prop := match op with
  | .Add => on4 v (fun a => onInt u fun b => Q (.int (a + b)) σ) (fun a => onStr u fun b => onB (decide (a.length + b.length ≤ strMost)) (Q (.str (a ++ b)) σ) False)
      (fun a => onTup u fun b => onB (decide (a.length + b.length ≤ seqMost)) (Q (.tup (a ++ b)) σ) False)
      (fun a => onRef u fun b => oL (σ a) fun l => oL (σ b) fun r => onB (decide (l.length + r.length ≤ seqMost)) (anew C (.list (l ++ r)) σ Q) False)
  | .Sub => onInt v fun a => onInt u fun b => Q (.int (a - b)) σ
  | .Mult => onInt v fun a => onInt u fun b => (a.natAbs < 2 ^ 64 ∨ a.natAbs < 2 ^ 1000 ∧ b.natAbs < 2 ^ 1000) ∧ Q (.int (a * b)) σ
  | .FloorDiv => onInt v fun a => onInt u fun b => b ≠ 0 ∧ b.natAbs < 2 ^ 1000 ∧ Q (.int (a.fdiv b)) σ
  | .Mod => onInt v fun a => onInt u fun b => b ≠ 0 ∧ Q (.int (a.fmod b)) σ
  | .Pow => onInt v fun a => onInt u fun b => b = 3 ∧ a.natAbs < 2 ^ 1000 ∧ Q (.int (a ^ 3)) σ ∨ a = 10 ∧ b = 18 ∧ Q (.int (10 ^ 18)) σ
  | _ => False
noncomputable def aneg (v : V) (σ : AS) (Q : PQ) : Prop := onInt v fun i => Q (.int (-i)) σ
noncomputable def atruth (σ : AS) (v : V) (Q : Bool → Prop) : Prop := match v with
  | .none => Q false
  | .bool b => Q b
  | .int i => Q (i != 0)
  | .str s => Q (!(s == Str.ofString ""))
  | .tup l => Q (!l.isEmpty)
  | .ref a => oL (σ a) fun l => Q (!l.isEmpty)
noncomputable def Cx.look (C : Cx) (σ : AS) (a : Addr) : Option AO := match σ a with
  | some o => some o
  | none => C.ro a
noncomputable def V.isNone : V → Bool
  | .none => true
  | _ => false
noncomputable def aord (p : Int → Int → Bool) (v u : V) (σ : AS) (Q : PQ) : Prop :=
  on4 v (fun a => onInt u fun b => Q (.bool (p a b)) σ) (fun _ => onStr u fun _ => ∀ b, Q (.bool b) σ) (fun _ => False) (fun _ => False)
noncomputable def acmp (C : Cx) (op : CmpOp) (v u : V) (σ : AS) (Q : PQ) : Prop := match op with
  | .Eq => onB (eqB σ v && eqB σ u) (Q (.bool (PyData.eqv (pyAt σ v) (pyAt σ u))) σ) False
  | .NotEq => onB (eqB σ v && eqB σ u) (Q (.bool (!PyData.eqv (pyAt σ v) (pyAt σ u))) σ) False
  | .Lt => aord (fun a b => decide (a < b)) v u σ Q
  | .LtE => aord (fun a b => decide (a ≤ b)) v u σ Q
  | .Gt => aord (fun a b => decide (a > b)) v u σ Q
  | .GtE => aord (fun a b => decide (a ≥ b)) v u σ Q
  | .Is => onNone u (Q (.bool v.isNone) σ)
  | .IsNot => onNone u (Q (.bool !v.isNone) σ)
  | .In => on4 u (fun _ => False) (fun _ => onStr v fun _ => ∀ b, Q (.bool b) σ)
      (fun l => onB (plainB v && plainsB l) (Q (.bool ((V.pys l).any fun d => PyData.eqv d v.py)) σ) False)
      (fun a => on4 v (fun x => oDi (C.look σ a) fun es => Q (.bool (es.lookup x).isSome) σ) (fun x => oDs (C.look σ a) fun es => Q (.bool (es.lookup x).isSome) σ) (fun _ => False) (fun _ => False))
  | _ => False
noncomputable def aidx (C : Cx) (v u : V) (σ : AS) (Q : PQ) : Prop := on4 u
  (fun i => on4 v (fun _ => False) (fun s => onB (decide (0 ≤ i) && decide (i < s.length)) (Q (.str ⟨#[s.cps[i.toNat]!]⟩) σ) False) (fun l => onB (decide (0 ≤ i)) (oS (l[i.toNat]?) fun x => Q x σ) False)
    (fun a => oLD (σ a) (fun l => onB (decide (0 ≤ i)) (oS (l[i.toNat]?) fun x => Q x σ) False) (fun es => oS (es.lookup i) fun x => Q x σ)))
  (fun i => onRef v fun a => oDs (C.look σ a) fun es => oS (es.lookup i) fun x => Q x σ) (fun _ => False) (fun _ => False)
noncomputable def cutL {α : Type} (l : List α) (lo up : Option Int) : List α :=
  (match up with | some u => l.take u.toNat | none => l).drop (lo.elim 0 Int.toNat)
noncomputable def cutOk : Option Int → Prop
  | some i => 0 ≤ i ∧ i ≤ 2 ^ 40
  | none => True
noncomputable def cutS (s : Str) (lo up : Option Int) : Str := ⟨(cutL s.cps.toList lo up).toArray⟩
noncomputable def aslice (C : Cx) (v : V) (lo up : Option Int) (σ : AS) (Q : PQ) : Prop := cutOk lo ∧ cutOk up ∧ on4 v (fun _ => False)
  (fun s => s.length ≤ strMost ∧ Q (.str (cutS s lo up)) σ) (fun l => Q (.tup (cutL l lo up)) σ) (fun a => oL (C.look σ a) fun l => anew C (.list (cutL l lo up)) σ Q)
noncomputable def arev (v : V) (σ : AS) (Q : PQ) : Prop := onTup v fun l => Q (.tup l.reverse) σ
noncomputable def put {K : Type} [BEq K] (es : List (K × V)) (k : K) (v : V) : List (K × V) := match es with
  | [] => [(k, v)]
  | (k', x) :: r => if k' == k then (k', v) :: r else (k', x) :: put r k v
inductive MN where
  | append | extend | pop | get | setdefault | bitlen | join | split
inductive MK where
  | ty (T : String)
  | own (K : Addr)
noncomputable def mkind (C : Cx) (σ : AS) : V → Option MK
  | .int _ => some (.ty "int")
  | .str _ => some (.ty "str")
  | .ref a => match σ a with
    | some (.list _) => some (.ty "list")
    | some (.di _) => some (.ty "dict")
    | some (.ds _) => some (.ty "dict")
    | some (.inst K _) => some (.own K)
    | some (.fld _) => none
    | none => match C.ro a with
      | some (.ds _) => some (.ty "dict")
      | _ => none
  | _ => none
noncomputable def mfree (σ : AS) (v : V) (x : Str) : Prop := match v with
  | .ref a => ∀ K dx, σ a = some (.inst K dx) → ∃ fs, σ dx = some (.fld fs) ∧ fs.lookup x = none
  | _ => True
noncomputable def mname (T : String) (x : Str) : Option MN :=
  if T == "list" then (if x == "append" then some .append else if x == "extend" then some .extend else if x == "pop" then some .pop else none)
  else if T == "dict" then (if x == "get" then some .get else if x == "setdefault" then some .setdefault else none)
  else if T == "int" then (if x == "bit_length" then some .bitlen else none)
  else if T == "str" then (if x == "join" then some .join else if x == "split" then some .split else none)
  else none
noncomputable def mok (C : Cx) (kd : MK) (x : Str) : Prop := match kd with
  | .ty T => (mname T x).isSome = true
  | .own K => (C.Me K x).isSome = true
noncomputable def metG (C : Cx) (σ : AS) (v : V) (x : Str) (k : MK → Prop) : Prop := ∃ kd, mkind C σ v = some kd ∧ mfree σ v x ∧ mok C kd x ∧ k kd
noncomputable def abm (C : Cx) (mn : MN) (v : V) (vs : List V) (σ : AS) (Q : PQ) : Prop := match mn with
  | .append => onRef v fun a => on1 vs fun x => oL (σ a) fun l => l.length < seqMost ∧ Q .none (σ.set a (.list (l ++ [x])))
  | .extend => onRef v fun a => on1 vs fun y => onRef y fun b => oL (σ a) fun l => oL (σ b) fun r => (a ≠ b ∧ l.length + r.length ≤ seqMost) ∧ Q .none (σ.set a (.list (l ++ r)))
  | .pop => onRef v fun a => on0 vs (∃ r x, σ a = some (.list (r ++ [x])) ∧ Q x (σ.set a (.list r)))
  | .get => onRef v fun a => on12 vs (fun x => onStr x fun k => oDs (C.look σ a) fun es => Q ((es.lookup k).getD .none) σ)
      (fun x d => on4 x (fun k => oDi (σ a) fun es => Q ((es.lookup k).getD d) σ) (fun k => oDs (C.look σ a) fun es => Q ((es.lookup k).getD d) σ) (fun _ => False) (fun _ => False))
  | .setdefault => onRef v fun a => on2 vs fun x d => onInt x fun k => oDi (σ a) fun es => es.length ≤ 1000 ∧ Q ((es.lookup k).getD d) (σ.set a (.di (match es.lookup k with | some _ => es | none => es ++ [(k, d)])))
  | .bitlen => onInt v fun i => on0 vs (Q (.int (Builtin.Int.intBits i)) σ)
  | .join => onStr v fun sep => on1 vs fun y => onRef y fun a => ∃ ss : List Str, σ a = some (.list (ss.map .str)) ∧ JoinOk sep ss = true ∧ Q (.str (Txt.join sep ss)) σ
  | .split => onStr v fun x => on1 vs fun z => onStr z fun y => y = Str.ofString "\n" ∧ x.length ≤ 90000 ∧ anew C (.list ((Txt.split x y).map .str)) σ Q
noncomputable def ameth (C : Cx) (kd : MK) (name : Str) (o : V) (vs : List V) (σ : AS) (Q : PQ) (E : PXx) : Prop := match kd with
  | .own K => oS (C.Me K name) fun sp => sp (o :: vs) σ Q E
  | .ty T => oS (mname T name) fun mn => abm C mn o vs σ Q
inductive BK where
  | len | int | str | repr | abs | max | list | sorted | tuple | ord
noncomputable def bkind (x : Str) : Option BK :=
  if x == "len" then some .len else if x == "int" then some .int else if x == "str" then some .str else if x == "repr" then some .repr else if x == "abs" then some .abs
  else if x == "max" then some .max else if x == "list" then some .list else if x == "sorted" then some .sorted else if x == "tuple" then some .tuple else if x == "ord" then some .ord
  else none
noncomputable def oLn (o r : Option AO) (k : List V → Prop) (kd : List (Str × V) → Prop) : Prop := match o with
  | some x => oL (some x) k
  | none => oDs r kd
noncomputable def abi (C : Cx) (k : BK) (vs : List V) (σ : AS) (Q : PQ) : Prop := match k with
  | .len => on1 vs fun v => on4 v (fun _ => False) (fun s => Q (.int s.length) σ) (fun l => Q (.int l.length) σ)
      (fun a => oLn (σ a) (C.ro a) (fun l => Q (.int l.length) σ) fun es => es.length ≤ 1000 ∧ Q (.int es.length) σ)
  | .int => on1 vs fun v => onBool v fun b => Q (.int (if b then 1 else 0)) σ
  | .abs => on1 vs fun v => onInt v fun i => Q (.int i.natAbs) σ
  | .max => on12 vs (fun v => onRef v fun a => ∃ ns : List Int, σ a = some (.list (ns.map .int)) ∧ ns ≠ [] ∧ ∀ m ∈ ns, (∀ x ∈ ns, x ≤ m) → Q (.int m) σ)
      (fun v u => onInt v fun a => onInt u fun b => Q (.int (if b > a then b else a)) σ)
  | .list => on1 vs fun v => on4 v (fun _ => False) (fun _ => False) (fun l => anew C (.list l) σ Q) (fun a => oL (σ a) fun l => anew C (.list l) σ Q)
  | .tuple => on1 vs fun v => onRef v fun a => oL (σ a) fun l => Q (.tup l) σ
  | .str => on1 vs fun v => onInt v fun i => i.natAbs < 2 ^ 1900 ∧ Q (.str (Str.ofString (toString i))) σ
  | .repr => on1 vs fun v => onStr v fun s => SF (PySem.reprText s) ∧ (PySem.reprText s).length ≤ strMost ∧ Q (.str (PySem.reprText s)) σ
  | .sorted => on1 vs fun v => onRef v fun a => ∃ es, σ a = none ∧ C.ro a = some (.ds es) ∧ es.length < 64 ∧ (∀ x ∈ es, SF x.1) ∧ ∀ l : List Str, l.Perm (es.map (·.1)) → anew C (.list (l.map .str)) σ Q
  | .ord => on1 vs fun v => onStr v fun s => s.length = 1 ∧ ∀ n : Int, 0 ≤ n → n < 1114112 → Q (.int n) σ
noncomputable def V.isRef : V → Bool
  | .ref _ => true
  | _ => false
noncomputable def isOf (T : Str) (v : V) : Bool := match v with
  | .int _ | .bool _ => T == "int"
  | .str _ => T == "str"
  | .tup _ => T == "tuple"
  | _ => false
noncomputable def isAny (v : V) : List Str → Bool
  | [] => false
  | t :: r => match r with
    | [] => isOf t v
    | _ :: _ => isOf t v || isAny v r
theorem nb {b : Bool} (h : (!b) = true) : b = false := by cases b <;> first | rfl | exact bft h
noncomputable def aattr (C : Cx) (v : V) (x : Str) (σ : AS) (Q : PQ) : Prop := match v with
  | .ref a => oI (σ a) fun K dx => onB (C.F K x) (oF (σ dx) fun fs => oS (fs.lookup x) fun u => Q u σ) False
  | _ => False
inductive Dep where
  | free
  | list (a : Addr) (l : List V)
noncomputable def Dep.ok : Dep → AS → Prop
  | .free, _ => True
  | .list a l, σ => σ a = some (.list l)
noncomputable def chars (s : Str) : List V := s.cps.toList.map fun c => .str ⟨#[c]⟩
noncomputable def enumV : Nat → List V → List V
  | _, [] => []
  | n, v :: l => .tup [.int n, v] :: enumV (n + 1) l
noncomputable def rangeV (n : Int) : List V := (List.range n.toNat).map fun (i : Nat) => V.int (i : Int)
noncomputable def aiter (v : V) (σ : AS) (Q : List V → Dep → Prop) : Prop := match v with
  | .tup l => Q l .free
  | .str s => s.length ≤ strMost ∧ Q (chars s) .free
  | .ref a => oL (σ a) fun l => Q l (.list a l)
  | _ => False
mutual
inductive RE where
  | cst (c : V)
  | loc (i : Nat)
  | glb (x : Str)
  | bin (op : Operator) (l r : RE)
  | neg (e : RE)
  | not (e : RE)
  | ife (t b o : RE)
  | and (l : RL)
  | or (l : RL)
  | cmp (op : CmpOp) (l r : RE)
  | cmp2 (op₁ op₂ : CmpOp) (l m r : RE)
  | tup (l : RL)
  | lst (l : RL)
  | di1 (k : Int) (v : RE)
  | ds1 (k : Str) (v : RE)
  | ds5 (k₁ k₂ k₃ k₄ k₅ : Str) (l : RL)
  | sub (o i : RE)
  | sli (o : RE) (lo up : RO)
  | rev (o : RE)
  | att (o : RE) (x : Str)
  | call (g : Str) (l : RL)
  | bi (k : BK) (l : RL)
  | isi (e : RE) (ts : List Str)
  | met (o : RE) (x : Str) (l : RL)
  | comp (mp : List (Option Nat)) (src : RI) (t : Nat) (c : RO) (elt : RE)
  | dvals (d : Nat)
inductive RL where
  | nil
  | cons (e : RE) (l : RL)
inductive RO where
  | no
  | some (e : RE)
inductive RI where
  | rng (e : RE)
  | enm (e : RE)
  | val (e : RE)
end
mutual
inductive RS where
  | exp (e : RE)
  | setl (i : Nat) (e : RE)
  | seta (o : RE) (x : Str) (e : RE)
  | seti (o i e : RE)
  | set2 (i j : Nat) (e : RE)
  | sets (is : List Nat) (es : RL)
  | ife (t : RE) (b o : RP)
  | ret (e : RE)
  | cont
  | whl (t : RE) (b : RP)
  | for1 (i : Nat) (src : RI) (b : RP)
  | for2 (i j : Nat) (src : RI) (b : RP)
  | rai (c : Str) (e : RE)
  | try0 (b : RP) (c : Str) (i : Nat) (v : Bool)
  | try1 (b : RP) (c : Str) (z : Nat) (t : Str) (r : Bool)
inductive RP where
  | nil
  | cons (s : RS) (r : RP)
end
noncomputable abbrev onN (r : RL) (A B : Prop) : Prop := match r with
  | .nil => A
  | .cons _ _ => B
noncomputable abbrev onC (c : Bool) (A B : Prop) : Prop := match c with
  | true => A
  | false => B
theorem onC_inv {c : Bool} {A : Prop} (h : onC c A False) : c = true ∧ A := onB_inv h
noncomputable def RL.len : RL → Nat
  | .nil => 0
  | .cons _ l => l.len + 1
theorem nil_len {l : RL} {A B : Prop} (h : l.len ≠ 0) (q : onN l A B) : B := by cases l <;> first | exact q | exact absurd rfl h
noncomputable def innerM (mp : List (Option Nat)) (m : M) : M := mp.map fun x => match x with | some i => (m[i]?).getD none | none => none
mutual
noncomputable def rev (C : Cx) : RE → M → AS → PQ → PXx → Prop
  | .cst c, m, σ, Q, E => Q c σ
  | .loc i, m, σ, Q, E => oS (m[i]?) fun o => oS o fun v => Q v σ
  | .glb x, m, σ, Q, E => oS (C.G x) fun v => Q v σ
  | .bin op l r, m, σ, Q, E => rev C l m σ (fun v σ₁ => rev C r m σ₁ (fun u σ₂ => abin C op v u σ₂ Q) E) E
  | .neg e, m, σ, Q, E => rev C e m σ (fun v σ₁ => aneg v σ₁ Q) E
  | .not e, m, σ, Q, E => rev C e m σ (fun v σ₁ => atruth σ₁ v fun b => Q (.bool !b) σ₁) E
  | .ife t b o, m, σ, Q, E => rev C t m σ (fun v σ₁ => atruth σ₁ v fun c => onB c (rev C b m σ₁ Q E) (rev C o m σ₁ Q E)) E
  | .and l, m, σ, Q, E => randv C l m σ Q E
  | .or l, m, σ, Q, E => rorv C l m σ Q E
  | .cmp op l r, m, σ, Q, E => rev C l m σ (fun v σ₁ => rev C r m σ₁ (fun u σ₂ => acmp C op v u σ₂ Q) E) E
  | .cmp2 op₁ op₂ l r₁ r₂, m, σ, Q, E => rev C l m σ (fun v σ₁ => rev C r₁ m σ₁ (fun u σ₂ => acmp C op₁ v u σ₂ fun c σ₃ => atruth σ₃ c fun b =>
        onB b (rev C r₂ m σ₃ (fun z σ₄ => acmp C op₂ u z σ₄ Q) E) (Q c σ₃)) E) E
  | .tup l, m, σ, Q, E => revs C l m σ (fun vs σ₁ => Q (.tup vs) σ₁) E
  | .lst l, m, σ, Q, E => revs C l m σ (fun vs σ₁ => anew C (.list vs) σ₁ Q) E
  | .di1 k v, m, σ, Q, E => rev C v m σ (fun x σ₁ => anew C (.di [(k, x)]) σ₁ Q) E
  | .ds1 k v, m, σ, Q, E => rev C v m σ (fun x σ₁ => anew C (.ds [(k, x)]) σ₁ Q) E
  | .ds5 k₁ k₂ k₃ k₄ k₅ l, m, σ, Q, E => revs C l m σ (fun xs σ₁ => anew C (.ds ([k₁, k₂, k₃, k₄, k₅].zip xs)) σ₁ Q) E
  | .sub o i, m, σ, Q, E => rev C o m σ (fun v σ₁ => rev C i m σ₁ (fun x σ₂ => aidx C v x σ₂ Q) E) E
  | .sli o lo up, m, σ, Q, E => rev C o m σ (fun v σ₁ => revo C lo m σ₁ (fun a σ₂ => revo C up m σ₂ (fun b σ₃ => aslice C v a b σ₃ Q) E) E) E
  | .rev o, m, σ, Q, E => rev C o m σ (fun v σ₁ => arev v σ₁ Q) E
  | .att o x, m, σ, Q, E => rev C o m σ (fun v σ₁ => aattr C v x σ₁ Q) E
  | .call g l, m, σ, Q, E => oS (C.S g) fun sp => revs C l m σ (fun vs σ₁ => sp vs σ₁ Q E) E
  | .bi k l, m, σ, Q, E => revs C l m σ (fun vs σ₁ => abi C k vs σ₁ Q) E
  | .isi e ts, m, σ, Q, E => rev C e m σ (fun v σ₁ => onB (!v.isRef) (Q (.bool (isAny v ts)) σ₁) False) E
  | .met o x l, m, σ, Q, E => rev C o m σ (fun v σ₁ => metG C σ₁ v x fun kd => revs C l m σ₁ (fun vs σ₂ => ameth C kd x v vs σ₂ Q E) E) E
  | .comp mp src t c elt, m, σ, Q, E => rsrc C src m σ (fun items dep σ₁ =>
        ∃ I : Nat → List V → AS → Prop, I 0 [] σ₁ ∧ items.length ≤ 1000 ∧ (∀ i acc σ₂, I i acc σ₂ → dep.ok σ₂ ∧ acc.length ≤ i) ∧
          (∀ i acc σ₂ x, items[i]? = some x → I i acc σ₂ →
            rcond C c ((innerM mp m).set t (some x)) σ₂ (fun b σ₃ => onB b (rev C elt ((innerM mp m).set t (some x)) σ₃ (fun v σ₄ => I (i + 1) (acc ++ [v]) σ₄) (fun _ _ => False)) (I (i + 1) acc σ₃)) (fun _ _ => False)) ∧
          (∀ acc σ₂, I items.length acc σ₂ → anew C (.list acc) σ₂ Q)) E
  | .dvals d, m, σ, Q, E => oS (m[d]?) fun o => oS o fun v => onRef v fun a => oDi (σ a) fun es => es.length ≤ 1000 ∧ anew C (.list (es.map (·.2))) σ Q
noncomputable def rcond (C : Cx) : RO → M → AS → (Bool → AS → Prop) → PXx → Prop
  | .no, m, σ, Q, E => Q true σ
  | .some e, m, σ, Q, E => rev C e m σ (fun v σ₁ => atruth σ₁ v fun b => Q b σ₁) E
noncomputable def revo (C : Cx) : RO → M → AS → (Option Int → AS → Prop) → PXx → Prop
  | .no, m, σ, Q, E => Q none σ
  | .some e, m, σ, Q, E => rev C e m σ (fun v σ₁ => onInt v fun i => Q (some i) σ₁) E
noncomputable def revs (C : Cx) : RL → M → AS → (List V → AS → Prop) → PXx → Prop
  | .nil, m, σ, Q, E => Q [] σ
  | .cons e r, m, σ, Q, E => rev C e m σ (fun v σ₁ => revs C r m σ₁ (fun vs σ₂ => Q (v :: vs) σ₂) E) E
noncomputable def randv (C : Cx) : RL → M → AS → PQ → PXx → Prop
  | .nil, m, σ, Q, E => False
  | .cons e r, m, σ, Q, E => onN r (rev C e m σ Q E) (rev C e m σ (fun v σ₁ => atruth σ₁ v fun b => onB b (randv C r m σ₁ Q E) (Q v σ₁)) E)
noncomputable def rorv (C : Cx) : RL → M → AS → PQ → PXx → Prop
  | .nil, m, σ, Q, E => False
  | .cons e r, m, σ, Q, E => onN r (rev C e m σ Q E) (rev C e m σ (fun v σ₁ => atruth σ₁ v fun b => onB b (Q v σ₁) (rorv C r m σ₁ Q E)) E)
noncomputable def rsrc (C : Cx) : RI → M → AS → (List V → Dep → AS → Prop) → PXx → Prop
  | .rng e, m, σ, Q, E => rev C e m σ (fun v σ₁ => onInt v fun i => (0 ≤ i ∧ i ≤ 1000) ∧ Q (rangeV i) .free σ₁) E
  | .enm e, m, σ, Q, E => rev C e m σ (fun v σ₁ => onRef v fun a => oL (σ₁ a) fun l => l.length ≤ 1000 ∧ Q (enumV 0 l) (.list a l) σ₁) E
  | .val e, m, σ, Q, E => rev C e m σ (fun v σ₁ => aiter v σ₁ fun l d => Q l d σ₁) E
end
noncomputable def rte (C : Cx) (e : RE) (m : M) (σ : AS) (Q : Bool → AS → Prop) (E : PXx) : Prop := rev C e m σ (fun v σ₁ => atruth σ₁ v fun b => Q b σ₁) E
noncomputable def storeAt : List Nat → List V → M → (M → Prop) → Prop
  | [], [], m, Q => Q m
  | i :: r, v :: vs, m, Q => onC (decide (i < m.length)) (storeAt r vs (m.set i (some v)) Q) False
  | _, _, _, _ => False
mutual
noncomputable def rst (C : Cx) : RS → M → AS → Post → Prop
  | .exp e, m, σ, P => rev C e m σ (fun _ σ₁ => P.n m σ₁) (fun x σ₁ => P.x x m σ₁)
  | .setl i e, m, σ, P => rev C e m σ (fun v σ₁ => onC (decide (i < m.length)) (P.n (m.set i (some v)) σ₁) False) (fun x σ₁ => P.x x m σ₁)
  | .seta o x e, m, σ, P => rev C e m σ (fun v σ₁ => rev C o m σ₁ (fun w σ₂ => onRef w fun a => oI (σ₂ a) fun K dx => onB (C.F K x) (oF (σ₂ dx) fun fs => fs.length ≤ 20 ∧ P.n m (σ₂.set dx (.fld (put fs x v)))) False) (fun x σ₁ => P.x x m σ₁)) (fun x σ₁ => P.x x m σ₁)
  | .seti o i e, m, σ, P => rev C e m σ (fun v σ₁ => rev C o m σ₁ (fun w σ₂ => rev C i m σ₂ (fun j σ₃ => onRef w fun a => on4 j
      (fun j => oL (σ₃ a) fun l => (0 ≤ j ∧ j < l.length) ∧ P.n m (σ₃.set a (.list (l.set j.toNat v))))
      (fun j => oDs (σ₃ a) fun es => es.length ≤ 1000 ∧ P.n m (σ₃.set a (.ds (put es j v)))) (fun _ => False) (fun _ => False)) (fun x σ₁ => P.x x m σ₁)) (fun x σ₁ => P.x x m σ₁)) (fun x σ₁ => P.x x m σ₁)
  | .set2 i j e, m, σ, P => rev C e m σ (fun v σ₁ => onTup v fun l => on2 l fun a b => onC (decide (i < m.length) && decide (j < m.length)) (P.n ((m.set i (some a)).set j (some b)) σ₁) False) (fun x σ₁ => P.x x m σ₁)
  | .sets is es, m, σ, P => revs C es m σ (fun vs σ₁ => storeAt is.reverse vs.reverse m fun m' => P.n m' σ₁) (fun x σ₁ => P.x x m σ₁)
  | .ife t b o, m, σ, P => rte C t m σ (fun c σ₁ => onB c (rsts C b m σ₁ P) (rsts C o m σ₁ P)) (fun x σ₁ => P.x x m σ₁)
  | .ret e, m, σ, P => rev C e m σ P.r (fun x σ₁ => P.x x m σ₁)
  | .cont, m, σ, P => P.c m σ
  | .whl t b, m, σ, P => ∃ I : Nat → M → AS → Prop, (∃ k, I k m σ) ∧ ∀ k m₁ σ₁, I k m₁ σ₁ → rte C t m₁ σ₁ (fun c σ₂ => onB c (rsts C b m₁ σ₂ ⟨fun m₂ σ₃ => ∃ j, j < k ∧ I j m₂ σ₃, P.r, fun m₂ σ₃ => ∃ j, j < k ∧ I j m₂ σ₃, P.x⟩) (P.n m₁ σ₂)) (fun x σ₂ => P.x x m₁ σ₂)
  | .for1 t src b, m, σ, P => rsrc C src m σ (fun items dep σ₁ => ∃ I : Nat → M → AS → Prop, I 0 m σ₁ ∧ (∀ i m₂ σ₂, I i m₂ σ₂ → dep.ok σ₂) ∧
        (∀ i m₂ σ₂ x, items[i]? = some x → I i m₂ σ₂ → onC (decide (t < m₂.length)) (rsts C b (m₂.set t (some x)) σ₂ ⟨I (i + 1), P.r, I (i + 1), P.x⟩) False) ∧
        (∀ m₂ σ₂, I items.length m₂ σ₂ → P.n m₂ σ₂)) (fun x σ₁ => P.x x m σ₁)
  | .for2 t u src b, m, σ, P => rsrc C src m σ (fun items dep σ₁ => ∃ I : Nat → M → AS → Prop, I 0 m σ₁ ∧ (∀ i m₂ σ₂, I i m₂ σ₂ → dep.ok σ₂) ∧
        (∀ i m₂ σ₂ x, items[i]? = some x → I i m₂ σ₂ → onTup x fun l => on2 l fun a c => onC (decide (t < m₂.length) && decide (u < m₂.length)) (rsts C b ((m₂.set t (some a)).set u (some c)) σ₂ ⟨I (i + 1), P.r, I (i + 1), P.x⟩) False) ∧
        (∀ m₂ σ₂, I items.length m₂ σ₂ → P.n m₂ σ₂)) (fun x σ₁ => P.x x m σ₁)
  | .rai c e, m, σ, P => oS (C.X c) fun K => rev C e m σ (fun v σ₁ => onStr v fun _ => P.x ⟨K, v⟩ m σ₁) (fun x σ₁ => P.x x m σ₁)
  | .try0 b c i v, m, σ, P => oS (C.X c) fun K => i < m.length ∧
        rsts C b m σ ⟨P.n, P.r, P.c, fun x m₁ σ₁ => x.cls = K ∧ m₁.length = m.length ∧ P.n (m₁.set i (some (.bool v))) σ₁⟩
  | .try1 b c z t r, m, σ, P => oS (C.X c) fun K => z < m.length ∧
        rsts C b m σ ⟨P.n, P.r, P.c, fun x m₁ σ₁ => x.cls = K ∧ m₁.length = m.length ∧ ∃ s, x.what = .str s ∧ (s = t → P.r (.bool r) σ₁) ∧ (s ≠ t → P.n (m₁.set z none) σ₁)⟩
noncomputable def rsts (C : Cx) : RP → M → AS → Post → Prop
  | .nil, m, σ, P => P.n m σ
  | .cons s r, m, σ, P => rst C s m σ { P with n := fun m₁ σ₁ => rsts C r m₁ σ₁ P }
end
section
set_option backward.match.sparseCases false
noncomputable def NE.of (sc : Scope) : NE := (sc.names.filterMap fun x => match x.2 with | .local | .cell | .free => some x.1 | _ => none).zipIdx
noncomputable def sfB (s : Str) : Bool := PyData.strOk s && decide (s.length ≤ 2 ^ 40)
theorem sfB_ok {s : Str} (h : sfB s = true) : SF s := (Bool.and_eq_true_iff.mp h).imp id of_decide_eq_true
noncomputable def ocase {α β : Type} (x : Option α) (no : β) (so : α → β) : β := match x with
  | some a => so a
  | none => no
noncomputable def one {α : Type} : List α → Option α
  | [] => none
  | a :: r => match r with
    | [] => some a
    | _ :: _ => none
noncomputable def two {α : Type} : List α → Option (α × α)
  | [] => none
  | a :: r => (one r).map fun b => (a, b)
noncomputable def exSel {α : Type} (d : α) (e : Expr) (nm : Str → α := fun _ => d) (att : Expr → Str → α := fun _ _ => d) (cm : Expr → List CmpOp → List Expr → α := fun _ _ _ => d) (ct : Const → α := fun _ => d)
    (ca : Expr → List Expr → List Keyword → α := fun _ _ _ => d) (tu : List Expr → α := fun _ => d) (su : Expr → Expr → α := fun _ _ => d) (sl : Option Expr → Option Expr → Option Expr → α := fun _ _ _ => d)
    (un : UnaryOp → Expr → α := fun _ _ => d) (lc : Expr → List Comprehension → Scope → Pos → α := fun _ _ _ _ => d) : α := match e with
  | .Name x _ => nm x
  | .Attribute o x _ => att o x
  | .Compare l ops rs _ => cm l ops rs
  | .Constant c _ _ => ct c
  | .Call fe args kw _ => ca fe args kw
  | .Tuple es _ _ => tu es
  | .Subscript a b _ => su a b
  | .Slice lo up st _ => sl lo up st
  | .UnaryOp op x _ => un op x
  | .ListComp elt gens sc pos => lc elt gens sc pos
  | _ => d
noncomputable def asName (e : Expr) : Option Str := exSel none e (nm := some)
noncomputable def asAttr (e : Expr) : Option (Expr × Str) := exSel none e (att := fun o x => some (o, x))
noncomputable def asCmp (e : Expr) : Option (Expr × List CmpOp × List Expr) := exSel none e (cm := fun l ops rs => some (l, ops, rs))
noncomputable def asConst (e : Expr) : Option Const := exSel none e (ct := some)
noncomputable def asCall (e : Expr) : Option (Expr × List Expr × List Keyword) := exSel none e (ca := fun fe args kw => some (fe, args, kw))
noncomputable def asTuple (e : Expr) : Option (List Expr) := exSel none e (tu := some)
noncomputable def asSub (e : Expr) : Option (Expr × Expr) := exSel none e (su := fun a b => some (a, b))
noncomputable def asSlice (e : Expr) : Option (Option Expr × Option Expr × Option Expr) := exSel none e (sl := fun lo up st => some (lo, up, st))
noncomputable def asNeg (e : Expr) : Option Expr := exSel none e (un := fun op x => if op == .USub then some x else none)
noncomputable def asComp (e : Expr) : Option (Expr × List Comprehension × Scope × Pos) := exSel none e (lc := fun elt gens sc pos => some (elt, gens, sc, pos))
noncomputable def asAssign : Stmt → Option (List Expr × Expr)
  | .Assign ts e _ => some (ts, e)
  | _ => none
noncomputable def asRet : Stmt → Option (Option Expr)
  | .Return e _ => some e
  | _ => none
noncomputable def asIf : Stmt → Option (Expr × List Stmt × List Stmt)
  | .If t b o _ => some (t, b, o)
  | _ => none
noncomputable def cBool : Const → Option Bool
  | .bool b => some b
  | _ => none
noncomputable def cStr : Const → Option Str
  | .str b => some b
  | _ => none
noncomputable def asBoolC (e : Expr) : Option Bool := (asConst e).bind cBool
noncomputable def asStrC (e : Expr) : Option Str := (asConst e).bind cStr
noncomputable def callName1 (e : Expr) : Option (Str × Expr) := (asCall e).bind fun c => (asName c.1).bind fun g => (one c.2.1).bind fun x => if c.2.2.isEmpty then some (g, x) else none
noncomputable def asGen (g : Comprehension) : Option Str := if g.is_async == 0 then asName g.target else none
noncomputable def okBase (e : Expr) : Bool := ocase (asCall e) true fun c => !((asName c.1).isSome && c.2.1.isEmpty && c.2.2.isEmpty)
noncomputable def notSet (e : Expr) : Bool := !(e.ctorIdx == 7)
noncomputable def isG (ne : NE) (sc : Scope) (x : Str) : Bool := (ne.lookup x).isNone && sc.names.lookup x == some .globalImplicit && !(x == ("__debug__" : Str))
noncomputable def cC : Const → Option RE
  | .none => some (.cst .none)
  | .bool b => some (.cst (.bool b))
  | .int i => some (.cst (.int i))
  | .str s => if sfB s then some (.cst (.str s)) else none
  | _ => none
noncomputable def cN (ne : NE) (sc : Scope) (x : Str) : Option RE := ocase (ne.lookup x) (if isG ne sc x then some (.glb x) else none) fun i => some (.loc i)
noncomputable def tyName (ne : NE) (sc : Scope) (e : Expr) : Option Str := (asName e).bind fun x => if isG ne sc x && (x == "int" || x == "str" || x == "tuple") then some x else none
noncomputable def tyNames (ne : NE) (sc : Scope) (e : Expr) : Option (List Str) := ocase (asTuple e) ((tyName ne sc e).map fun x => [x]) fun l => (two l).bind fun p => (tyName ne sc p.1).bind fun x => (tyName ne sc p.2).bind fun y => some [x, y]
noncomputable def strKey (e : Option Expr) : Option Str := e.bind fun e => (asStrC e).bind fun s => if sfB s then some s else none
noncomputable def isM1 (e : Expr) : Bool := ((asNeg e).bind asConst) == some (.int 1)
noncomputable def innerMp (ne : NE) (sc' : Scope) : List (Option Nat) := (NE.of sc').map fun x => if sc'.names.lookup x.1 == some .free then ne.lookup x.1 else none
noncomputable def scOk (sc sc' : Scope) : Bool := sc'.kind == .function && !sc'.isGenerator && !sc'.isCoroutine &&
  sc'.names.all fun x => !(x.1 == ("__debug__" : Str)) && ((x.2 == .local && sc'.names.lookup x.1 == some .local) || x.2 == .globalImplicit || (x.2 == .free && sc.names.lookup x.1 == some .cell && sc'.names.lookup x.1 == some .free))
noncomputable def dvOf (sc sc' : Scope) (elt : Expr) (t : Str) (it : Expr) (ifs : List Expr) : Option Str := (asSub elt).bind fun p => (asName p.1).bind fun d => (asName p.2).bind fun t' => (asName it).bind fun d' =>
  if d' == d && t' == t && ifs.isEmpty && sc'.names.lookup d == some .free && sc.names.lookup d == some .cell then some d else none
noncomputable def RI.isEnm : RI → Bool
  | .enm _ => true
  | _ => false
noncomputable abbrev CE := NE → Scope → Expr → Option RE
section
variable (rec : CE) (ne : NE) (sc : Scope)
noncomputable def cL : List Expr → Option RL
  | [] => some .nil
  | e :: r => (rec ne sc e).bind fun a => (cL r).map fun l => .cons a l
noncomputable def cO (e : Option Expr) : Option RO := match e with
  | none => some .no
  | some e => (rec ne sc e).map .some
noncomputable def cF (es : List Expr) : Option RO := match es with
  | [] => some .no
  | e :: r => match r with
    | [] => (rec ne sc e).map .some
    | _ :: _ => none
noncomputable def cD (ks : List (Option Expr)) (vs : List Expr) : Option RE := ocase (one ks)
  (match ks with
    | [a, b, c, d, e] => (strKey a).bind fun a => (strKey b).bind fun b => (strKey c).bind fun c => (strKey d).bind fun d => (strKey e).bind fun e => if [a, b, c, d, e].Nodup && vs.length == 5 then (cL rec ne sc vs).map (.ds5 a b c d e) else none
    | _ => none)
  fun k => (one vs).bind fun v => (k.bind asConst).bind fun c => match c with
    | .int i => (rec ne sc v).map (.di1 i)
    | .str s => if sfB s then (rec ne sc v).map (.ds1 s) else none
    | _ => none
noncomputable def cI (e : Expr) : Option RI := ocase (callName1 e) ((rec ne sc e).map .val)
  fun c => if c.1 == "range" then (if isG ne sc c.1 then (rec ne sc c.2).map .rng else none) else if c.1 == "enumerate" then (if isG ne sc c.1 then (rec ne sc c.2).map .enm else none) else (rec ne sc e).map .val
noncomputable def cCmp (l : Expr) (ops : List CmpOp) (rs : List Expr) : Option RE := ocase (one ops)
  ((two ops).bind fun o => (two rs).bind fun r => if notSet r.1 && notSet r.2 then (rec ne sc l).bind fun a => (rec ne sc r.1).bind fun b => (rec ne sc r.2).map fun c => .cmp2 o.1 o.2 a b c else none)
  fun o => (one rs).bind fun r => if notSet r then (rec ne sc l).bind fun a => (rec ne sc r).map fun b => .cmp o a b else none
noncomputable def cSub (v i : Expr) : Option RE := ocase (asSlice i) ((rec ne sc v).bind fun a => (rec ne sc i).map fun b => .sub a b)
  fun x => ocase x.2.2 ((rec ne sc v).bind fun a => (cO rec ne sc x.1).bind fun b => (cO rec ne sc x.2.1).map fun c => .sli a b c)
    fun s => if x.1.isNone && x.2.1.isNone && isM1 s then (rec ne sc v).map .rev else none
noncomputable def cNamed (g : Str) (args : List Expr) : Option RE := if isG ne sc g && decide (args.length ≤ 20) then
    (if g == "isinstance" then (two args).bind fun p => (rec ne sc p.1).bind fun a => (tyNames ne sc p.2).map fun ts => .isi a ts
    else ocase (bkind g) ((cL rec ne sc args).map (.call g)) fun k => (cL rec ne sc args).map (.bi k)) else none
noncomputable def cCall (fe : Expr) (args : List Expr) (pos : Pos) : Option RE := match fe with
  | .Name g _ => cNamed rec ne sc g args
  | .Attribute o x apos => if okBase o && (apos.endLine == pos.line) && decide (args.length ≤ 20) then (rec ne sc o).bind fun a => (cL rec ne sc args).map fun l => .met a x l else none
  | _ => none
noncomputable def cComp (elt : Expr) (gens : List Comprehension) (sc' : Scope) : Option RE := (one gens).bind fun g => (asGen g).bind fun t => if notSet g.iter && scOk sc sc' && sc'.names.lookup t == some .local then
    (ocase (dvOf sc sc' elt t g.iter g.ifs)
      ((cI rec ne sc g.iter).bind fun src => if src.isEnm then none else ((NE.of sc').lookup t).bind fun i => (cF rec (NE.of sc') sc' g.ifs).bind fun c => (rec (NE.of sc') sc' elt).map fun e => .comp (innerMp ne sc') src i c e)
      fun d => (ne.lookup d).map .dvals) else none
noncomputable def stepE (e : Expr) : Option RE := match e with
  | .Constant c _ _ => cC c
  | .Name x _ => cN ne sc x
  | .BinOp l op r _ => (rec ne sc l).bind fun a => (rec ne sc r).map fun b => .bin op a b
  | .UnaryOp op x _ => (match op with
    | .Not => (rec ne sc x).map .not
    | .USub => (rec ne sc x).map .neg
    | _ => none)
  | .IfExp t b o _ => (rec ne sc t).bind fun a => (rec ne sc b).bind fun b => (rec ne sc o).map fun c => .ife a b c
  | .BoolOp op vs _ => (match op with
    | .And => (cL rec ne sc vs).map .and
    | .Or => (cL rec ne sc vs).map .or)
  | .Compare l ops rs _ => cCmp rec ne sc l ops rs
  | .Tuple es _ _ => if es.length ≤ 100 then (cL rec ne sc es).map .tup else none
  | .List es _ => if es.length ≤ 100 then (cL rec ne sc es).map .lst else none
  | .Dict ks vs _ => cD rec ne sc ks vs
  | .Subscript v i _ => cSub rec ne sc v i
  | .Attribute v x _ => if okBase v then (rec ne sc v).map fun a => .att a x else none
  | .Call fe args kw pos => if kw.isEmpty then cCall rec ne sc fe args pos else none
  | .ListComp elt gens sc' _ => cComp rec ne sc elt gens sc'
  | _ => none
end
noncomputable def cE : Nat → CE
  | 0 => fun _ _ _ => none
  | n + 1 => stepE (cE n)
noncomputable def isSlice (e : Expr) : Bool := e.ctorIdx == 26
noncomputable def tIx (ne : NE) (sc : Scope) (t : Expr) : Option Nat := (asName t).bind fun x => if sc.names.lookup x == some .free then none else ne.lookup x
noncomputable def isComp (e : Expr) : Bool := e.ctorIdx == 8 || e.ctorIdx == 9 || e.ctorIdx == 10
noncomputable def isTuple (e : Expr) : Bool := e.ctorIdx == 24 || e.ctorIdx == 25
noncomputable def swapsOk (sc : Scope) (t : Str) (p : Pos) (e : Expr) : Bool := ocase (asComp e) (!isComp e) fun c => ocase (one c.2.1) false fun g => ocase (asGen g) false fun t' => sc.kind == .function && sc.names.lookup t == some .local && p.line == c.2.2.2.line && !(c.2.2.1.names.any fun x => x.1 == t && (x.2 == .local || x.2 == .cell)) && (dvOf sc c.2.2.1 c.1 t' g.iter g.ifs).isNone
noncomputable def tname (e : Expr) : Option (Str × Nat) := (asName e).map fun x => (x, e.pos.line)
noncomputable def tnames : List Expr → Option (List (Str × Nat))
  | [] => some []
  | e :: r => (tname e).bind fun a => (tnames r).map (a :: ·)
noncomputable def setsOk (sc : Scope) (ts : List Expr) (es : List Expr) : Bool := (ts.length == 2 || ts.length == 3) && es.length == ts.length &&
  (ocase (tnames ts) false fun ns => (ns.all fun x => sc.names.lookup x.1 == some .local && x.2 == (ts.head?.map (·.pos.line)).getD 0) && (ns.map (·.1)).eraseDups.length == ns.length) && !(es.all (foldedForSure 8)) && !(es.all (constantsAlone 8))
noncomputable def nIdx (ne : NE) : List (Str × Nat) → Option (List Nat)
  | [] => some []
  | x :: r => (ne.lookup x.1).bind fun i => (nIdx ne r).map (i :: ·)
noncomputable def tryA (b : List Stmt) : Option (Str × Bool) := (one b).bind fun st => (asAssign st).bind fun a => (one a.1).bind fun t => (asName t).bind fun y => (asBoolC a.2).bind fun v => some (y, v)
noncomputable def tryR (b : List Stmt) : Option (Str × Str × Str × Bool) := (one b).bind fun st => (asIf st).bind fun i => (asCmp i.1).bind fun c => (asAttr c.1).bind fun a => (asName a.1).bind fun z =>
  (one c.2.2).bind fun k => (asStrC k).bind fun t => (one i.2.1).bind fun st => (asRet st).bind fun e => e.bind fun e => (asBoolC e).bind fun v =>
    if c.2.1 == [CmpOp.Eq] && i.2.2.isEmpty then some (z, a.2, t, v) else none
noncomputable def exH : ExceptHandler → Option Expr × Option Str × List Stmt
  | .ExceptHandler t n b _ => (t, n, b)
noncomputable abbrev CP := NE → Scope → List Stmt → Option RP
section
variable (E : CE) (P : CP) (ne : NE) (sc : Scope)
noncomputable def cAsg (t e : Expr) : Option RS := match t with
  | .Name x p => if swapsOk sc x p e && !(sc.names.lookup x == some .free) then (ne.lookup x).bind fun i => (E ne sc e).map (.setl i) else none
  | .Attribute o x _ => if isComp e || !okBase o then none else (E ne sc o).bind fun a => (E ne sc e).map fun b => .seta a x b
  | .Subscript o i _ => if isComp e || isSlice i then none else (E ne sc o).bind fun a => (E ne sc i).bind fun b => (E ne sc e).map fun c => .seti a b c
  | .Tuple ts k p => (ocase (asTuple e)
    (if isComp e || isTuple e then none else (two ts).bind fun p => (tIx ne sc p.1).bind fun i => (tIx ne sc p.2).bind fun j => (E ne sc e).map fun v => .set2 i j v)
    fun es => if setsOk sc ts es then (tnames ts).bind fun ns => (nIdx ne ns).bind fun is => (cL E ne sc es).map fun l => .sets is l else none)
  | _ => none
noncomputable def cFor (t it : Expr) (b : List Stmt) : Option RS := ocase (asTuple t) ((tIx ne sc t).bind fun i => (cI E ne sc it).bind fun src => if src.isEnm then none else (P ne sc b).map fun s => .for1 i src s)
  fun ts => (two ts).bind fun p => (tIx ne sc p.1).bind fun i => (tIx ne sc p.2).bind fun j => (cI E ne sc it).bind fun src => (P ne sc b).map fun s => .for2 i j src s
noncomputable def cTry (b : List Stmt) (c : Str) (nm : Option Str) (hb : List Stmt) : Option RS := ocase nm
  ((tryA hb).bind fun y => if !(sc.names.lookup y.1 == some .free) then (ne.lookup y.1).bind fun i => (P ne sc b).map fun b => .try0 b c i y.2 else none)
  fun z => (tryR hb).bind fun x => if x.1 == z && x.2.1 == "what" && sfB x.2.2.1 && (sc.names.lookup z == some .local) then (ne.lookup z).bind fun i => (P ne sc b).map fun b => .try1 b c i x.2.2.1 x.2.2.2 else none
noncomputable def stepS (st : Stmt) : Option RS := match st with
  | .Expr e _ => if isComp e then none else (E ne sc e).map .exp
  | .Assign ts e _ => (one ts).bind fun t => cAsg E ne sc t e
  | .If t b o _ => (E ne sc t).bind fun t => (P ne sc b).bind fun b => (P ne sc o).map fun o => .ife t b o
  | .Return e _ => e.bind fun e => (E ne sc e).map .ret
  | .Continue _ => some .cont
  | .While t b o _ => if o.isEmpty then (E ne sc t).bind fun t => (P ne sc b).map fun b => .whl t b else none
  | .For t it s o _ => if o.isEmpty && notSet it then cFor E P ne sc t it s else none
  | .Raise ex cause _ => if cause.isNone then ex.bind fun ex => (callName1 ex).bind fun c => if isG ne sc c.1 then (E ne sc c.2).map (.rai c.1) else none else none
  | .Try b hs o g _ => (one hs).bind fun h => (exH h).1.bind fun t => (asName t).bind fun c => if o.isEmpty && g.isEmpty && isG ne sc c then cTry P ne sc b c (exH h).2.1 (exH h).2.2 else none
  | _ => none
end
noncomputable def seqS (S : NE → Scope → Stmt → Option RS) (ne : NE) (sc : Scope) : List Stmt → Option RP
  | [] => some .nil
  | s :: r => (S ne sc s).bind fun a => (seqS S ne sc r).map fun l => .cons a l
noncomputable def cS : Nat → NE → Scope → Stmt → Option RS
  | 0 => fun _ _ _ => none
  | n + 1 => stepS (cE n) (seqS (cS n))
noncomputable def cP (n : Nat) : CP := seqS (cS n)
noncomputable def Y {α : Type} (o : Option α) (P : α → Prop) : Prop := ∀ a, o = some a → P a
section
variable {α β : Type} {P : β → Prop}
theorem Y.no : Y (none : Option β) P := fun _ h => nomatch h
theorem Y.so {a : β} (h : P a) : Y (some a) P := fun _ e => Option.some.inj e ▸ h
theorem Y.bind {x : Option α} {f : α → Option β} (k : ∀ a, x = some a → Y (f a) P) : Y (x.bind f) P := by
  cases x with
  | none => exact Y.no
  | some a => exact k a rfl
theorem Y.map {x : Option α} {f : α → β} (k : ∀ a, x = some a → P (f a)) : Y (x.map f) P := by
  cases x with
  | none => exact Y.no
  | some a => exact Y.so (k a rfl)
theorem Y.ite {c : Prop} [Decidable c] {x y : Option β} (k : c → Y x P) (k' : ¬ c → Y y P) : Y (if c then x else y) P := by
  split
  · exact k ‹_›
  · exact k' ‹_›
theorem Y.yes {c : Prop} [Decidable c] {x : Option β} (k : c → Y x P) : Y (if c then x else none) P := Y.ite k fun _ => Y.no
theorem Y.not {c : Prop} [Decidable c] {x : Option β} (k : ¬ c → Y x P) : Y (if c then none else x) P := Y.ite (fun _ => Y.no) k
theorem Y.ocase {x : Option α} {y : Option β} {f : α → Option β} (k' : x = none → Y y P) (k : ∀ a, x = some a → Y (f a) P) : Y (ocase x y f) P := by
  cases x with
  | none => exact k' rfl
  | some a => exact k a rfl
theorem one_inv {l : List α} {a : α} (h : one l = some a) : l = [a] := by
  cases l with
  | nil => exact no1 h
  | cons b r => cases r with
    | nil => obtain rfl := Option.some.inj h; rfl
    | cons _ _ => exact no1 h
theorem two_inv {l : List α} {p : α × α} (h : two l = some p) : l = [p.1, p.2] := by
  cases l with
  | nil => exact no1 h
  | cons b r => cases r with
    | nil => exact no1 h
    | cons c r => cases r with
      | nil => obtain rfl := Option.some.inj h; rfl
      | cons _ _ => exact no1 h
theorem Y.one {l : List α} {f : α → Option β} (k : ∀ a, l = [a] → Y (f a) P) : Y ((one l).bind f) P := Y.bind fun a h => k a (one_inv h)
theorem Y.two {l : List α} {f : α × α → Option β} (k : ∀ a b, l = [a, b] → Y (f (a, b)) P) : Y ((two l).bind f) P := Y.bind fun a h => k a.1 a.2 (two_inv h)
theorem and2 {a b : Bool} (h : (a && b) = true) : a = true ∧ b = true := Bool.and_eq_true_iff.mp h
theorem nor2 {a b : Bool} (h : ¬ (a || b) = true) : a = false ∧ b = false := by cases a <;> cases b <;> simp_all
end
theorem obind {α β : Type} {x : Option α} {f : α → Option β} {b : β} (h : x.bind f = some b) : ∃ a, x = some a ∧ f a = some b := Option.bind_eq_some_iff.mp h
theorem oif {α : Type} {c : Prop} [Decidable c] {x : Option α} {b : α} (h : (if c then x else none) = some b) : c ∧ x = some b := by
  split at h
  · exact ⟨by assumption, h⟩
  · exact no1 h
theorem onone {α : Type} {y : α} {P : Prop} (h : (none : Option α) = some y) : P := nomatch h
theorem exSel_ind {α : Type} {d : α} {e : Expr} {nm : Str → α} {att : Expr → Str → α} {cm : Expr → List CmpOp → List Expr → α} {ct : Const → α} {ca : Expr → List Expr → List Keyword → α} {tu : List Expr → α} {su : Expr → Expr → α} {sl : Option Expr → Option Expr → Option Expr → α} {un : UnaryOp → Expr → α} {lc : Expr → List Comprehension → Scope → Pos → α} (P : α → Prop) (hd : P d)
    (h0 : ∀ x p, e = .Name x p → P (nm x))
    (h1 : ∀ o x p, e = .Attribute o x p → P (att o x))
    (h2 : ∀ l ops rs p, e = .Compare l ops rs p → P (cm l ops rs))
    (h3 : ∀ c k p, e = .Constant c k p → P (ct c))
    (h4 : ∀ fe args kw p, e = .Call fe args kw p → P (ca fe args kw))
    (h5 : ∀ es k p, e = .Tuple es k p → P (tu es))
    (h6 : ∀ a b p, e = .Subscript a b p → P (su a b))
    (h7 : ∀ lo up st p, e = .Slice lo up st p → P (sl lo up st))
    (h8 : ∀ op x p, e = .UnaryOp op x p → P (un op x))
    (h9 : ∀ elt gens sc p, e = .ListComp elt gens sc p → P (lc elt gens sc p)) :
    P (exSel d e nm att cm ct ca tu su sl un lc) := by
  cases e <;> first | exact hd | exact h0 _ _ rfl | exact h1 _ _ _ rfl | exact h2 _ _ _ _ rfl | exact h3 _ _ _ rfl | exact h4 _ _ _ _ rfl | exact h5 _ _ _ rfl | exact h6 _ _ _ rfl | exact h7 _ _ _ _ rfl | exact h8 _ _ _ rfl | exact h9 _ _ _ _ rfl
theorem asName_inv {e : Expr} {y} (h : asName e = some y) : ∃ p, e = .Name y p :=
  exSel_ind (fun o => o = some y → ∃ p, e = .Name y p) onone (fun x p q h => Option.some.inj h ▸ ⟨p, q⟩) (fun _ _ _ _ => onone) (fun _ _ _ _ _ => onone) (fun _ _ _ _ => onone) (fun _ _ _ _ _ => onone) (fun _ _ _ _ => onone) (fun _ _ _ _ => onone) (fun _ _ _ _ _ => onone) (fun _ _ _ _ => onone) (fun _ _ _ _ _ => onone) h
theorem asAttr_inv {e : Expr} {y} (h : asAttr e = some y) : ∃ p, e = .Attribute y.1 y.2 p :=
  exSel_ind (fun o => o = some y → ∃ p, e = .Attribute y.1 y.2 p) onone (fun _ _ _ => onone) (fun o x p q h => Option.some.inj h ▸ ⟨p, q⟩) (fun _ _ _ _ _ => onone) (fun _ _ _ _ => onone) (fun _ _ _ _ _ => onone) (fun _ _ _ _ => onone) (fun _ _ _ _ => onone) (fun _ _ _ _ _ => onone) (fun _ _ _ _ => onone) (fun _ _ _ _ _ => onone) h
theorem asCmp_inv {e : Expr} {y} (h : asCmp e = some y) : ∃ p, e = .Compare y.1 y.2.1 y.2.2 p :=
  exSel_ind (fun o => o = some y → ∃ p, e = .Compare y.1 y.2.1 y.2.2 p) onone (fun _ _ _ => onone) (fun _ _ _ _ => onone) (fun o x z p q h => Option.some.inj h ▸ ⟨p, q⟩) (fun _ _ _ _ => onone) (fun _ _ _ _ _ => onone) (fun _ _ _ _ => onone) (fun _ _ _ _ => onone) (fun _ _ _ _ _ => onone) (fun _ _ _ _ => onone) (fun _ _ _ _ _ => onone) h
theorem asConst_inv {e : Expr} {y} (h : asConst e = some y) : ∃ k p, e = .Constant y k p :=
  exSel_ind (fun o => o = some y → ∃ k p, e = .Constant y k p) onone (fun _ _ _ => onone) (fun _ _ _ _ => onone) (fun _ _ _ _ _ => onone) (fun c k p q h => Option.some.inj h ▸ ⟨k, p, q⟩) (fun _ _ _ _ _ => onone) (fun _ _ _ _ => onone) (fun _ _ _ _ => onone) (fun _ _ _ _ _ => onone) (fun _ _ _ _ => onone) (fun _ _ _ _ _ => onone) h
theorem asCall_inv {e : Expr} {y} (h : asCall e = some y) : ∃ p, e = .Call y.1 y.2.1 y.2.2 p :=
  exSel_ind (fun o => o = some y → ∃ p, e = .Call y.1 y.2.1 y.2.2 p) onone (fun _ _ _ => onone) (fun _ _ _ _ => onone) (fun _ _ _ _ _ => onone) (fun _ _ _ _ => onone) (fun o x z p q h => Option.some.inj h ▸ ⟨p, q⟩) (fun _ _ _ _ => onone) (fun _ _ _ _ => onone) (fun _ _ _ _ _ => onone) (fun _ _ _ _ => onone) (fun _ _ _ _ _ => onone) h
theorem asTuple_inv {e : Expr} {y} (h : asTuple e = some y) : ∃ k p, e = .Tuple y k p :=
  exSel_ind (fun o => o = some y → ∃ k p, e = .Tuple y k p) onone (fun _ _ _ => onone) (fun _ _ _ _ => onone) (fun _ _ _ _ _ => onone) (fun _ _ _ _ => onone) (fun _ _ _ _ _ => onone) (fun c k p q h => Option.some.inj h ▸ ⟨k, p, q⟩) (fun _ _ _ _ => onone) (fun _ _ _ _ _ => onone) (fun _ _ _ _ => onone) (fun _ _ _ _ _ => onone) h
theorem asSub_inv {e : Expr} {y} (h : asSub e = some y) : ∃ p, e = .Subscript y.1 y.2 p :=
  exSel_ind (fun o => o = some y → ∃ p, e = .Subscript y.1 y.2 p) onone (fun _ _ _ => onone) (fun _ _ _ _ => onone) (fun _ _ _ _ _ => onone) (fun _ _ _ _ => onone) (fun _ _ _ _ _ => onone) (fun _ _ _ _ => onone) (fun o x p q h => Option.some.inj h ▸ ⟨p, q⟩) (fun _ _ _ _ _ => onone) (fun _ _ _ _ => onone) (fun _ _ _ _ _ => onone) h
theorem asSlice_inv {e : Expr} {y} (h : asSlice e = some y) : ∃ p, e = .Slice y.1 y.2.1 y.2.2 p :=
  exSel_ind (fun o => o = some y → ∃ p, e = .Slice y.1 y.2.1 y.2.2 p) onone (fun _ _ _ => onone) (fun _ _ _ _ => onone) (fun _ _ _ _ _ => onone) (fun _ _ _ _ => onone) (fun _ _ _ _ _ => onone) (fun _ _ _ _ => onone) (fun _ _ _ _ => onone) (fun o x z p q h => Option.some.inj h ▸ ⟨p, q⟩) (fun _ _ _ _ => onone) (fun _ _ _ _ _ => onone) h
theorem asNeg_inv {e : Expr} {y} (h : asNeg e = some y) : ∃ p, e = .UnaryOp .USub y p :=
  exSel_ind (fun o => o = some y → ∃ p, e = .UnaryOp .USub y p) onone (fun _ _ _ => onone) (fun _ _ _ _ => onone) (fun _ _ _ _ _ => onone) (fun _ _ _ _ => onone) (fun _ _ _ _ _ => onone) (fun _ _ _ _ => onone) (fun _ _ _ _ => onone) (fun _ _ _ _ _ => onone) (fun o x p q h => ⟨p, by rw [q, eq_of_beq (oif h).1, Option.some.inj (oif h).2]⟩) (fun _ _ _ _ _ => onone) h
theorem asComp_inv {e : Expr} {y} (h : asComp e = some y) : e = .ListComp y.1 y.2.1 y.2.2.1 y.2.2.2 :=
  exSel_ind (fun o => o = some y → e = .ListComp y.1 y.2.1 y.2.2.1 y.2.2.2) onone (fun _ _ _ => onone) (fun _ _ _ _ => onone) (fun _ _ _ _ _ => onone) (fun _ _ _ _ => onone) (fun _ _ _ _ _ => onone) (fun _ _ _ _ => onone) (fun _ _ _ _ => onone) (fun _ _ _ _ _ => onone) (fun _ _ _ _ => onone) (fun o x z p q h => Option.some.inj h ▸ q) h
theorem asAssign_inv {e : Stmt} {y} (h : asAssign e = some y) : ∃ p, e = .Assign y.1 y.2 p := by
  cases e <;> first | exact onone h | (obtain rfl := Option.some.inj h; exact ⟨_, rfl⟩)
theorem asRet_inv {e : Stmt} {y} (h : asRet e = some y) : ∃ p, e = .Return y p := by
  cases e <;> first | exact onone h | (obtain rfl := Option.some.inj h; exact ⟨_, rfl⟩)
theorem asIf_inv {e : Stmt} {y} (h : asIf e = some y) : ∃ p, e = .If y.1 y.2.1 y.2.2 p := by
  cases e <;> first | exact onone h | (obtain rfl := Option.some.inj h; exact ⟨_, rfl⟩)
theorem asBoolC_inv {e : Expr} {y} (h : asBoolC e = some y) : ∃ k p, e = .Constant (.bool y) k p := by
  obtain ⟨c, h1, h⟩ := obind h
  obtain ⟨k, p, rfl⟩ := asConst_inv h1
  cases c <;> first | exact onone h | (obtain rfl := Option.some.inj h; exact ⟨_, _, rfl⟩)
theorem asStrC_inv {e : Expr} {y} (h : asStrC e = some y) : ∃ k p, e = .Constant (.str y) k p := by
  obtain ⟨c, h1, h⟩ := obind h
  obtain ⟨k, p, rfl⟩ := asConst_inv h1
  cases c <;> first | exact onone h | (obtain rfl := Option.some.inj h; exact ⟨_, _, rfl⟩)
theorem callName1_inv {e : Expr} {y} (h : callName1 e = some y) : ∃ p q, e = .Call (.Name y.1 p) [y.2] [] q := by
  obtain ⟨c, h1, h⟩ := obind h
  obtain ⟨g, h2, h⟩ := obind h
  obtain ⟨x, h3, h⟩ := obind h
  obtain ⟨hc, h⟩ := oif h
  obtain rfl := Option.some.inj h
  obtain ⟨q, rfl⟩ := asCall_inv h1
  obtain ⟨p, e2⟩ := asName_inv h2
  exact ⟨p, q, by rw [e2, one_inv h3, List.isEmpty_iff.mp hc]⟩
theorem asGen_inv {g : Comprehension} {t : Str} (h : asGen g = some t) : ∃ p, g = ⟨.Name t p, g.iter, g.ifs, 0⟩ := by
  obtain ⟨hc, h⟩ := oif h
  obtain ⟨p, e⟩ := asName_inv h
  obtain ⟨a, b, c, d⟩ := g
  exact ⟨p, by rw [show a = _ from e, show d = 0 from eq_of_beq hc]⟩
end
section
variable {f : Fx} {m : M} {σ σ' : AS} {s s' : Shared}
noncomputable def PE (f : Fx) (m : M) (σ : AS) (h : Heap) (Q : PQ) (cv : Value) (s' : Shared) : Prop :=
  ∃ v σ', FS f m σ' s' ∧ Rv s'.heap cv v ∧ Kc (frs f.l) [] σ σ' h s'.heap ∧ Q v σ'
theorem AS.eta_set (σ : AS) {a : Addr} {o : AO} (h : σ a = some o) : σ.set a o = σ := by
  funext b; by_cases e : b = a
  · subst e; rw [AS.set_same, h]
  · rw [AS.set_ne σ o e]
theorem FS.toks (x : FS f m σ s) (ok : f.Ok) {k : Nat} : FS f m σ { s with toks := k } :=
  x.next ok Kc.refl (fun a o e => x.at_.obj a o e)
theorem FS.om (x : FS f m σ s) {a : Addr} {o : AO} (e : σ a = some o) : OM f.prog f.w s.heap a o := (x.at_.obj a o e).1
theorem PE.of (x : FS f m σ s) (ok : f.Ok) {cv : Value} {v : V} {Q : PQ} {k : Nat} (r : Rv s.heap cv v) (q : Q v σ) : PE f m σ s.heap Q cv { s with toks := k } :=
  ⟨v, σ, x.toks ok, r, Kc.refl, q⟩
theorem PE.here (x : FS f m σ s) {cv : Value} {v : V} {Q : PQ} (r : Rv s.heap cv v) (q : Q v σ) : PE f m σ s.heap Q cv s :=
  ⟨v, σ, x, r, Kc.refl, q⟩
theorem PE.lift {σ₁ : AS} {h h₁ : Heap} {Q : PQ} {cv : Value} (c : Kc (frs f.l) [] σ σ₁ h h₁) (p : PE f m σ₁ h₁ Q cv s') : PE f m σ h Q cv s' :=
  let ⟨v, σ', a, b, d, e⟩ := p; ⟨v, σ', a, b, c.trans d, e⟩
theorem push_keep {h : Heap} {o : Obj} {b : Addr} {x : Obj} (e : h.get? b = some x) : (h.push o).get? b = some x := Heap.get?_push_of_some o e
theorem push_size (h : Heap) (o : Obj) : (h.push o).objs.size = h.objs.size + 1 := by simp [Heap.push]
theorem FS.pushed (x : FS f m σ s) (ok : f.Ok) {o : Obj} {k : Nat} : FS f m σ { s with heap := s.heap.push o, toks := k } ∧ Kc (frs f.l) [] σ σ s.heap (s.heap.push o) := by
  have kc : Kc (frs f.l) [] σ σ s.heap (s.heap.push o) := Kc.of_keep (fun b o e => push_keep e) fun _ _ _ e => e
  refine ⟨x.next ok kc fun a ao e => ⟨(x.at_.obj a ao e).1.at (fun ob eb => push_keep eb) (x.at_.tupK kc), (x.at_.obj a ao e).2⟩, kc⟩
theorem FS.grown (x : FS f m σ s) (ok : f.Ok) {h' : Heap} {k : Nat} (hk : ∀ b o, s.heap.get? b = some o → h'.get? b = some o) :
    FS f m σ { s with heap := h', toks := k } ∧ Kc (frs f.l) [] σ σ s.heap h' := by
  have kc : Kc (frs f.l) [] σ σ s.heap h' := Kc.of_keep hk fun _ _ _ e => e
  refine ⟨x.next ok kc fun a ao e => ⟨(x.at_.obj a ao e).1.at (fun ob eb => hk _ _ eb) (x.at_.tupK kc), (x.at_.obj a ao e).2⟩, kc⟩
theorem FS.hB_fresh (x : FS f m σ s) {b : Addr} (hb : s.heap.get? b = none) : f.hB.get? b = none := by
  refine isN fun o e => ?_
  have := x.at_.st _ _ e; exact no2 hb this
theorem get_size (h : Heap) : h.get? h.objs.size = none := Heap.get?_none_of_le (Nat.le_refl _)
theorem FS.fresh (x : FS f m σ s) {b : Addr} (hb : s.heap.get? b = none) : σ b = none := by
  refine isN fun ao q => ?_
  obtain ⟨_, e, _⟩ := (x.at_.obj b ao q).1.lt; exact no2 hb e
theorem FS.grownA (x : FS f m σ s) (ok : f.Ok) {h' : Heap} {c : Addr} {ao : AO} {k : Nat} (hk : ∀ b o, s.heap.get? b = some o → h'.get? b = some o) (hc : s.heap.get? c = none)
    (ho : OM f.prog f.w h' c ao) : FS f m (σ.set c ao) { s with heap := h', toks := k } ∧ Kc (frs f.l) [] σ (σ.set c ao) s.heap h' := by
  have kc : Kc (frs f.l) [] σ (σ.set c ao) s.heap h' := Kc.of_keep hk fun b o hb e => by
    rw [AS.set_ne σ ao (fun q : b = c => by rw [q, hc] at hb; exact no1 hb)]; exact e
  refine ⟨x.next ok kc fun a ao' e => ?_, kc⟩
  by_cases ea : a = c
  · subst ea
    rw [AS.set_same] at e; obtain rfl := Option.some.inj e
    exact ⟨ho, x.hB_fresh hc⟩
  · rw [AS.set_ne σ ao ea] at e
    exact ⟨(x.at_.obj a ao' e).1.at (fun ob eb => hk _ _ eb) (x.at_.tupK kc), (x.at_.obj a ao' e).2⟩
theorem FS.alloc (x : FS f m σ s) (ok : f.Ok) {o : Obj} {ao : AO} {k : Nat} (ho : OM f.prog f.w (s.heap.push o) s.heap.objs.size ao) :
    FS f m (σ.set s.heap.objs.size ao) { s with heap := s.heap.push o, toks := k } ∧ Kc (frs f.l) [] σ (σ.set s.heap.objs.size ao) s.heap (s.heap.push o) :=
  x.grownA ok (fun b o e => push_keep e) (get_size _) ho
theorem FS.turn (x : FS f m σ s) (ok : f.Ok) {a : Addr} {ao ao₀ : AO} {h' : Heap} {k : Nat} (ha : σ a = some ao₀) (sb : Heap.SameBut a s.heap h') (hp : ∃ o, h'.get? a = some o) (ho : TupK s.heap h' → OM f.prog f.w h' a ao) :
    FS f m (σ.set a ao) { s with heap := h', toks := k } ∧ Kc (frs f.l) [] σ (σ.set a ao) s.heap h' := by
  have hf : a ∉ frs f.l := fun hm => by
    obtain ⟨l', hl', ff, fσ⟩ := x.at_.fr
    obtain rfl := inj2 ok.fr hl'
    exact no2 (fσ a hm) ha
  have kc : Kc (frs f.l) [] σ (σ.set a ao) s.heap h' := Kc.of_at sb (by rw [ha]; simp) hf hp
  refine ⟨x.next ok kc fun b ao' e => ?_, kc⟩
  by_cases eb : b = a
  · subst eb
    rw [AS.set_same] at e; obtain rfl := Option.some.inj e
    exact ⟨ho (x.at_.tupK kc), (x.at_.obj b ao₀ ha).2⟩
  · rw [AS.set_ne σ ao eb] at e
    exact ⟨(x.at_.obj b ao' e).1.at (fun ob q => by rw [sb.2 b eb]; exact q) (x.at_.tupK kc), (x.at_.obj b ao' e).2⟩
theorem Rv.push {h : Heap} {o : Obj} {cv : Value} {v : V} (r : Rv h cv v) : Rv (h.push o) cv v := r.mono fun b o e _ _ => ⟨o.slots, push_keep e⟩
theorem RvL.push {h : Heap} {o : Obj} {cv : List Value} {v : List V} (r : RvL h cv v) : RvL (h.push o) cv v := r.mono fun b o e _ _ => ⟨o.slots, push_keep e⟩
theorem Rv.keeps {h h' : Heap} {cv : Value} {v : V} (r : Rv h cv v) (hk : ∀ b o, h.get? b = some o → h'.get? b = some o) : Rv h' cv v := r.mono fun b o e _ _ => ⟨o.slots, hk _ _ e⟩
theorem RvL.keeps {h h' : Heap} {cv : List Value} {v : List V} (r : RvL h cv v) (hk : ∀ b o, h.get? b = some o → h'.get? b = some o) : RvL h' cv v := r.mono fun b o e _ _ => ⟨o.slots, hk _ _ e⟩
noncomputable abbrev tupObj (vs : List Value) : Obj := { cls := .type "tuple", data := .seq vs.toArray }
noncomputable abbrev listObj (vs : List Value) : Obj := { cls := .type "list", data := .seq vs.toArray }
theorem Rv.newTup {h : Heap} {vs : List Value} {l : List V} (r : RvL h vs l) (hz : l.length ≤ seqMost) : Rv (h.push (tupObj vs)) (.ref h.objs.size) (.tup l) :=
  .tup (o := tupObj vs) (n := 0) (Heap.get?_push_size _ rfl) rfl rfl r.push hz
theorem OM.newList {h : Heap} {vs : List Value} {l : List V} {prog : Program} {w : World} (r : RvL h vs l) (hz : l.length ≤ seqMost) : OM prog w (h.push (listObj vs)) h.objs.size (.list l) :=
  ⟨vs, ⟨0, Heap.get?_push_size _ rfl⟩, r.push, hz⟩
theorem PE.tup (x : FS f m σ s) (ok : f.Ok) {vs : List Value} {l : List V} {Q : PQ} {k : Nat} (r : RvL s.heap vs l) (hz : l.length ≤ seqMost) (q : Q (.tup l) σ) : PE f m σ s.heap Q (.ref s.heap.objs.size) { s with heap := s.heap.push (tupObj vs), toks := k } :=
  ⟨.tup l, σ, (x.pushed ok).1, Rv.newTup r hz, (x.pushed ok (k := k)).2, q⟩
theorem PE.list {C : Cx} (x : FS f m σ s) (ok : f.Ok) (rn : C.ro s.heap.objs.size = none) {vs : List Value} {l : List V} {Q : PQ} {k : Nat} (r : RvL s.heap vs l) (hz : l.length ≤ seqMost) (q : anew C (.list l) σ Q) : PE f m σ s.heap Q (.ref s.heap.objs.size) { s with heap := s.heap.push (listObj vs), toks := k } :=
  ⟨.ref _, _, (x.alloc ok (OM.newList r hz)).1, .ref _, (x.alloc ok (k := k) (OM.newList r hz)).2, q _ (x.fresh (get_size _)) rn⟩
theorem FS.list (x : FS f m σ s) {a : Addr} {l : List V} (e : σ a = some (.list l)) : ∃ vs, s.heap.PlainList a vs.toArray ∧ RvL s.heap vs l ∧ l.length ≤ seqMost ∧ vs.length = l.length := by
  obtain ⟨vs, a, b, c⟩ := x.om e
  exact ⟨vs, a, b, c, b.length⟩
theorem plain_isList {h : Heap} {a : Addr} {vs : Array Value} (x : h.PlainList a vs) : h.IsList a vs := by
  obtain ⟨n, e⟩ := x
  exact ⟨_, e, rfl, n, rfl⟩
theorem seq_fits {n : Nat} (h : n ≤ seqMost) : n ≤ sizeLine := by
  have : seqMost = 1000000 := rfl
  have : sizeLine = 16777216 := rfl
  exact Nat.le_trans ‹_› (by decide)
end
section
variable {f : Fx} {m : M} {σ σ' : AS} {s s' : Shared} {A : Around} {E₀ : Value → Shared → Prop}
theorem strLen0 (x : Str) : ((x.length : Int) != 0) = !(x == Str.ofString "") := by
  have e : Str.ofString "" = ⟨#[]⟩ := by decide +kernel
  rw [e]
  cases x with | mk a =>
  rw [Bool.eq_iff_iff]
  simp [Str.length]
theorem truth_ok (x : FS f m σ s) {cv : Value} {v : V} (r : Rv s.heap cv v) {Q : Bool → Prop} (h : atruth σ v Q) {Qc : Bool → Shared → Prop} (q : ∀ b k, Q b → Qc b { s with toks := k }) :
    wpAny (model f.prog f.w) A (truthy cv) Qc E₀ s := by
  cases r with
  | none => exact truthy_none (q _ s.toks h)
  | bool b => exact wpAny_truthy_bool (q _ s.toks h)
  | int i t => exact truthy_int (q _ s.toks h)
  | str w t hs =>
    refine P.truthy_str (by have := hs.2; lia) ?_
    rw [strLen0]
    exact q _ _ h
  | ref a =>
    obtain ⟨l, e, h⟩ := oL_inv h
    obtain ⟨vs, hp, rl, hz, hl⟩ := x.list e
    refine wpAny_truthy_list (plain_isList hp) (by have : seqMost = 1000000 := rfl; simp only [List.size_toArray]; lia) ?_
    have : (!vs.toArray.isEmpty) = !l.isEmpty := by cases vs <;> cases l <;> simp_all
    rw [this]
    exact q _ _ h
  | tup ho hc hd hl hz =>
    rename_i a o n vs l
    refine truthy_tuple (items := vs.toArray) ⟨_, ho, hc, _, hd⟩ (by have : seqMost = 1000000 := rfl; have := hl.length; simp only [List.size_toArray]; lia) ?_
    have : (!vs.toArray.isEmpty) = !l.isEmpty := by have := hl.length; cases vs <;> cases l <;> simp_all
    rw [this]
    exact q _ _ h
theorem neg_ok (x : FS f m σ s) (ok : f.Ok) {cv : Value} {v : V} (r : Rv s.heap cv v) {Q : PQ} (h : aneg v σ Q) : wpAny (model f.prog f.w) A (unaryOp .USub cv) (PE f m σ s.heap Q) E₀ s := by
  cases r <;> try exact h.elim
  case int i t => exact neg_int (.of x ok (.int _ _) h)
theorem not_ok (x : FS f m σ s) (ok : f.Ok) {cv : Value} {v : V} (r : Rv s.heap cv v) {Q : PQ} (h : atruth σ v fun b => Q (.bool !b) σ) : wpAny (model f.prog f.w) A (unaryOp .Not cv) (PE f m σ s.heap Q) E₀ s :=
  not_of (truth_ok x r h fun b k q => .of x ok (.bool _) q)
theorem SF.append {a b : Str} (x : SF a) (y : SF b) (h : a.length + b.length ≤ strMost) : SF (a ++ b) := by
  refine ⟨?_, by rw [strLen_append]; have : strMost = 100000 := rfl; exact Nat.le_trans ‹_› (by decide)⟩
  have h1 := x.1
  have h2 := y.1
  revert h1 h2
  cases a with | mk a => cases b with | mk b =>
  simp only [PyData.strOk]
  show _ → _ → (a ++ b).all _ = true
  simp only [Array.all_append, Bool.and_eq_true]
  exact fun h1 h2 => ⟨h1, h2⟩
theorem natAbs_log {b : Int} (h : b.natAbs < 2 ^ 1000) : b.natAbs.log2 < 9000 := by
  rcases Nat.eq_zero_or_pos b.natAbs with h0 | hp
  · rw [h0]; decide
  · exact Nat.lt_of_lt_of_le ((Nat.log2_lt (Nat.ne_of_gt hp)).mpr h) (by decide)
theorem mul_ok {a b : Int} (h : a.natAbs < 2 ^ 64 ∨ a.natAbs < 2 ^ 1000 ∧ b.natAbs < 2 ^ 1000) : IntMulOk a b := by
  rcases h with h | ⟨h1, h2⟩
  · exact .of_left (intBits_le h)
  · replace h1 := intBits_le h1
    replace h2 := intBits_le h2
    unfold IntMulOk
    have : Builtin.Int.intTooBig ((Builtin.Int.intBits a : Int) + (Builtin.Int.intBits b : Int)) = false := by
      unfold Builtin.Int.intTooBig
      have : bitsLine = 134217728 := rfl
      exact decide_eq_false (by lia)
    simp only [this, Bool.and_false, Bool.false_eq_true, not_false_eq_true]
theorem Rv.intInv {h : Heap} {cv : Value} {i : Int} (r : Rv h cv (.int i)) : ∃ t, cv = .int i t := by cases r; exact ⟨_, rfl⟩
theorem Rv.strInv {h : Heap} {cv : Value} {x : Str} (r : Rv h cv (.str x)) : ∃ t, cv = .str x t ∧ SF x := by cases r; exact ⟨_, rfl, ‹_›⟩
theorem Rv.refInv {h : Heap} {cv : Value} {a : Addr} (r : Rv h cv (.ref a)) : cv = .ref a := by cases r; rfl
theorem Rv.boolInv {h : Heap} {cv : Value} {b : Bool} (r : Rv h cv (.bool b)) : cv = .bool b := by cases r; rfl
theorem two_ints {h : Heap} {a b : Value} {v u : V} (r : Rv h a v) (q : Rv h b u) {k : Int → Int → Prop} (h' : onInt v fun i => onInt u fun j => k i j) {G : Prop} (g : ∀ i t j t', k i j → a = .int i t → b = .int j t' → G) : G := by
  obtain ⟨i, rfl, h1⟩ := onInt_inv h'
  obtain ⟨j, rfl, h2⟩ := onInt_inv h1
  obtain ⟨t, e⟩ := r.intInv
  obtain ⟨t', e'⟩ := q.intInv
  exact g _ _ _ _ h2 e e'
theorem bin_list {C : Cx} (x : FS f m σ s) (ok : f.Ok) (rn : ∀ b, s.heap.get? b = none → C.ro b = none) {a b : Value} {v u : V} (r : Rv s.heap a v) (q : Rv s.heap b u) {Q : PQ} {i j : Addr} (h : ∃ l r, σ i = some (.list l) ∧ σ j = some (.list r) ∧ l.length + r.length ≤ seqMost ∧ anew C (.list (l ++ r)) σ Q) (ha : a = .ref i) (hb : b = .ref j) :
    wpAny (model f.prog f.w) A (binaryOp .Add a b) (PE f m σ s.heap Q) E₀ s := by
  subst ha hb
  obtain ⟨l, r, ea, eb, hz, h⟩ := h
  obtain ⟨vs, ⟨n, ho⟩, rl, _, e1⟩ := x.list ea
  obtain ⟨ws, ⟨n2, ho2⟩, rl2, _, e2⟩ := x.list eb
  refine concat_meets ⟨_, ho, rfl⟩ ⟨_, ho2, rfl⟩ noFill_list_add seq_list_add PySem.F.slot_list_add PySem.F.entry_list_add (PySem.F.args_list_add_2 _ _) (list_addW _ _ vs.toArray ws.toArray n n2 _ _ _ _ (by simp only [List.size_toArray]; exact seq_fits (by lia))) ⟨ho, ho2, ?_⟩
  rw [List.append_toArray]
  exact .list x ok (rn _ (get_size _)) (rl.append rl2) (by rw [List.length_append]; exact hz) h
theorem bin_tup (x : FS f m σ s) (ok : f.Ok) {a b : Value} {v u : V} (r : Rv s.heap a v) (q : Rv s.heap b u) {Q : PQ} {l l2 : List V} (hv : v = .tup l) (hu : u = .tup l2) (h1 : l.length + l2.length ≤ seqMost) (h : Q (.tup (l ++ l2)) σ) :
    wpAny (model f.prog f.w) A (binaryOp .Add a b) (PE f m σ s.heap Q) E₀ s := by
  subst hv hu
  cases r with | tup ho hc hd hl hz => cases q with | tup ho2 hc2 hd2 hl2 hz2 =>
  rename_i a o n vs b o2 n2 ws
  obtain ⟨cls, dd, data, sl⟩ := o
  obtain ⟨cls2, dd2, data2, sl2⟩ := o2
  simp only at hc hd hc2 hd2
  subst hc hd hc2 hd2
  have e1 := hl.length
  have e2 := hl2.length
  by_cases hv : vs = []
  · refine concat_meets ⟨_, ho, rfl⟩ ⟨_, ho2, rfl⟩ noFill_tuple_add seq_tuple_add PySem.F.slot_tuple_add PySem.F.entry_tuple_add (PySem.F.args_tuple_add_2 _ _)
      (tuple_addW0 a b vs.toArray ws.toArray n n2 dd dd2 sl sl2 (by rw [hv]; rfl)) ⟨ho, ho2, ?_⟩
    subst hv
    cases hl
    exact .here x (.tup ho2 rfl rfl hl2 hz2) h
  · have hv' : ¬ vs.toArray.isEmpty = true := fun q => hv (List.isEmpty_iff.mp (by rwa [List.isEmpty_toArray] at q))
    by_cases hw : ws = []
    · refine concat_meets ⟨_, ho, rfl⟩ ⟨_, ho2, rfl⟩ noFill_tuple_add seq_tuple_add PySem.F.slot_tuple_add PySem.F.entry_tuple_add (PySem.F.args_tuple_add_2 _ _)
        (tuple_addW1 a b vs.toArray ws.toArray n n2 dd dd2 sl sl2 hv' (by rw [hw]; rfl)) ⟨ho, ho2, ?_⟩
      subst hw
      cases hl2
      rw [List.append_nil] at h
      exact .here x (.tup ho rfl rfl hl hz) h
    · have hw' : ¬ ws.toArray.isEmpty = true := fun q => hw (List.isEmpty_iff.mp (by rwa [List.isEmpty_toArray] at q))
      refine concat_meets ⟨_, ho, rfl⟩ ⟨_, ho2, rfl⟩ noFill_tuple_add seq_tuple_add PySem.F.slot_tuple_add PySem.F.entry_tuple_add (PySem.F.args_tuple_add_2 _ _)
        (tuple_addW2 a b vs.toArray ws.toArray n n2 dd dd2 sl sl2 hv' hw' (by rw [List.size_toArray, List.size_toArray]; exact seq_fits (by lia))) ⟨ho, ho2, ?_⟩
      rw [List.append_toArray]
      exact .tup x ok (hl.append hl2) (by rw [List.length_append]; exact h1) h
theorem bin_ok {C : Cx} (x : FS f m σ s) (ok : f.Ok) (rn : ∀ b, s.heap.get? b = none → C.ro b = none) {op : Operator} {a b : Value} {v u : V} (r : Rv s.heap a v) (q : Rv s.heap b u) {Q : PQ} (h : abin C op v u σ Q) :
    wpAny (model f.prog f.w) A (binaryOp op a b) (PE f m σ s.heap Q) E₀ s := by
  cases op with
  | Add =>
    rcases on4_inv h with ⟨i, rfl, h1⟩ | ⟨i, rfl, h1⟩ | ⟨i, rfl, h1⟩ | ⟨i, rfl, h1⟩
    · obtain ⟨j, rfl, h2⟩ := onInt_inv h1
      obtain ⟨t, rfl⟩ := r.intInv
      obtain ⟨t', rfl⟩ := q.intInv
      exact add_int (.of x ok (.int _ _) h2)
    · obtain ⟨j, rfl, h2⟩ := onStr_inv h1
      obtain ⟨t, rfl, ha⟩ := r.strInv
      obtain ⟨t', rfl, hb⟩ := q.strInv
      exact add_str (fun t' tk => .of x ok (.str _ _ (SF.append ha hb (of_decide_eq_true (onB_inv h2).1))) (onB_inv h2).2) (Nat.le_trans (of_decide_eq_true (onB_inv h2).1) (by decide +kernel))
    · obtain ⟨j, rfl, h2⟩ := onTup_inv h1
      exact bin_tup x ok r q rfl rfl (of_decide_eq_true (onB_inv h2).1) (onB_inv h2).2
    · obtain ⟨j, rfl, h2⟩ := onRef_inv h1
      obtain ⟨l, e1, h2⟩ := oL_inv h2
      obtain ⟨l', e2, h2⟩ := oL_inv h2
      obtain ⟨h3, h2⟩ := onB_inv h2
      exact bin_list x ok rn r q ⟨l, l', e1, e2, of_decide_eq_true h3, h2⟩ r.refInv q.refInv
  | Sub => exact two_ints r q h fun i t j t' h ea eb => by rw [ea, eb]; exact sub_int (.of x ok (.int _ _) h)
  | Mult => exact two_ints r q h fun i t j t' h ea eb => by rw [ea, eb]; exact mul_int (.of x ok (.int _ _) h.2) (mul_ok h.1)
  | Mod => exact two_ints r q h fun i t j t' h ea eb => by rw [ea, eb]; exact mod_int' h.1 (.of x ok (.int _ _) h.2)
  | FloorDiv => exact two_ints r q h fun i t j t' h ea eb => by rw [ea, eb]; exact floordiv_int h.1 (.of x ok (.int _ _) h.2.2) (.inl (PyProof.noPylong_of_log2 (natAbs_log h.2.1)))
  | Pow =>
    exact two_ints r q h fun i t j t' h ea eb => by
      rw [ea, eb]
      rcases h with ⟨rfl, h1, h2⟩ | ⟨rfl, rfl, h2⟩
      · exact pow_int (by exact Int.natCast_nonneg _) (by have := intBits_le h1; lia) (.of x ok (.int _ _) h2)
      · exact pow_int (by exact Int.natCast_nonneg _) (by decide) (.of x ok (.int _ _) h2)
  | _ => exact False.elim h
end
theorem V.depth_py (v : V) : v.flat = true → v.py.depth = v.dep :=
  V.rec (motive_1 := fun v => v.flat = true → v.py.depth = v.dep) (motive_2 := fun l => V.flats l = true → PyData.depthAll (V.pys l) = V.deps l)
    (fun _ => rfl) (fun _ _ => rfl) (fun _ _ => rfl) (fun _ _ => rfl) (fun _ ih h => congrArg (· + 1) (ih h)) (fun _ h => Bool.noConfusion h) (fun _ => rfl)
    (fun _ _ a b h => (congrArg (max · _) (a (Bool.and_eq_true_iff.mp h).1)).trans (congrArg (max _ ·) (b (Bool.and_eq_true_iff.mp h).2))) v
theorem V.depths_py (l : List V) (h : V.flats l = true) : PyData.depthAll (V.pys l) = V.deps l := Nat.succ.inj (V.depth_py (.tup l) h)
theorem Rv.reads {h : Heap} {cv : Value} {v : V} (r : Rv h cv v) : v.flat = true → (∃ as, Reads h cv v.py as) ∧ v.py.canLay0 = true :=
  Rv.rec (motive_1 := fun cv v _ => v.flat = true → (∃ as, Reads h cv v.py as) ∧ v.py.canLay0 = true) (motive_2 := fun vs l _ => V.flats l = true → (∃ as, ReadsAll h vs (V.pys l) as) ∧ PyData.canLayAll0 (V.pys l) = true)
    (fun _ => ⟨⟨_, .none⟩, rfl⟩) (fun b _ => ⟨⟨_, .bool b⟩, rfl⟩) (fun i t _ => ⟨⟨_, .int i t⟩, rfl⟩) (fun x t hs _ => ⟨⟨_, .str x t⟩, hs.1⟩) (fun _ hf => Bool.noConfusion hf)
    (fun ho hc hd _ _ ih hf => ⟨(ih hf).1.elim fun _ r => ⟨_, .tuple ho hc hd r⟩, (ih hf).2⟩) (fun _ => ⟨⟨_, .nil⟩, rfl⟩)
    (fun _ _ a b hf => ⟨(a (Bool.and_eq_true_iff.mp hf).1).1.elim fun _ r => (b (Bool.and_eq_true_iff.mp hf).2).1.elim fun _ r' => ⟨_, .cons r r'⟩, Bool.and_eq_true_iff.mpr ⟨(a (Bool.and_eq_true_iff.mp hf).1).2, (b (Bool.and_eq_true_iff.mp hf).2).2⟩⟩) r
theorem RvL.reads {h : Heap} {cv : List Value} {v : List V} (r : RvL h cv v) : V.flats v = true → (∃ as, ReadsAll h cv (V.pys v) as) ∧ PyData.canLayAll0 (V.pys v) = true :=
  r.ind (p := fun vs l => V.flats l = true → (∃ as, ReadsAll h vs (V.pys l) as) ∧ PyData.canLayAll0 (V.pys l) = true) (fun _ => ⟨⟨_, .nil⟩, rfl⟩)
    fun a _ b hf => ⟨(a.reads (Bool.and_eq_true_iff.mp hf).1).1.elim fun _ r => (b (Bool.and_eq_true_iff.mp hf).2).1.elim fun _ r' => ⟨_, .cons r r'⟩, Bool.and_eq_true_iff.mpr ⟨(a.reads (Bool.and_eq_true_iff.mp hf).1).2, (b (Bool.and_eq_true_iff.mp hf).2).2⟩⟩
structure CxB (C : Cx) (prog : Program) (w : World) (hB : Heap) : Prop where
  G : ∀ x v, C.G x = some v → ∃ cv mg, hB.Ns mainGlobals mg ∧ mg x = some cv ∧ Rv hB cv v
  ro : ∀ a o, C.ro a = some o → OM prog w hB a o ∧ (a == sysModules) = false
section
variable {f : Fx} {m : M} {σ σ' : AS} {s s' : Shared} {A : Around} {E₀ : Value → Shared → Prop} {C : Cx}
theorem CxB.roN {prog : Program} {w : World} {hB : Heap} (cb : CxB C prog w hB) {b : Addr} (e : hB.get? b = none) : C.ro b = none := by
  refine isN fun o q => ?_
  obtain ⟨_, h, _⟩ := (cb.ro b o q).1.lt; exact no2 e h
theorem FS.roN (x : FS f m σ s) (cb : CxB C f.prog f.w f.hB) (b : Addr) (h : s.heap.get? b = none) : C.ro b = none := cb.roN (x.hB_fresh h)
theorem FS.tupKB (x : FS f m σ s) : TupK f.hB s.heap := fun b o e _ _ => ⟨o.slots, x.at_.st _ _ e⟩
theorem FS.ro (x : FS f m σ s) (cb : CxB C f.prog f.w f.hB) {a : Addr} {o : AO} (e : C.ro a = some o) : OM f.prog f.w s.heap a o ∧ (a == sysModules) = false ∧ σ a = none := by
  obtain ⟨h, n⟩ := cb.ro a o e
  refine ⟨h.at (fun ob q => x.at_.st _ _ q) x.tupKB, n, ?_⟩
  refine isN fun ao q => ?_
  have := (x.at_.obj a ao q).2
  obtain ⟨ob, h', _⟩ := h.lt
  exact no2 this h'
theorem FS.noMods (x : FS f m σ s) (ok : f.Ok) {a : Addr} {o : AO} (e : σ a = some o) : (a == sysModules) = false := by
  rw [beq_eq_false_iff_ne]
  rintro rfl
  obtain ⟨ob, h⟩ := ok.base.mods
  rw [(x.at_.obj _ o e).2] at h; exact no1 h
theorem FS.look (x : FS f m σ s) (ok : f.Ok) (cb : CxB C f.prog f.w f.hB) {a : Addr} {o : AO} (e : C.look σ a = some o) : OM f.prog f.w s.heap a o ∧ (a == sysModules) = false := by
  unfold Cx.look at e
  cases q : σ a with
  | some o' => rw [q] at e; obtain rfl := Option.some.inj e; exact ⟨x.om q, x.noMods ok q⟩
  | none => rw [q] at e; obtain ⟨a, b, _⟩ := x.ro cb e; exact ⟨a, b⟩
theorem eqOk_reads (x : FS f m σ s) {cv : Value} {v : V} (r : Rv s.heap cv v) (h : eqOk σ v) : (∃ as, Reads s.heap cv (pyAt σ v) as) ∧ (pyAt σ v).canLay0 = true ∧ (pyAt σ v).depth ≤ 61 := by
  cases r with
  | ref a =>
    obtain ⟨l, e, hf, hd⟩ := h
    obtain ⟨vs, ⟨n, ho⟩, rl, _, _⟩ := x.list e
    obtain ⟨⟨as, r⟩, c⟩ := rl.reads hf
    simp only [pyAt, e]
    exact ⟨⟨_, .list ho rfl rfl (by simpa using r)⟩, c, by simp only [PyData.depth]; rw [V.depths_py l hf]; exact Nat.succ_le_succ ‹_›⟩
  | none => exact ⟨⟨_, .none⟩, rfl, Nat.zero_le _⟩
  | bool b => exact ⟨⟨_, .bool b⟩, rfl, Nat.zero_le _⟩
  | int i t => exact ⟨⟨_, .int i t⟩, rfl, Nat.zero_le _⟩
  | str w t hs => exact ⟨⟨_, .str w t⟩, hs.1, Nat.zero_le _⟩
  | tup ho hc hd hl hz =>
    have r := Rv.tup ho hc hd hl hz
    obtain ⟨p, c⟩ := r.reads h.1
    exact ⟨p, c, by show PyData.depth (V.py _) ≤ 61; rw [V.depth_py _ h.1]; exact Nat.le_trans h.2 (by exact Nat.le_add_left _ _)⟩
theorem valueAt_lookup {K : Type} [DecidableEq K] {h : Heap} {kvs : List (K × Value)} {es : List (K × V)} (r : RvD h kvs es) : ∀ k, match es.lookup k with
    | some v => ∃ cv, valueAt kvs k = some cv ∧ Rv h cv v
    | none => valueAt kvs k = none := by
  induction r with
  | nil => exact fun _ => rfl
  | @cons k' cv v kvs es hv hl ih =>
    intro k
    unfold valueAt at ih ⊢
    rw [List.lookup_cons, List.find?_cons]
    by_cases e : k = k'
    · rw [e, beq_self_eq_true, show decide (k' = k') = true from decide_eq_true rfl]
      exact ⟨_, rfl, hv⟩
    · rw [beq_eq_false_iff_ne.mpr e, show decide (k' = k) = false from decide_eq_false fun q => e q.symm]
      exact ih k
theorem valueAt_isSome {K : Type} [DecidableEq K] {h : Heap} {kvs : List (K × Value)} {es : List (K × V)} (r : RvD h kvs es) (k : K) : (valueAt kvs k).isSome = (es.lookup k).isSome := by
  have := valueAt_lookup r k
  cases q : es.lookup k with
  | none => rw [q] at this; rw [this]; rfl
  | some v => rw [q] at this; obtain ⟨cv, e, _⟩ := this; rw [e]; rfl
theorem strKind_self (prog : Program) (w : World) (x : Str) (t : Tok) : (PySem.strKind prog w).is x (.str x t) = true := by simp [PySem.strKind, Value.isStrOf]
theorem intKind_self (prog : Program) (w : World) (x : Int) (t : Tok) : (intKind prog w).is x (.int x t) = true := by simp [intKind, Value.isInt]
theorem Rv.noneEq {h : Heap} {cv : Value} {v : V} (r : Rv h cv v) : (cv == Value.none) = v.isNone := by cases r <;> rfl
theorem Rv.noneInv {h : Heap} {cv : Value} (r : Rv h cv .none) : cv = .none := by cases r; rfl
theorem ord_ok (x : FS f m σ s) {a b : Value} {v u : V} (r : Rv s.heap a v) (q : Rv s.heap b u) {p : Int → Int → Bool} {Q : PQ} (h : aord p v u σ Q) {op : CmpOp}
    (hi : ∀ i t j t', PE f m σ s.heap Q (.bool (p i j)) s → wpAny (model f.prog f.w) A (compareOp op (.int i t) (.int j t')) (PE f m σ s.heap Q) E₀ s)
    (hs : ∀ i t j t', (∀ c, PE f m σ s.heap Q (.bool c) s) → wpAny (model f.prog f.w) A (compareOp op (.str i t) (.str j t')) (PE f m σ s.heap Q) E₀ s) : wpAny (model f.prog f.w) A (compareOp op a b) (PE f m σ s.heap Q) E₀ s := by
  rcases on4_inv h with ⟨i, rfl, h1⟩ | ⟨i, rfl, h1⟩ | ⟨i, rfl, h1⟩ | ⟨i, rfl, h1⟩
  · obtain ⟨j, rfl, h2⟩ := onInt_inv h1
    obtain ⟨t, rfl⟩ := r.intInv
    obtain ⟨t', rfl⟩ := q.intInv
    exact hi _ _ _ _ (.here x (.bool _) h2)
  · obtain ⟨j, rfl, h2⟩ := onStr_inv h1
    obtain ⟨t, rfl, _⟩ := r.strInv
    obtain ⟨t', rfl, _⟩ := q.strInv
    exact hs _ _ _ _ fun c => .here x (.bool _) (h2 c)
  · exact h1.elim
  · exact h1.elim
theorem in_ok (x : FS f m σ s) (ok : f.Ok) (cb : CxB C f.prog f.w f.hB) (hu : A.units ≤ 9000) {a b : Value} {v u : V} (r : Rv s.heap a v) (q : Rv s.heap b u) {Q : PQ} (h : acmp C .In v u σ Q) :
    wpAny (model f.prog f.w) A (compareOp .In a b) (PE f m σ s.heap Q) E₀ s := by
  rcases on4_inv h with ⟨i, rfl, h1⟩ | ⟨i, rfl, h1⟩ | ⟨i, rfl, h1⟩ | ⟨i, rfl, h1⟩
  · exact h1.elim
  · obtain ⟨j, rfl, h2⟩ := onStr_inv h1
    obtain ⟨t, rfl, _⟩ := r.strInv
    obtain ⟨t', rfl, _⟩ := q.strInv
    exact in_str (.here x (.bool _) (h2 _))
  · obtain ⟨k0, k5⟩ := onB_inv h1
    obtain ⟨k1, k3⟩ := and2 k0
    obtain ⟨k1, k2⟩ := and2 k1
    obtain ⟨k3, k4⟩ := and2 k3
    replace k2 := of_decide_eq_true k2
    replace k4 := of_decide_eq_true k4
    obtain ⟨⟨as, ra⟩, ca⟩ := r.reads k1
    obtain ⟨⟨bs, rb⟩, cb⟩ := q.reads (show V.flat (.tup i) = true from k3)
    refine PySem.SeqAt.in_tuple_reads rb ra cb ca ?_ (.here x (.bool _) k5)
    rw [V.depths_py i k3]
    have hc : cLine = 9900 := rfl
    lia
  · obtain rfl := q.refInv
    rcases on4_inv h1 with ⟨z, rfl, h2⟩ | ⟨z, rfl, h2⟩ | ⟨z, rfl, h2⟩ | ⟨z, rfl, h2⟩
    · obtain ⟨t', rfl⟩ := r.intInv
      obtain ⟨es, e, h3⟩ := oDi_inv h2
      obtain ⟨⟨kvs, hd, rd⟩, hn⟩ := x.look ok cb e
      exact wpAny_in_of (intKind_self _ _ z t') hn hd.mapOf (by rw [valueAt_isSome rd]; exact .of x ok (.bool _) h3)
    · obtain ⟨t', rfl, _⟩ := r.strInv
      obtain ⟨es, e, h3⟩ := oDs_inv h2
      obtain ⟨⟨kvs, hd, rd⟩, hn⟩ := x.look ok cb e
      exact wpAny_in_of (strKind_self _ _ z t') hn hd.mapOf (by rw [valueAt_isSome rd]; exact .of x ok (.bool _) h3)
    · exact h2.elim
    · exact h2.elim
theorem plain_inv {v : V} (h : plainB v = true) : v.flat = true ∧ v.dep ≤ 60 := ⟨(and2 h).1, of_decide_eq_true (and2 h).2⟩
theorem eqB_ok {v : V} (h : eqB σ v = true) : eqOk σ v := by
  cases v with
  | ref a =>
    have h : listB (σ a) = true := h
    cases e : σ a with
    | none => rw [e] at h; exact bft h
    | some o => rw [e] at h; cases o with
      | list l => exact ⟨l, e, (and2 h).1, of_decide_eq_true (and2 h).2⟩
      | _ => exact bft h
  | _ => exact plain_inv h
theorem eq_ok (x : FS f m σ s) (hu : A.units ≤ 9000) {a b : Value} {v u : V} (r : Rv s.heap a v) (q : Rv s.heap b u) (h : eqOk σ v ∧ eqOk σ u) :
    (∀ {Q : PQ}, Q (.bool (PyData.eqv (pyAt σ v) (pyAt σ u))) σ → wpAny (model f.prog f.w) A (compareOp .Eq a b) (PE f m σ s.heap Q) E₀ s) ∧ ∀ {Q : PQ}, Q (.bool (!PyData.eqv (pyAt σ v) (pyAt σ u))) σ → wpAny (model f.prog f.w) A (compareOp .NotEq a b) (PE f m σ s.heap Q) E₀ s := by
  have hc : cLine = 9900 := rfl
  obtain ⟨⟨as, ra⟩, ca, da⟩ := eqOk_reads x r h.1
  obtain ⟨⟨bs, rb⟩, cb, db⟩ := eqOk_reads x q h.2
  exact ⟨fun h => PySem.SeqAt.compareEq_reads ra rb ca cb (by lia) (.here x (.bool _) h), fun h => PySem.SeqAt.compareNe_reads ra rb ca cb (by lia) (.here x (.bool _) h)⟩
theorem cmp_ok (x : FS f m σ s) (ok : f.Ok) (cb : CxB C f.prog f.w f.hB) (hu : A.units ≤ 9000) {op : CmpOp} {a b : Value} {v u : V} (r : Rv s.heap a v) (q : Rv s.heap b u) {Q : PQ} (h : acmp C op v u σ Q) :
    wpAny (model f.prog f.w) A (compareOp op a b) (PE f m σ s.heap Q) E₀ s := by
  cases op with
  | Eq => exact (eq_ok x hu r q ((and2 (onB_inv h).1).imp eqB_ok eqB_ok)).1 (onB_inv h).2
  | NotEq => exact (eq_ok x hu r q ((and2 (onB_inv h).1).imp eqB_ok eqB_ok)).2 (onB_inv h).2
  | Lt => exact ord_ok x r q h (fun _ _ _ _ k => P.lt_int k) (fun _ _ _ _ k => P.lt_str (k _))
  | LtE => exact ord_ok x r q h (fun _ _ _ _ k => P.le_int k) (fun _ _ _ _ k => P.le_str (k _))
  | Gt => exact ord_ok x r q h (fun _ _ _ _ k => P.gt_int k) (fun _ _ _ _ k => P.gt_str (k _))
  | GtE => exact ord_ok x r q h (fun _ _ _ _ k => P.ge_int k) (fun _ _ _ _ k => P.ge_str (k _))
  | Is =>
    obtain ⟨rfl, h1⟩ := onNone_inv h
    rw [q.noneInv]
    exact wpAny_is_plain (by cases r <;> rfl) (by rw [r.noneEq]; exact .here x (.bool _) h1)
  | IsNot =>
    obtain ⟨rfl, h1⟩ := onNone_inv h
    rw [q.noneInv]
    exact wpAny_isNot_plain (by cases r <;> rfl) (by rw [r.noneEq]; exact .here x (.bool _) h1)
  | In => exact in_ok x ok cb hu r q h
  | NotIn => exact False.elim h
end
section
variable {f : Fx} {m : M} {σ σ' : AS} {s s' : Shared} {A : Around} {E₀ : Value → Shared → Prop} {C : Cx}
theorem RvL.getElem {h : Heap} {vs : List Value} {l : List V} (r : RvL h vs l) {i : Nat} {x : V} (e : l[i]? = some x) : ∃ v, vs[i]? = some v ∧ Rv h v x := r.get i x e
theorem seqIdx {i : Int} {n : Nat} (h0 : 0 ≤ i) (h1 : i < n) : seqIndex? i n = some i.toNat := by
  unfold seqIndex?
  have : (if i < 0 then i + (n : Int) else i) = i := if_neg (by lia)
  simp only [this]
  rw [if_pos (by simp only [Bool.and_eq_true, decide_eq_true_eq]; lia)]
theorem idx_at (x : FS f m σ s) (ok : f.Ok) {value slice : PySem.Expr} {a : Value} {v : V} (r : Rv s.heap a v) {i : Int} {t : Tok} {Q : PQ} (h : aidx C v (.int i) σ Q)
    (hs : ∀ o i, subscripted slice false o i = operate [o, i] (getItem o i)) : wpAny (model f.prog f.w) A (subscriptTail value slice a (.int i t)) (PE f m σ s.heap Q) E₀ s := by
  have hm : seqMost = 1000000 := rfl
  rcases on4_inv (v := v) h with ⟨_, _, h1⟩ | ⟨y, rfl, h1⟩ | ⟨l, rfl, h1⟩ | ⟨z, rfl, h1⟩
  · exact h1.elim
  · obtain ⟨t', rfl, hy⟩ := r.strInv
    obtain ⟨h0, h2⟩ := onB_inv h1
    obtain ⟨h0, h1⟩ := and2 h0
    replace h0 := of_decide_eq_true h0
    replace h1 := of_decide_eq_true h1
    have hlt : i.toNat < y.cps.size := by
      have : y.length = y.cps.size := rfl
      lia
    have he : y.cps[i.toNat]! = y.cps[i.toNat] := getElem!_pos ..
    refine tail_any (typeIs_str s y t') F.slot_str_getitem.lookup (P.getItem_str (c := y.cps[i.toNat]!) (by have := hy.2; simp; lia) ?_ (.of x ok (.str _ _ ?_) h2)) (hs _ _)
    · rw [seqIdx h0 (by omega), he]
      exact Array.getElem?_eq_getElem hlt
    · refine ⟨?_, by show 1 ≤ 2 ^ 40; decide⟩
      rw [he]
      have h3 : y.cps.all (fun c => decide (c < 1114112)) = true := hy.1
      have := Array.all_eq_true.mp h3 i.toNat hlt
      show (#[y.cps[i.toNat]].all fun c => decide (c < 1114112)) = true
      rw [Array.all_eq_true]
      intro k hk
      obtain rfl : k = 0 := Nat.lt_one_iff.mp hk
      exact this
  · obtain ⟨h0, h1⟩ := onB_inv h1
    replace h0 := of_decide_eq_true h0
    obtain ⟨y, e, h2⟩ := oS_inv h1
    cases r with | tup ho hc hd hl hz =>
    obtain ⟨w, ew, rw⟩ := hl.getElem e
    have hlt : i.toNat < l.length := (List.getElem?_eq_some_iff.mp e).1
    have hlen := hl.length
    have ht : IsTup s.heap _ _ := ⟨_, ho, hc, _, hd⟩
    exact tail_any ht.typeIs slot_tuple_getitem.lookup (getItem_tuple ht (by lia) (by lia) (j := i.toNat) (by rw [List.size_toArray]; exact seqIdx h0 (by lia)) (by rw [List.getElem?_toArray]; exact ew) (.here x rw h2)) (hs _ _)
  · obtain rfl := r.refInv
    rcases oLD_inv h1 with ⟨l, e, h1⟩ | ⟨es, e, h1⟩
    · obtain ⟨h0, h1⟩ := onB_inv h1
      replace h0 := of_decide_eq_true h0
      obtain ⟨y, e2, h2⟩ := oS_inv h1
      obtain ⟨vs, hp, rl, hz, hlen⟩ := x.list e
      obtain ⟨w, ew, rw⟩ := rl.getElem e2
      have hlt : i.toNat < l.length := (List.getElem?_eq_some_iff.mp e2).1
      have hL := plain_isList hp
      exact tail_any hL.typeIs slot_list_getitem.lookup (wpAny_getItem_list hL h0 (by lia) (by rw [List.getElem?_toArray]; exact ew) (.here x rw h2)) (hs _ _)
    · obtain ⟨y, e2, h2⟩ := oS_inv h1
      obtain ⟨kvs, hd, rd⟩ := x.om e
      have hv := valueAt_lookup rd i
      rw [e2] at hv
      obtain ⟨cv, e3, rc⟩ := hv
      exact tail_any hd.typeIs slot_dict_getitem.lookup (wpAny_getItem_of (intKind_self _ _ i t) hd.mapOf e3 (.of x ok rc h2)) (hs _ _)
theorem idx_ok (x : FS f m σ s) (ok : f.Ok) (cb : CxB C f.prog f.w f.hB) {value slice : PySem.Expr} {a b : Value} {v u : V} (r : Rv s.heap a v) (q : Rv s.heap b u) {Q : PQ} (h : aidx C v u σ Q)
    (hs : ∀ o i, subscripted slice false o i = operate [o, i] (getItem o i)) : wpAny (model f.prog f.w) A (subscriptTail value slice a b) (PE f m σ s.heap Q) E₀ s := by
  rcases on4_inv (v := u) h with ⟨i, rfl, h1⟩ | ⟨i, rfl, h1⟩ | ⟨_, _, h1⟩ | ⟨_, _, h1⟩
  · obtain ⟨t, rfl⟩ := q.intInv
    exact idx_at x ok r h hs
  · obtain ⟨t, rfl, _⟩ := q.strInv
    obtain ⟨z, rfl, h2⟩ := onRef_inv h1
    obtain rfl := r.refInv
    obtain ⟨es, e, h2⟩ := oDs_inv h2
    obtain ⟨y, e2, h3⟩ := oS_inv h2
    obtain ⟨⟨kvs, hd, rd⟩, hn⟩ := x.look ok cb e
    have hv := valueAt_lookup rd i
    rw [e2] at hv
    obtain ⟨cv, e3, rc⟩ := hv
    exact tail_any hd.typeIs slot_dict_getitem.lookup (wpAny_getItem_of (strKind_self _ _ i t) hd.mapOf e3 (.of x ok rc h3)) (hs _ _)
  · exact h1.elim
  · exact h1.elim
theorem cut_plain {α : Type} (l : List α) (lo up : Option Int) (h1 : cutOk lo) (h2 : cutOk up) :
    (l.drop (lo.elim 0 (clipAt l.length))).take (up.elim l.length (clipAt l.length) - lo.elim 0 (clipAt l.length)) = cutL l lo up := by
  have hc : ∀ i : Int, 0 ≤ i → clipAt l.length i = min i.toNat l.length := fun i h => by
    have := clipAt_nat l.length i.toNat
    rwa [show ((i.toNat : Nat) : Int) = i by lia] at this
  unfold cutL
  cases lo <;> cases up
  · simp
  · rename_i u
    simp only [Option.elim, List.drop_zero, Nat.sub_zero, hc u h2.1]
    rcases Nat.le_total u.toNat l.length with h | h
    · rw [Nat.min_eq_left h]
    · rw [Nat.min_eq_right h, List.take_of_length_le (Nat.le_refl _), List.take_of_length_le h]
  · rename_i a
    simp only [Option.elim, hc a h1.1]
    rcases Nat.le_total a.toNat l.length with h | h
    · rw [Nat.min_eq_left h, List.take_of_length_le (by simp)]
    · rw [Nat.min_eq_right h, List.drop_of_length_le (Nat.le_refl _), List.drop_of_length_le h]; simp
  · rename_i a u
    simp only [Option.elim, hc a h1.1, hc u h2.1]
    rw [List.drop_take]
    apply List.ext_getElem?
    intro k
    simp only [List.getElem?_take, List.getElem?_drop]
    rcases Nat.le_total a.toNat l.length with ha | ha <;> rcases Nat.le_total u.toNat l.length with hu | hu
    · rw [Nat.min_eq_left ha, Nat.min_eq_left hu]
    · rw [Nat.min_eq_left ha, Nat.min_eq_right hu]
      by_cases hk : a.toNat + k < l.length
      · rw [if_pos (by lia), if_pos (by lia)]
      · have : l[a.toNat + k]? = none := List.getElem?_eq_none (by exact Nat.le_of_not_lt ‹_›)
        rw [this]; simp
    · have e1 : l[a.toNat + k]? = none := List.getElem?_eq_none (by lia)
      have e2 : l[min a.toNat l.length + k]? = none := List.getElem?_eq_none (by lia)
      rw [e1, e2]; simp
    · have e1 : l[a.toNat + k]? = none := List.getElem?_eq_none (by lia)
      have e2 : l[min a.toNat l.length + k]? = none := List.getElem?_eq_none (by lia)
      rw [e1, e2]; simp
theorem RvL.cut {h : Heap} {vs : List Value} {l : List V} (r : RvL h vs l) (lo up : Option Int) : RvL h (cutL vs lo up) (cutL l lo up) := by
  unfold cutL
  cases up with
  | none => exact r.drop _
  | some u => exact (r.take _).drop _
theorem cutL_len {α : Type} (l : List α) (lo up : Option Int) : (cutL l lo up).length ≤ l.length := by
  unfold cutL
  cases up <;> simp <;> lia
theorem str_bounds (lo up : Option Int) (n : Nat) : Builtin.Str.strSliceIndices lo up 1 n = sliceRange (sliceBounds lo up none n).1 (sliceBounds lo up none n).2.1 1 := by
  cases lo <;> cases up <;> rfl
theorem str_cut (y : Str) (lo up : Option Int) (h1 : cutOk lo) (h2 : cutOk up) : (Builtin.Str.strSliceIndices lo up 1 y.cps.size).filterMap (y.cps[·]?) = cutL y.cps.toList lo up := by
  rw [str_bounds, sliceBounds_plain]
  simp only [sliceRange_one, pick_run]
  exact cut_plain y.cps.toList lo up h1 h2
theorem cut_all {α : Type} (l : List α) (lo up : Option Int) (h : (cutL l lo up).length = l.length) : cutL l lo up = l := by
  unfold cutL at h ⊢
  cases up with
  | none =>
    simp only [List.length_drop] at h
    rcases Nat.eq_zero_or_pos (lo.elim 0 Int.toNat) with e | e
    · rw [e]; rfl
    · have : l.length = 0 := by lia
      have : l = [] := by cases l <;> simp_all
      subst this; simp
  | some u =>
    simp only [List.length_drop, List.length_take] at h
    by_cases hl : l = []
    · subst hl; simp
    · have : 0 < l.length := by cases l <;> simp_all
      have e : (lo.elim 0 Int.toNat) = 0 := by lia
      rw [e] at h ⊢
      rw [List.drop_zero]
      exact List.take_of_length_le (by lia)
theorem SF.cut {y : Str} (hy : SF y) (lo up : Option Int) : SF (cutS y lo up) := by
  refine ⟨?_, ?_⟩
  · have h2 := hy.1
    revert h2
    simp only [PyData.strOk, cutS]
    intro h2
    rw [List.all_toArray]
    rw [← Array.all_toList] at h2
    rw [List.all_eq_true] at h2 ⊢
    intro c hc
    refine h2 c ?_
    unfold cutL at hc
    cases up with
    | none => exact List.mem_of_mem_drop hc
    | some u => exact List.mem_of_mem_take (List.mem_of_mem_drop hc)
  · have := cutL_len y.cps.toList lo up
    have h3 := hy.2
    show (cutL y.cps.toList lo up).toArray.size ≤ 2 ^ 40
    have : y.length = y.cps.size := rfl
    simp only [List.size_toArray, Array.length_toList] at *
    lia
theorem part_read {vl : Value} {lo : Option Int} (p : IsPart vl lo) {Q : Option Int → Shared → Prop} (h : Q lo s) : wpAny (model f.prog f.w) A (Builtin.Slice.slicePartIndex vl) Q E₀ s := by
  cases p with
  | none => exact slicePart_none h
  | int i t => exact slicePart_int h
theorem part_partValue {vl : Value} {lo : Option Int} (p : IsPart vl lo) : ∃ l, vl = partValue l ∧ l.map (·.1) = lo := by
  cases p with
  | none => exact ⟨none, rfl, rfl⟩
  | int i t => exact ⟨some (i, t), rfl, rfl⟩
theorem adjust_plain (lo up : Option Int) (n : Nat) (h1 : cutOk lo) (h2 : cutOk up) :
    Builtin.Slice.sliceAdjust lo up 1 (n : Int) = (((lo.elim 0 (clipAt n) : Nat) : Int), ((up.elim n (clipAt n) : Nat) : Int)) := by
  have hc : ∀ i : Int, 0 ≤ i → ((clipAt n i : Nat) : Int) = min i n := fun i h => by
    rw [clipAt_cast, if_neg (by lia)]; lia
  unfold Builtin.Slice.sliceAdjust
  cases lo <;> cases up <;> simp only [Option.elim, show ¬ ((1 : Int) < 0) by decide, if_false]
  · rfl
  · rename_i u
    rw [if_neg (by have := h2.1; lia), hc u h2.1]; rfl
  · rename_i a
    rw [if_neg (by have := h1.1; lia), hc a h1.1]
  · rename_i a u
    rw [if_neg (by have := h1.1; lia), if_neg (by have := h2.1; lia), hc a h1.1, hc u h2.1]
theorem places_plain (a b : Nat) : Builtin.Slice.slicePlaces (a : Int) (b : Int) 1 = b - a := by
  unfold Builtin.Slice.slicePlaces
  simp only [show (1 : Int) > 0 by exact Int.natCast_nonneg _, if_true, Int.ediv_one]
  split <;> lia
theorem getItem_tuple_cut {t sl : Addr} {vs : List Value} {vl vu : Value} {lo up : Option Int} {Q : Value → Shared → Prop} (ht : IsTup s.heap t vs.toArray) (hs : s.heap.IsSliceOf sl vl vu .none) (pl : IsPart vl lo) (pu : IsPart vu up)
    (h1 : cutOk lo) (h2 : cutOk up) (hw : cutL vs lo up = vs → Q (.ref t) s) (h : Q (.ref s.heap.objs.size) { s with heap := s.heap.push (tupObj (cutL vs lo up)) }) (hsz : vs.length ≤ sizeLine) :
    wpAny (model f.prog f.w) A (getItem (.ref t) (.ref sl)) Q E₀ s := by
  have hdrop : sizeOk (.seq (cutL vs lo up).toArray) := by
    show (cutL vs lo up).toArray.size ≤ sizeLine
    rw [List.size_toArray]
    exact Nat.le_trans (cutL_len _ _ _) hsz
  obtain ⟨os, hos, hcs, hds⟩ := id hs
  have hTs : s.TypeIs (.ref sl) "slice" := ⟨os, hos, hcs⟩
  unfold getItem
  try with_reducible refine wpAny_holding ?_
  first | refine wpAny_bind (wpAny_pure ?_) | skip
  refine wpAny_bind (wpAny_sequenceKey ht.typeIs (by decide) ?_)
  refine wpAny_bind (wpAny_callSpecial?_slot (name := Str.ofString "__getitem__") ht.typeIs slot_tuple_getitem
    (wpAny_call_entry slot_tuple_getitem ht.typeIs entry_tuple_getitem ?_ (args_tuple_getitem _ _)))
  show wpAny _ _ (Builtin.Tuple.tupleItemsOf (.ref t) >>= _) _ _ s
  refine wpAny_bind (tupleItemsOf_ ht ?_)
  refine wpAny_bind (wpAny_typeOf hTs ?_)
  rw [if_pos (by decide)]
  have hn : (vs.toArray.size : Int) = ((vs.length : Nat) : Int) := by simp
  have key : ∀ {R : Int × Int × Nat → Shared → Prop}, R (((lo.elim 0 (clipAt vs.length) : Nat) : Int), 1, up.elim vs.length (clipAt vs.length) - lo.elim 0 (clipAt vs.length)) s →
      wpAny (model f.prog f.w) A.in1 (Builtin.Slice.sliceApplied (.ref sl) (pure (vs.toArray.size : Int))) R E₀ s := fun {R} hR => by
    unfold Builtin.Slice.sliceApplied Builtin.Slice.sliceFields
    refine wpAny_bind (wpAny_bind (wpAny_field hos hds (x := vl) rfl (wpAny_bind (wpAny_field hos hds (x := vu) rfl (wpAny_bind (wpAny_field hos hds (x := .none) rfl (wpAny_pure ?_)))))))
    refine wpAny_bind (slicePart_none ?_)
    show wpAny _ _ (if ((1 : Int) == 0) = true then _ else _) _ _ s
    rw [if_neg (by decide)]
    refine wpAny_bind (part_read pl (wpAny_bind (part_read pu (wpAny_bind (wpAny_pure ?_)))))
    show wpAny _ _ (match Builtin.Slice.sliceAdjust lo up 1 (vs.toArray.size : Int) with | (lo, hi) => pure (lo, (1 : Int), Builtin.Slice.slicePlaces lo hi 1)) _ _ s
    rw [hn, adjust_plain lo up vs.length h1 h2]
    show wpAny _ _ (pure (((lo.elim 0 (clipAt vs.length) : Nat) : Int), (1 : Int), Builtin.Slice.slicePlaces _ _ 1)) _ _ s
    rw [places_plain]
    exact wpAny_pure hR
  refine wpAny_bind (key ?_)
  have hpick : ((List.range (up.elim vs.length (clipAt vs.length) - lo.elim 0 (clipAt vs.length))).filterMap fun (k : Nat) => vs.toArray[(((lo.elim 0 (clipAt vs.length) : Nat) : Int) + (k : Int) * 1).toNat]?).toArray = (cutL vs lo up).toArray := by
    rw [← cut_plain vs lo up h1 h2]
    have e : (fun (k : Nat) => vs.toArray[(((lo.elim 0 (clipAt vs.length) : Nat) : Int) + (k : Int) * 1).toNat]?) = fun k => vs.toArray[lo.elim 0 (clipAt vs.length) + k]? := by
      funext k
      have : (((lo.elim 0 (clipAt vs.length) : Nat) : Int) + (k : Int) * 1).toNat = lo.elim 0 (clipAt vs.length) + k := by lia
      rw [this]
    rw [e]
    have := pick_run vs.toArray (lo.elim 0 (clipAt vs.length)) (up.elim vs.length (clipAt vs.length) - lo.elim 0 (clipAt vs.length))
    rw [List.filterMap_map] at this
    have e2 : ((fun x => vs.toArray[x]?) ∘ fun x => lo.elim 0 (clipAt vs.length) + x) = fun k => vs.toArray[lo.elim 0 (clipAt vs.length) + k]? := rfl
    rw [e2] at this
    rw [this]
  show wpAny _ _ (if (((lo.elim 0 (clipAt vs.length) : Nat) : Int) == 0 && (1 : Int) == 1 && (up.elim vs.length (clipAt vs.length) - lo.elim 0 (clipAt vs.length)) == vs.toArray.size) = true then _ else _) _ _ s
  have tail : ∀ {B : Around} {R : Fin → Shared → Prop}, R (.done (.ret (.ref s.heap.objs.size))) { s with heap := s.heap.push (tupObj (cutL vs lo up)) } →
      wpAny (model f.prog f.w) B (do let v ← Builtin.Tuple.tupleExact (cutL vs lo up).toArray; ret v) R E₀ s := fun hR => by
    first
      | exact wpAny_bind (m := Builtin.Tuple.tupleExact _) (wpAny_newObj_type (wpAny_pure hR) hdrop)
      | exact wpAny_bind (m := Builtin.Tuple.tupleExact _) (wpAny_newObj_type (wpAny_bind (wpAny_pure (wpAny_pure hR))) hdrop)
  rw [hpick]
  split
  · rename_i hc
    simp only [Bool.and_eq_true, beq_iff_eq, List.size_toArray] at hc
    have hall : cutL vs lo up = vs := by
      rw [← cut_plain vs lo up h1 h2, hc.2]
      have : lo.elim 0 (clipAt vs.length) = 0 := by have := hc.1.1; lia
      rw [this, List.drop_zero, List.take_of_length_le (Nat.le_refl _)]
    have hT := ht.typeIs
    refine wpAny_bind (m := Builtin.Tuple.tupleIsExact _) (wpAny_bind (wpAny_typeOf hT (wpAny_pure ?_)))
    rw [if_pos (by decide)]
    first
      | exact wpAny_bind (wpAny_rule (wpAny_bind (wpAny_pure (wpAny_pure ⟨_, rfl, wpAny_pure (hw hall)⟩))))
      | exact wpAny_bind (wpAny_rule (wpAny_pure ⟨_, rfl, wpAny_pure (hw hall)⟩))
      | exact wpAny_bind (wpAny_rule (wpAny_pure (wpAny_pure ⟨_, rfl, hw hall⟩)))
      | exact wpAny_bind (wpAny_rule (wpAny_pure ⟨_, rfl, hw hall⟩))
  · first
      | exact tail ⟨_, rfl, wpAny_pure h⟩
      | exact wpAny_bind (wpAny_pure (tail ⟨_, rfl, wpAny_pure h⟩))
theorem filterMap_some {α β : Type} {p : α → Option β} {g : α → β} : ∀ {l : List α}, (∀ x ∈ l, p x = some (g x)) → l.filterMap p = l.map g
  | [], _ => rfl
  | x :: l, h => by
    rw [List.filterMap_cons, h x (.head _), List.map_cons, filterMap_some fun y hy => h y (.tail _ hy)]
theorem reversed_pick {vs : List Value} : (((List.range vs.length).filterMap fun (k : Nat) => vs.toArray[(((vs.length : Int) - 1) + (k : Int) * -1).toNat]?).toArray) = vs.reverse.toArray := by
  congr 1
  apply List.ext_getElem?
  intro i
  have h : ∀ k ∈ List.range vs.length, vs.toArray[(((vs.length : Int) - 1) + (k : Int) * -1).toNat]? = some (vs.reverse.getD k default) := fun k hk => by
    have hk := List.mem_range.mp hk
    have e : (((vs.length : Int) - 1) + (k : Int) * -1).toNat = vs.length - 1 - k := by lia
    rw [e]
    simp only [List.getElem?_toArray, List.getD_eq_getElem?_getD]
    rw [List.getElem?_reverse hk]
    have : vs.length - 1 - k < vs.length := by omega
    simp [this]
  have : (List.range vs.length).filterMap (fun (k : Nat) => vs.toArray[(((vs.length : Int) - 1) + (k : Int) * -1).toNat]?) = (List.range vs.length).map fun k => vs.reverse.getD k default := by
    exact filterMap_some h
  rw [this]
  simp only [List.getElem?_map]
  by_cases hi : i < vs.length
  · rw [List.getElem?_range hi]
    simp only [Option.map_some, List.getD_eq_getElem?_getD]
    rw [List.getElem?_eq_getElem (by simpa using hi)]
    simp
  · rw [List.getElem?_eq_none (by simpa using hi), List.getElem?_eq_none (by simpa using hi)]; rfl
theorem getItem_tuple_rev {t sl : Addr} {vs : List Value} {u : Tok} {Q : Value → Shared → Prop} (ht : IsTup s.heap t vs.toArray) (hs : s.heap.IsSliceOf sl .none .none (.int (-1) u))
    (h : Q (.ref s.heap.objs.size) { s with heap := s.heap.push (tupObj vs.reverse) }) (hsz : vs.length ≤ sizeLine) :
    wpAny (model f.prog f.w) A (getItem (.ref t) (.ref sl)) Q E₀ s := by
  have hdrop : sizeOk (.seq vs.reverse.toArray) := by
    show vs.reverse.toArray.size ≤ sizeLine
    simpa using hsz
  obtain ⟨os, hos, hcs, hds⟩ := id hs
  have hTs : s.TypeIs (.ref sl) "slice" := ⟨os, hos, hcs⟩
  unfold getItem
  try with_reducible refine wpAny_holding ?_
  first | refine wpAny_bind (wpAny_pure ?_) | skip
  refine wpAny_bind (wpAny_sequenceKey ht.typeIs (by decide) ?_)
  refine wpAny_bind (wpAny_callSpecial?_slot (name := Str.ofString "__getitem__") ht.typeIs slot_tuple_getitem
    (wpAny_call_entry slot_tuple_getitem ht.typeIs entry_tuple_getitem ?_ (args_tuple_getitem _ _)))
  show wpAny _ _ (Builtin.Tuple.tupleItemsOf (.ref t) >>= _) _ _ s
  refine wpAny_bind (tupleItemsOf_ ht ?_)
  refine wpAny_bind (wpAny_typeOf hTs ?_)
  rw [if_pos (by decide)]
  have key : ∀ {R : Int × Int × Nat → Shared → Prop}, R ((vs.length : Int) - 1, -1, vs.length) s →
      wpAny (model f.prog f.w) A.in1 (Builtin.Slice.sliceApplied (.ref sl) (pure (vs.toArray.size : Int))) R E₀ s := fun {R} hR => by
    unfold Builtin.Slice.sliceApplied Builtin.Slice.sliceFields
    refine wpAny_bind (wpAny_bind (wpAny_field hos hds (x := .none) rfl (wpAny_bind (wpAny_field hos hds (x := .none) rfl (wpAny_bind (wpAny_field hos hds (x := .int (-1) u) rfl (wpAny_pure ?_)))))))
    refine wpAny_bind (slicePart_int ?_)
    show wpAny _ _ (if ((-1 : Int) == 0) = true then _ else _) _ _ s
    rw [if_neg (by decide)]
    refine wpAny_bind (slicePart_none (wpAny_bind (slicePart_none (wpAny_bind (wpAny_pure ?_)))))
    show wpAny _ _ (pure ((vs.toArray.size : Int) - 1, (-1 : Int), Builtin.Slice.slicePlaces ((vs.toArray.size : Int) - 1) (-1) (-1))) _ _ s
    have e1 : (vs.toArray.size : Int) = (vs.length : Int) := by simp
    have e2 : Builtin.Slice.slicePlaces ((vs.length : Int) - 1) (-1) (-1) = vs.length := by
      unfold Builtin.Slice.slicePlaces
      rw [if_neg (by decide)]
      split
      · have : ((vs.length : Int) - 1 - -1 - 1) / (- -1) = (vs.length : Int) - 1 := by
          rw [show (- -1 : Int) = 1 by decide, Int.ediv_one]; lia
        rw [this]; lia
      · lia
    rw [e1, e2]
    exact wpAny_pure hR
  refine wpAny_bind (key ?_)
  show wpAny _ _ (if (((vs.length : Int) - 1) == 0 && (-1 : Int) == 1 && vs.length == vs.toArray.size) = true then _ else _) _ _ s
  rw [if_neg (by simp), reversed_pick]
  have tail : ∀ {B : Around} {R : Fin → Shared → Prop}, R (.done (.ret (.ref s.heap.objs.size))) { s with heap := s.heap.push (tupObj vs.reverse) } →
      wpAny (model f.prog f.w) B (do let v ← Builtin.Tuple.tupleExact vs.reverse.toArray; ret v) R E₀ s := fun hR => by
    first
      | exact wpAny_bind (m := Builtin.Tuple.tupleExact _) (wpAny_newObj_type (wpAny_pure hR) hdrop)
      | exact wpAny_bind (m := Builtin.Tuple.tupleExact _) (wpAny_newObj_type (wpAny_bind (wpAny_pure (wpAny_pure hR))) hdrop)
  first
    | exact tail ⟨_, rfl, wpAny_pure h⟩
    | exact wpAny_bind (wpAny_pure (tail ⟨_, rfl, wpAny_pure h⟩))
noncomputable abbrev sliceObj (vl vu vs : Value) : Obj := { cls := .type "slice", data := .fields #[vl, vu, vs] }
theorem slice_str (x : FS f m σ s) (ok : f.Ok) {value : PySem.Expr} {lo' up' : Option PySem.Expr} {p : Pos} {vl vu : Value} {lo up : Option Int} {y : Str} {t : Tok} (hy : SF y) (pl : IsPart vl lo) (pu : IsPart vu up) {Q : PQ} (h1 : cutOk lo) (h2 : cutOk up) (hys : y.length ≤ strMost) (h : Q (.str (cutS y lo up)) σ) :
    wpAny (model f.prog f.w) A (subscriptTail value (.Slice lo' up' none p) (.str y t) (.ref s.heap.objs.size)) (PE f m σ s.heap Q) E₀ { s with heap := s.heap.push (sliceObj vl vu .none) } := by
  obtain ⟨x1, k1⟩ := x.pushed ok (o := sliceObj vl vu .none) (k := s.toks)
  obtain ⟨l', rfl, e1⟩ := part_partValue pl
  obtain ⟨u', rfl, e2⟩ := part_partValue pu
  have hp : slicePicked y l' u' none = Builtin.Str.strSliceIndices lo up 1 y.cps.size := by
    unfold slicePicked; rw [e1, e2]; rfl
  have hcut := str_cut y lo up h1 h2
  refine tail_any (s := { s with heap := s.heap.push (sliceObj _ _ .none) }) (typeIs_str _ y t) F.slot_str_getitem.lookup (wpAny_getItem_str_slice (l := l') (u := u') (st := none) ⟨_, Heap.get?_push_size _ rfl, rfl, rfl⟩ rfl ?_) rfl
  unfold sliceMade
  rw [hp, hcut]
  split
  · rename_i hc
    simp only [Bool.and_eq_true, beq_iff_eq] at hc
    have hc := hc.2
    have : cutS y lo up = y := by
      have e : (cutL y.cps.toList lo up).length = y.cps.toList.length := by
        have hle := cutL_len y.cps.toList lo up
        have h3 : (Builtin.Str.strSliceIndices lo up 1 y.cps.size).length = y.cps.size := hc
        rw [← hcut]
        have : ((Builtin.Str.strSliceIndices lo up 1 y.cps.size).filterMap (y.cps[·]?)).length = (Builtin.Str.strSliceIndices lo up 1 y.cps.size).length := by
          rw [str_bounds, sliceBounds_plain] at h3 ⊢
          simp only [sliceRange_one, pick_run] at h3 ⊢
          simp only [List.length_take, List.length_drop, Array.length_toList, List.length_map, List.length_range] at h3 ⊢
          cases lo <;> cases up <;> simp only [Option.elim] at h3 ⊢ <;> (try have := clipAt_cast y.cps.size ‹Int›) <;> lia
        rw [this, h3]; simp
      unfold cutS
      rw [cut_all _ lo up e]
    rw [this] at h
    exact .lift k1 (.here x1 (.str _ _ hy) h)
  · refine ⟨?_, .lift k1 (.of x1 ok (k := s.toks + 1) (.str _ _ (hy.cut lo up)) h)⟩
    have h3 := cutL_len y.cps.toList lo up
    rw [Array.length_toList] at h3
    show (cutL y.cps.toList lo up).toArray.size ≤ sizeLine
    rw [List.size_toArray]
    exact Nat.le_trans h3 (Nat.le_trans hys (by decide +kernel))
theorem slice_ok (x : FS f m σ s) (ok : f.Ok) (cb : CxB C f.prog f.w f.hB) {value : PySem.Expr} {lo' up' : Option PySem.Expr} {p : Pos} {a vl vu : Value} {lo up : Option Int} {v : V} (r : Rv s.heap a v) (pl : IsPart vl lo) (pu : IsPart vu up) {Q : PQ} (h : aslice C v lo up σ Q) :
    wpAny (model f.prog f.w) A (subscriptTail value (.Slice lo' up' none p) a (.ref s.heap.objs.size)) (PE f m σ s.heap Q) E₀ { s with heap := s.heap.push (sliceObj vl vu .none) } := by
  obtain ⟨x1, k1⟩ := x.pushed ok (o := sliceObj vl vu .none) (k := s.toks)
  have hsl : (s.heap.push (sliceObj vl vu .none)).IsSliceOf s.heap.objs.size vl vu .none := Heap.IsSliceOf.new ..
  have hs : ∀ o i, subscripted (.Slice lo' up' none p) false o i = operate [i, o] (getItem o i) := fun _ _ => rfl
  obtain ⟨h1, h2, h⟩ := h
  rcases on4_inv h with ⟨y, rfl, h⟩ | ⟨y, rfl, h⟩ | ⟨l, rfl, h⟩ | ⟨z, rfl, h⟩
  · exact h.elim
  · obtain ⟨t, rfl, hy⟩ := r.strInv
    exact slice_str x ok hy pl pu h1 h2 h.1 h.2
  · cases r with | tup ho hc hd hl hz =>
    rename_i a o n vs
    have ht : IsTup (s.heap.push (sliceObj vl vu .none)) a vs.toArray := ⟨o, push_keep ho, hc, n, hd⟩
    refine tail_any (s := { s with heap := s.heap.push (sliceObj vl vu .none) }) ht.typeIs slot_tuple_getitem.lookup (getItem_tuple_cut ht hsl pl pu h1 h2 (fun e => ?_) ?_ (seq_fits (by rw [hl.length]; exact hz))) (hs _ _)
    · have el : cutL l lo up = l := cut_all l lo up (by rw [← (hl.cut lo up).length, e, hl.length])
      replace h : Q (.tup (cutL l lo up)) σ := h
      rw [el] at h
      exact .lift k1 (.here x1 (.tup (push_keep ho) hc hd hl.push hz) h)
    · exact .lift k1 (.tup x1 ok (k := s.toks) (hl.push.cut lo up) (Nat.le_trans (cutL_len _ _ _) hz) h)
  · obtain rfl := r.refInv
    obtain ⟨l, e, h⟩ := oL_inv h
    obtain ⟨vs, hp, rl, hz⟩ := (x.look ok cb e).1
    have hlen := rl.length
    have hL : (s.heap.push (sliceObj vl vu .none)).IsList z vs.toArray := by
      obtain ⟨n, ho⟩ := hp
      exact ⟨_, push_keep ho, rfl, n, rfl⟩
    refine tail_any (s := { s with heap := s.heap.push (sliceObj vl vu .none) }) hL.typeIs slot_list_getitem.lookup (wpAny_getItem_list_slice hL hsl pl pu .none (by simp) ?_ (by simpa using seq_fits (by lia))) (hs _ _)
    rw [slicePick_plain]
    simp only [List.size_toArray]
    rw [cut_plain vs lo up h1 h2]
    exact .lift k1 (.list x1 ok (x1.roN cb _ (get_size _)) (k := s.toks) (rl.push.cut lo up) (Nat.le_trans (cutL_len _ _ _) hz) h)
theorem rev_ok (x : FS f m σ s) (ok : f.Ok) {value st : PySem.Expr} {lo' up' : Option PySem.Expr} {p : Pos} {a : Value} {t : Tok} {v : V} (r : Rv s.heap a v) {Q : PQ} (h : arev v σ Q) :
    wpAny (model f.prog f.w) A (subscriptTail value (.Slice lo' up' (some st) p) a (.ref s.heap.objs.size)) (PE f m σ s.heap Q) E₀ { s with heap := s.heap.push (sliceObj .none .none (.int (-1) t)) } := by
  obtain ⟨x1, k1⟩ := x.pushed ok (o := sliceObj .none .none (.int (-1) t)) (k := s.toks)
  have hsl : (s.heap.push (sliceObj .none .none (.int (-1) t))).IsSliceOf s.heap.objs.size .none .none (.int (-1) t) := Heap.IsSliceOf.new ..
  obtain ⟨l, rfl, h⟩ := onTup_inv h
  cases r with
  | tup ho hc hd hl hz =>
    rename_i a o n vs
    have ht : IsTup (s.heap.push (sliceObj .none .none (.int (-1) t))) a vs.toArray := ⟨o, push_keep ho, hc, n, hd⟩
    refine tail_any (s := { s with heap := s.heap.push (sliceObj .none .none (.int (-1) t)) }) ht.typeIs slot_tuple_getitem.lookup (getItem_tuple_rev ht hsl ?_ (seq_fits (by rw [hl.length]; exact hz))) rfl
    exact .lift k1 (.tup x1 ok (k := s.toks) hl.push.reverse (by simpa using hz) h)
end
section
variable {f : Fx} {m : M} {σ σ' : AS} {s s' : Shared} {E₀ : Value → Shared → Prop} {C : Cx}
noncomputable def bkVal : BK → Value
  | .len => .builtin "len" | .int => .type "int" | .str => .type "str" | .repr => .builtin "repr" | .abs => .builtin "abs"
  | .max => .builtin "max" | .list => .type "list" | .sorted => .builtin "sorted" | .tuple => .type "tuple" | .ord => .builtin "ord"
theorem RvL.one {h : Heap} {cvs : List Value} {v : V} (r : RvL h cvs [v]) : ∃ cv, cvs = [cv] ∧ Rv h cv v := by
  cases r with | cons hv hl => cases hl; exact ⟨_, rfl, hv⟩
theorem RvL.two {h : Heap} {cvs : List Value} {v u : V} (r : RvL h cvs [v, u]) : ∃ a b, cvs = [a, b] ∧ Rv h a v ∧ Rv h b u := by
  cases r with | cons hv hl => cases hl with | cons hu hl => cases hl; exact ⟨_, _, rfl, hv, hu⟩
theorem RvL.zero {h : Heap} {cvs : List Value} (r : RvL h cvs []) : cvs = [] := by cases r; rfl
theorem RvL.consInv {h : Heap} {vs : List Value} {x : V} {l : List V} (r : RvL h vs (x :: l)) : ∃ v vs', vs = v :: vs' ∧ Rv h v x ∧ RvL h vs' l := by cases r with | cons hv hl => exact ⟨_, _, rfl, hv, hl⟩
theorem RvL.ints {h : Heap} {ns : List Int} : ∀ {vs : List Value}, RvL h vs (ns.map .int) → ∃ xs : List (Int × Tok), vs = xs.map (fun p => .int p.1 p.2) ∧ xs.map (·.1) = ns := by
  induction ns with
  | nil => exact fun r => ⟨[], r.zero, rfl⟩
  | cons n ns ih =>
    intro vs r
    obtain ⟨v, vs', rfl, hv, hl⟩ := r.consInv
    obtain ⟨t, rfl⟩ := hv.intInv
    obtain ⟨xs, rfl, e⟩ := ih hl
    exact ⟨(n, t) :: xs, rfl, congrArg (n :: ·) e⟩
theorem RvL.strs {h : Heap} {vs : List Value} {ss : List Str} (r : StrsAre vs ss) (k : ∀ x ∈ ss, SF x) : RvL h vs (ss.map .str) := by
  induction r with
  | nil => exact .nil
  | cons y t r ih => exact .cons (.str _ _ (k _ (.head _))) (ih fun x hx => k x (.tail _ hx))
theorem digits_bound {i : Int} (h : i.natAbs < 2 ^ 1900) : i.natAbs.log2 < 1920 := by
  rcases Nat.eq_zero_or_pos i.natAbs with h0 | hp
  · rw [h0]; decide
  · exact Nat.lt_trans ((Nat.log2_lt (Nat.ne_of_gt hp)).mpr h) (by decide)
theorem keyStrs {prog : Program} {w : World} {vs : List Value} {es : List (Str × Value)} : ∀ (_ : vs.length = es.length) (_ : ∀ (j : Nat) (v : Value), vs[j]? = some v → ∃ k x, es[j]? = some (k, x) ∧ (PySem.strKind prog w).is k v = true), StrsAre vs (es.map (·.1)) := by
  induction vs generalizing es with
  | nil => intro e _; cases es with | nil => exact .nil | cons _ _ => simp at e
  | cons v vs ih =>
    intro e h
    cases es with
    | nil => simp at e
    | cons x es =>
      obtain ⟨k, y, e1, e2⟩ := h 0 v rfl
      simp only [List.getElem?_cons_zero, Option.some.injEq] at e1
      subst e1
      obtain ⟨t, rfl⟩ := Value.isStrOf_shape e2
      exact .cons _ _ (ih (Nat.succ.inj e) fun j u q => h (j + 1) u (by simpa using q))
theorem RvD.keys {K : Type} {h : Heap} {kvs : List (K × Value)} {es : List (K × V)} (r : RvD h kvs es) : kvs.map (·.1) = es.map (·.1) := by
  induction r with
  | nil => rfl
  | cons _ _ ih => exact congrArg (_ :: ·) ih
theorem RvD.length {K : Type} {h : Heap} {kvs : List (K × Value)} {es : List (K × V)} (r : RvD h kvs es) : kvs.length = es.length := by
  have := congrArg List.length r.keys
  simpa using this
theorem toStr_ok (i : Int) : PyData.strOk (Str.ofString (toString i)) = true := by
  rw [Str.ofString_eq_toList]
  simp only [PyData.strOk, List.all_toArray, List.all_map]
  rw [List.all_eq_true]
  intro c _
  have h := c.valid
  have : c.toNat < 1114112 := by
    have e : c.toNat = c.val.toNat := rfl
    rcases h with h | h
    · have : c.val.toNat < 0xd800 := h
      exact Nat.le_trans ‹_› (by decide)
    · have : c.val.toNat < 0x110000 := h.2
      assumption
  simpa [Function.comp] using this
theorem bi_sorted (x : FS f m σ s) (ok : f.Ok) (cb : CxB C f.prog f.w f.hB) (hu : f.A.units ≤ 9000) {a : Addr} {Q : PQ}
    (h : ∃ es, σ a = none ∧ C.ro a = some (.ds es) ∧ es.length < 64 ∧ (∀ x ∈ es, SF x.1) ∧ ∀ l : List Str, l.Perm (es.map (·.1)) → anew C (.list (l.map .str)) σ Q) :
    wpAny (model f.prog f.w) f.A (call (bkVal .sorted) [.ref a]) (PE f m σ s.heap Q) E₀ s := by
  have hsq : seqMost = 1000000 := rfl
  have hszl : sizeLine = 16777216 := rfl
  have hh := x.at_.hd
  obtain ⟨es, e0, e, h64, hsf, h⟩ := h
  obtain ⟨⟨kvs, hd, rd⟩, hn, _⟩ := x.ro cb e
  obtain ⟨ep, hat⟩ := hd.dictAt
  have hlen := rd.length
  refine call_function_entry kind_sorted plain_sorted entry_sorted (args_sorted1 _) ?_
  unfold Builtin.«sorted»
  refine wpAny_bind (m := PySem.checkCount "sorted" 1 1 _) (wpAny_pure ?_)
  refine wpAny_bind (kdu_collect (A := f.A.in1) (kdl_dict (knd := PySem.strKind f.prog f.w) (kvs := kvs) (ep := ep) hn) hh hat (by lia) fun h' tk acc hk hacc => ?_)
  have hl : acc.toList.length = kvs.length := by rw [Array.length_toList]; exact hacc.1
  refine wpAny_bind (wpAny_newList ?_ (by rw [hl]; lia))
  have hS : StrsAre acc.toList (kvs.map (·.1)) := keyStrs hl fun j v e => hacc.2 j v (by rw [← Array.getElem?_toList]; exact e)
  have hoL : (h'.push (seqObj "list" acc.toList.toArray 0)).get? h'.objs.size = some (seqObj "list" acc.toList.toArray 0) := Heap.get?_push_size _ rfl
  refine wpAny_bind (wpAny_holding (wpAny_call_entry slot_list_sort ⟨_, hoL, rfl⟩ entry_list_sort (list_sort_treeK strKind_oneLt hoL hS.keysOf (fun v₁ v₂ rest e => keyKind_strs (by rw [← e]; exact hS)) (by lia) fun st' a1 a2 => ⟨_, rfl, ?_⟩) (args_list_sort _)))
  refine wpAny_pure ⟨_, rfl, ?_⟩
  obtain ⟨ss', s1, s2, _⟩ := sorted_out_str hS a1 a2
  have old : ∀ b o, s.heap.get? b = some o → (sortedHeap (h'.push (seqObj "list" acc.toList.toArray 0)) h'.objs.size acc.toList ((arrOf st').map (·.2))).get? b = some o := fun b o e => by
    have h1 := hk b o e
    have hlt := Heap.lt_size h1
    rw [sortedHeap_old (Nat.ne_of_lt hlt) (Nat.lt_of_lt_of_le hlt (by rw [size_push']; exact Nat.le_succ _))]
    exact push_keep h1
  obtain ⟨ee, he⟩ := sortedHeap_at (out := (arrOf st').map (·.2)) hoL
  have hnew : s.heap.get? h'.objs.size = none := by
    refine isN fun o q => ?_
    exact absurd (Heap.lt_size (hk _ _ q)) (Nat.lt_irrefl _)
  have hss : ∀ y ∈ ss', SF y := fun y hy => by
    have := s2.mem_iff.mp hy
    rw [rd.keys] at this
    obtain ⟨z, hz, rfl⟩ := List.mem_map.mp this
    exact hsf z hz
  obtain ⟨x1, k1⟩ := x.grownA ok (c := h'.objs.size) (ao := .list (ss'.map .str)) (k := tk) old hnew ⟨((arrOf st').map (·.2)).toList, ⟨ee, by rw [Array.toArray_toList]; exact he⟩, RvL.strs s1 hss, by
    have := s2.length_eq
    simp only [List.length_map] at this ⊢
    lia⟩
  exact ⟨_, _, x1, .ref _, k1, h ss' (by rw [← rd.keys]; exact s2) _ (x.fresh hnew) (x.roN cb _ hnew)⟩
theorem bi_maxl (x : FS f m σ s) (ok : f.Ok) {a : Addr} {Q : PQ} (h : ∃ ns : List Int, σ a = some (.list (ns.map .int)) ∧ ns ≠ [] ∧ ∀ m ∈ ns, (∀ x ∈ ns, x ≤ m) → Q (.int m) σ) :
    wpAny (model f.prog f.w) f.A (call (bkVal .max) [.ref a]) (PE f m σ s.heap Q) E₀ s := by
  have hh := x.at_.hd
  obtain ⟨ns, e, hne, h⟩ := h
  obtain ⟨ws, hp, rl, hz, hlen⟩ := x.list e
  obtain ⟨xs, rfl, rfl⟩ := rl.ints
  have hI : (xs.map fun p => Value.int p.1 p.2).toArray = intItems xs.toArray := by simp [intItems]
  have hpos : 0 < xs.length := by cases xs <;> simp_all
  have hnum : ∀ j, numAt xs.toArray j = (xs.map (·.1)).getD j 0 := fun j => by simp [numAt]
  obtain ⟨b1, b2⟩ := argBest_gt (numAt xs.toArray) (xs.length - 1)
  refine max_intList hh (xs := xs.toArray) (by rw [← hI]; exact plain_isList hp) (by simpa using hpos) fun v h' tk hv hk => ?_
  obtain ⟨t, rfl⟩ := intItems_at hv
  obtain ⟨x1, k1⟩ := x.grown ok (k := tk) hk
  simp only [List.size_toArray] at *
  refine ⟨_, σ, x1, .int _ _, k1, h _ ?_ fun y hy => ?_⟩
  · rw [hnum]; exact getD_mem (by simp only [List.length_map]; lia)
  · obtain ⟨j, hj, rfl⟩ := mem_getD hy
    rw [← hnum]
    exact b2 j (by simp at hj; lia)
theorem bi_len (x : FS f m σ s) (ok : f.Ok) (cb : CxB C f.prog f.w f.hB) {cv : Value} {v : V} (r : Rv s.heap cv v) {Q : PQ} (h : abi C .len [v] σ Q) : wpAny (model f.prog f.w) f.A (call (bkVal .len) [cv]) (PE f m σ s.heap Q) E₀ s := by
  have hsq : seqMost = 1000000 := rfl
  have hszl : sizeLine = 16777216 := rfl
  rcases on4_inv (v := v) h with ⟨_, _, h⟩ | ⟨y, rfl, h⟩ | ⟨l, rfl, h⟩ | ⟨z, rfl, h⟩
  · exact h.elim
  · obtain ⟨t, rfl, hs⟩ := r.strInv
    exact P.len_str (by have := hs.2; lia) (.of x ok (.int _ _) h)
  · cases r with | tup ho hc hd hl hz =>
    have hlen := hl.length
    refine len_tuple (items := _) ⟨_, ho, hc, _, hd⟩ (by simp only [List.size_toArray]; lia) ?_
    rw [List.size_toArray, hlen]
    exact .of x ok (.int _ _) h
  · obtain rfl := r.refInv
    cases e0 : σ z with
    | some o =>
      have h : oLn (σ z) (C.ro z) (fun l => Q (.int l.length) σ) (fun es => es.length ≤ 1000 ∧ Q (.int es.length) σ) := h
      rw [e0] at h
      obtain ⟨l, e, h⟩ := oL_inv h
      replace e := e0.trans e
      obtain ⟨ws, hp, rl, hz, hlen⟩ := x.list e
      refine len_list (plain_isList hp) (by simp only [List.size_toArray]; lia) ?_
      rw [List.size_toArray, hlen]
      exact .of x ok (.int _ _) h
    | none =>
      have h : oLn (σ z) (C.ro z) (fun l => Q (.int l.length) σ) (fun es => es.length ≤ 1000 ∧ Q (.int es.length) σ) := h
      rw [e0] at h
      obtain ⟨es, e, hle, h⟩ := oDs_inv h
      obtain ⟨⟨kvs, hd, rd⟩, hn, _⟩ := x.ro cb e
      refine call_len_dict hn hd (by rw [rd.length]; lia) ?_
      rw [rd.length]
      exact .of x ok (.int _ _) h
theorem bi_seq (x : FS f m σ s) (ok : f.Ok) (cb : CxB C f.prog f.w f.hB) {l : List V} {Q : PQ} {a : Addr} {ob : Obj} {n : Nat} {cls : String} {ws : List Value} (hc : cls = "list" ∨ cls = "tuple") (ho : s.heap.get? a = some ob) (h1 : ob.cls = .type cls) (h2 : ob.data = .seq ws.toArray n) (rl : RvL s.heap ws l) (hz : l.length ≤ seqMost) (h : anew C (.list l) σ Q) :
    wpAny (model f.prog f.w) f.A (call (bkVal .list) [.ref a]) (PE f m σ s.heap Q) E₀ s := by
  have hsq : seqMost = 1000000 := rfl
  have hszl : sizeLine = 16777216 := rfl
  have hlen := rl.length
  refine call_list_seq (hsz := by simp only [List.size_toArray]; lia) _ hc ho h1 h2 fun h' c' hk hD => ?_
  obtain ⟨x1, k1⟩ := x.grownA ok (c := s.heap.objs.size) (ao := .list _) (k := s.toks) hk (get_size _) ⟨_, ⟨c', hD⟩, rl.keeps hk, hz⟩
  exact ⟨_, _, x1, .ref _, k1, h _ (x.fresh (get_size _)) (x.roN cb _ (get_size _))⟩
theorem bi_list (x : FS f m σ s) (ok : f.Ok) (cb : CxB C f.prog f.w f.hB) {cv : Value} {v : V} (r : Rv s.heap cv v) {Q : PQ} (h : abi C .list [v] σ Q) : wpAny (model f.prog f.w) f.A (call (bkVal .list) [cv]) (PE f m σ s.heap Q) E₀ s := by
  rcases on4_inv (v := v) h with ⟨_, _, h⟩ | ⟨_, _, h⟩ | ⟨l, rfl, h⟩ | ⟨z, rfl, h⟩
  · exact h.elim
  · exact h.elim
  · cases r with | tup ho hc hd hl hz => exact bi_seq x ok cb (.inr rfl) ho hc hd hl hz h
  · obtain rfl := r.refInv
    obtain ⟨l, e, h⟩ := oL_inv h
    obtain ⟨ws, ⟨n, ho⟩, rl, hz, hlen⟩ := x.list e
    exact bi_seq x ok cb (.inl rfl) ho rfl rfl rl hz h
theorem bi_max (x : FS f m σ s) (ok : f.Ok) {cvs : List Value} {vs : List V} (r : RvL s.heap cvs vs) {Q : PQ} (h : abi C .max vs σ Q) : wpAny (model f.prog f.w) f.A (call (bkVal .max) cvs) (PE f m σ s.heap Q) E₀ s := by
  rcases on12_inv h with ⟨v, rfl, h⟩ | ⟨v, u, rfl, h⟩
  · obtain ⟨cv, rfl, rc⟩ := r.one
    obtain ⟨a, rfl, h⟩ := onRef_inv h
    obtain rfl := rc.refInv
    exact bi_maxl x ok h
  · obtain ⟨c1, c2, rfl, r1, r2⟩ := r.two
    exact two_ints r1 r2 h fun i t j t' h ea eb => by
      rw [ea, eb]
      refine max_two_ints x.at_.hd fun h' tk hk => ?_
      obtain ⟨x1, k1⟩ := x.grown ok (k := tk) hk
      refine ⟨_, σ, x1, ?_, k1, h⟩
      split <;> exact .int _ _
theorem bi_ord (x : FS f m σ s) (ok : f.Ok) {y : Str} {t : Tok} (hs : SF y) {Q : PQ} (h1 : y.length = 1) (h : ∀ n : Int, 0 ≤ n → n < 1114112 → Q (.int n) σ) : wpAny (model f.prog f.w) f.A (call (bkVal .ord) [.str y t]) (PE f m σ s.heap Q) E₀ s := by
  refine ord_of_one h1 (.of x ok (.int _ _) (h _ (Int.natCast_nonneg _) ?_))
  have h1 : y.cps.size = 1 := h1
  have h2 := Array.all_eq_true.mp hs.1 0 (by lia)
  simp only [Array.getD, h1, decide_eq_true_eq] at h2 ⊢
  have : (0 : Nat) < 1 := by exact Nat.le_add_left _ _
  simp only [this, dif_pos]
  show ((y.cps[0] : Nat) : Int) < 1114112
  lia
theorem bi_ok (x : FS f m σ s) (ok : f.Ok) (cb : CxB C f.prog f.w f.hB) (hu : f.A.units ≤ 9000) {k : BK} {cvs : List Value} {vs : List V} (r : RvL s.heap cvs vs) {Q : PQ} (h : abi C k vs σ Q) :
    wpAny (model f.prog f.w) f.A (call (bkVal k) cvs) (PE f m σ s.heap Q) E₀ s := by
  by_cases hk : k = .max
  · subst hk; exact bi_max x ok r h
  obtain ⟨v, rfl⟩ : ∃ v, vs = [v] := by cases k <;> first | exact absurd rfl hk | exact (on1_inv h).imp fun _ q => q.1
  obtain ⟨cv, rfl, rc⟩ := r.one
  cases k with
  | max => exact absurd rfl hk
  | len => exact bi_len x ok cb rc h
  | list => exact bi_list x ok cb rc h
  | int =>
    obtain ⟨b, rfl, h⟩ := onBool_inv (v := v) h
    obtain rfl := rc.boolInv
    exact call_int_bool (.of x ok (.int _ _) h)
  | abs =>
    obtain ⟨i, rfl, h⟩ := onInt_inv (v := v) h
    obtain ⟨t, rfl⟩ := rc.intInv
    refine call_abs_int fun u tk => ?_
    have : (if i < 0 then -i else i) = (i.natAbs : Int) := by split <;> lia
    rw [this]
    exact .of x ok (.int _ _) h
  | tuple =>
    obtain ⟨a, rfl, h⟩ := onRef_inv (v := v) h
    obtain rfl := rc.refInv
    obtain ⟨l, e, h⟩ := oL_inv h
    obtain ⟨ws, hp, rl, hz, hlen⟩ := x.list e
    have hszl : sizeLine = 16777216 := rfl
    have hsq : seqMost = 1000000 := rfl
    refine call_tuple_list (hsz := by simp only [List.size_toArray]; lia) (plain_isList hp) fun h' hk => ?_
    obtain ⟨x1, k1⟩ := x.grown ok (k := s.toks) hk
    exact .lift k1 (.tup x1 ok (k := s.toks) (rl.keeps hk) hz h)
  | str =>
    obtain ⟨i, rfl, h⟩ := onInt_inv (v := v) h
    obtain ⟨t, rfl⟩ := rc.intInv
    refine P.str_of_int (digits_bound h.1) (.of x ok (.str _ _ ⟨toStr_ok _, ?_⟩) h.2)
    have := int_text_length_le (k := 1920) (by exact Nat.le_add_left _ _) (digits_bound h.1)
    rw [PySem.ofString_length]
    exact Nat.le_trans ‹_› (by decide)
  | repr =>
    obtain ⟨y, rfl, h⟩ := onStr_inv (v := v) h
    obtain ⟨t, rfl, hs⟩ := rc.strInv
    exact P.repr_of_str (.of x ok (.str _ _ h.1) h.2.2) (Nat.le_trans h.2.1 (by decide +kernel))
  | sorted =>
    obtain ⟨a, rfl, h⟩ := onRef_inv (v := v) h
    obtain rfl := rc.refInv
    exact bi_sorted x ok cb hu h
  | ord =>
    obtain ⟨y, rfl, h⟩ := onStr_inv (v := v) h
    obtain ⟨t, rfl, hs⟩ := rc.strInv
    exact bi_ord x ok hs h.1 h.2
end
section
variable {f : Fx} {m : M} {σ σ' : AS} {s s' : Shared} {A : Around} {E₀ : Value → Shared → Prop} {C : Cx}
noncomputable def mid : MN → String
  | .append => "list.append" | .extend => "list.extend" | .pop => "list.pop" | .get => "dict.get" | .setdefault => "dict.setdefault"
  | .bitlen => "int.bit_length" | .join => "str.join" | .split => "str.split"
noncomputable def mty : MN → String
  | .append | .extend | .pop => "list" | .get | .setdefault => "dict" | .bitlen => "int" | .join | .split => "str"
noncomputable def mnm : MN → Str
  | .append => "append" | .extend => "extend" | .pop => "pop" | .get => "get" | .setdefault => "setdefault"
  | .bitlen => "bit_length" | .join => "join" | .split => "split"
theorem mif {c : Bool} {a b : Option MN} {P : Prop} {mn : MN} (h : (if c then a else b) = some mn) (h1 : c = true → a = some mn → P) (h2 : b = some mn → P) : P := by
  cases c
  · exact h2 h
  · exact h1 rfl h
theorem mone {T : String} {x : Str} {T' : String} {x' : Str} {mn mn' : MN} (e : (T == T') = true) (q : (x == x') = true) (h : some mn' = some mn) (h1 : mty mn' = T') (h2 : mnm mn' = x') : T = mty mn ∧ x = mnm mn := by
  obtain rfl := Option.some.inj h; exact ⟨(eq_of_beq e).trans h1.symm, (eq_of_beq q).trans h2.symm⟩
theorem mname_inv {T : String} {x : Str} {mn : MN} (h : mname T x = some mn) : T = mty mn ∧ x = mnm mn :=
  mif h (fun e h => mif h (fun q h => mone e q h rfl rfl) fun h => mif h (fun q h => mone e q h rfl rfl) fun h => mif h (fun q h => mone e q h rfl rfl) nofun) fun h =>
  mif h (fun e h => mif h (fun q h => mone e q h rfl rfl) fun h => mif h (fun q h => mone e q h rfl rfl) nofun) fun h =>
  mif h (fun e h => mif h (fun q h => mone e q h rfl rfl) nofun) fun h =>
  mif h (fun e h => mif h (fun q h => mone e q h rfl rfl) fun h => mif h (fun q h => mone e q h rfl rfl) nofun) nofun
theorem m_plain (mn : MN) : PlainAttrs (mty mn) := by cases mn <;> first | exact PySem.F.plainAttrs_list | exact PySem.F.plainAttrs_dict | exact PySem.F.plainAttrs_int | exact PySem.F.plainAttrs_str
theorem m_slot (mn : MN) : Slot (mty mn) (mnm mn) (mid mn) := by
  cases mn
  · exact PySem.F.slot_list_append
  · exact PySem.F.slot_list_extend
  · exact PySem.F.slot_list_pop
  · exact PySem.F.slot_dict_get
  · exact PySem.F.slot_dict_setdefault
  · exact PySem.F.slot_int_bit_length
  · exact PySem.F.slot_str_join
  · exact PySem.F.slot_str_split
theorem m_type (mn : MN) : typeOf (.builtin (mid mn)) = pure (.type "method_descriptor") := by
  cases mn
  · exact PySem.F.type_list_append
  · exact PySem.F.type_list_extend
  · exact PySem.F.type_list_pop
  · exact PySem.F.type_dict_get
  · exact PySem.F.type_dict_setdefault
  · exact PySem.F.type_int_bit_length
  · exact PySem.F.type_str_join
  · exact PySem.F.type_str_split
theorem kind_type (x : FS f m σ s) (ok : f.Ok) (cb : CxB C f.prog f.w f.hB) {cv : Value} {v : V} (r : Rv s.heap cv v) {T : String} (h : mkind C σ v = some (.ty T)) :
    s.TypeIs cv T ∧ ∀ a, cv = .ref a → ∃ o, s.heap.get? a = some o ∧ o.dict = none := by
  cases r with
  | int i t => cases h; exact ⟨typeIs_int s i t, fun _ e => by cases e⟩
  | str y t _ => cases h; exact ⟨typeIs_str s y t, fun _ e => by cases e⟩
  | ref a =>
    have h : (match σ a with | some (.list _) => some (MK.ty "list") | some (.di _) => some (.ty "dict") | some (.ds _) => some (.ty "dict") | some (.inst K _) => some (.own K) | some (.fld _) => none | none => match C.ro a with | some (.ds _) => some (.ty "dict") | _ => none) = some (.ty T) := h
    cases e : σ a with
    | some o =>
      rw [e] at h
      cases o with
      | list l =>
        cases h
        obtain ⟨vs, ⟨n, ho⟩, _⟩ := x.list e
        exact ⟨⟨_, ho, rfl⟩, fun _ q => by cases q; exact ⟨_, ho, rfl⟩⟩
      | di l => cases h; exact (x.om e).elim fun kvs q => ⟨q.1.typeIs, q.1.mapOf.noDict⟩
      | ds l => cases h; exact (x.om e).elim fun kvs q => ⟨q.1.typeIs, q.1.mapOf.noDict⟩
      | inst _ _ => cases h
      | fld _ => exact no1 h
    | none =>
      rw [e] at h
      cases e2 : C.ro a with
      | none => rw [e2] at h; exact no1 h
      | some o =>
        rw [e2] at h
        cases o with
        | ds l => cases h; exact (x.ro cb e2).1.elim fun kvs q => ⟨q.1.typeIs, q.1.mapOf.noDict⟩
        | list _ => exact no1 h
        | di _ => exact no1 h
        | inst _ _ => exact no1 h
        | fld _ => exact no1 h
  | none => exact no1 h
  | bool _ => exact no1 h
  | tup _ _ _ _ _ => exact no1 h
theorem RvL.strsInv {h : Heap} {ss : List Str} : ∀ {vs : List Value}, RvL h vs (ss.map .str) → ∃ l : List (Str × Tok), vs = strValues l ∧ l.map (·.1) = ss ∧ ∀ x ∈ ss, SF x := by
  induction ss with
  | nil => exact fun r => ⟨[], r.zero, rfl, nofun⟩
  | cons y ss ih =>
    intro vs r
    obtain ⟨v, vs', rfl, hv, hl⟩ := r.consInv
    obtain ⟨t, rfl, hy⟩ := hv.strInv
    obtain ⟨l, rfl, e, k⟩ := ih hl
    exact ⟨(y, t) :: l, rfl, congrArg (y :: ·) e, List.forall_mem_cons.mpr ⟨hy, k⟩⟩
theorem RvL.ofStrs {h : Heap} {l : List (Str × Tok)} : (∀ x ∈ l.map (·.1), SF x) → RvL h (strValues l) ((l.map (·.1)).map .str) := by
  induction l with
  | nil => exact fun _ => .nil
  | cons a l ih => exact fun k => .cons (.str _ _ (k _ (.head _))) (ih fun x hx => k x (.tail _ hx))
theorem strOk_iff {x : Str} : PyData.strOk x = true ↔ ∀ c ∈ x.cps.toList, c < 1114112 := by
  simp only [PyData.strOk]
  rw [← Array.all_toList, List.all_eq_true]
  simp
theorem cps_append (a b : Str) : (a ++ b).cps = a.cps ++ b.cps := rfl
theorem strOk_join {sep : Str} (hs : PyData.strOk sep = true) {ss : List Str} : (∀ x ∈ ss, PyData.strOk x = true) → PyData.strOk (Str.join sep ss) = true := by
  induction ss with
  | nil => exact fun _ => strOk_iff.mpr nofun
  | cons x r ih =>
    cases r with
    | nil => exact fun h => h x (.head _)
    | cons y r =>
      intro h
      have ih := ih fun z hz => h z (.tail _ hz)
      rw [strOk_iff] at hs ih ⊢
      show ∀ c ∈ (x ++ sep ++ Str.join sep (y :: r)).cps.toList, c < 1114112
      intro c hc
      rw [cps_append, cps_append, Array.toList_append, Array.toList_append, List.mem_append, List.mem_append] at hc
      exact hc.elim (·.elim (strOk_iff.mp (h x (.head _)) c) (hs c)) (ih c)
theorem strOk_of_join {sep : Str} {ss : List Str} : PyData.strOk (Str.join sep ss) = true → ∀ x ∈ ss, PyData.strOk x = true := by
  induction ss with
  | nil => exact fun _ => nofun
  | cons y r ih =>
    cases r with
    | nil => exact fun h x hx => by rw [List.mem_singleton.mp hx]; exact h
    | cons z r =>
      intro h
      have h' : ∀ c ∈ (y ++ sep ++ Str.join sep (z :: r)).cps.toList, c < 1114112 := strOk_iff.mp h
      simp only [cps_append, Array.toList_append, List.mem_append] at h'
      exact List.forall_mem_cons.mpr ⟨strOk_iff.mpr fun c hc => h' c (.inl (.inl hc)), ih (strOk_iff.mpr fun c hc => h' c (.inr hc))⟩
theorem len_of_join {sep : Str} {ss : List Str} : ∀ x ∈ ss, x.length ≤ (Str.join sep ss).length := by
  induction ss with
  | nil => exact nofun
  | cons y r ih =>
    cases r with
    | nil => exact fun x hx => by rw [List.mem_singleton.mp hx]; exact Nat.le_refl _
    | cons z r =>
      have e : (Str.join sep (y :: z :: r)).length = y.length + sep.length + (Str.join sep (z :: r)).length := by
        show (y ++ sep ++ Str.join sep (z :: r)).length = _
        rw [strLen_append, strLen_append]
      rw [e]
      exact List.forall_mem_cons.mpr ⟨Nat.le_trans (Nat.le_add_right _ _) (Nat.le_add_right _ _), fun x hx => Nat.le_trans (ih x hx) (Nat.le_add_left _ _)⟩
theorem FS.turnSeq (x : FS f m σ s) (ok : f.Ok) {a : Addr} {l l' : List V} {ws ws' : List Value} {n k : Nat} (e : σ a = some (.list l)) (ho : s.heap.get? a = some { cls := .type "list", data := .seq ws.toArray n })
    (g : Array Value → Array Value) (hg : g ws.toArray = ws'.toArray) (r : RvL s.heap ws' l') (hz : l'.length ≤ seqMost) :
    FS f m (σ.set a (.list l')) { s with heap := s.heap.update a (Obj.mapSeq g), toks := k } ∧ Kc (frs f.l) [] σ (σ.set a (.list l')) s.heap (s.heap.update a (Obj.mapSeq g)) := by
  have hq := PySem.IsL.update (h := s.heap) (l := a) (items := ws.toArray) (n := n) ho g
  rw [hg] at hq
  exact x.turn ok e (Heap.SameBut.update ..) ⟨_, hq⟩ fun tk => ⟨ws', ⟨_, hq⟩, r.mono tk, hz⟩
theorem stored_none {K : Type} [DecidableEq K] {kvs : List (K × Value)} {k : K} {d : Value} (h : valueAt kvs k = none) : stored kvs k d = kvs ++ [(k, d)] := by
  unfold stored
  rw [if_neg]
  intro q
  obtain ⟨y, hy, e⟩ := List.any_eq_true.mp q
  unfold valueAt at h
  have h' : kvs.find? (fun kv => kv.1 = k) = none := by simpa using h
  have := List.find?_eq_none.mp h' y hy
  exact this e
theorem RvD.snoc {K : Type} {h : Heap} {k : K} {cv : Value} {v : V} (r : Rv h cv v) : ∀ {kvs : List (K × Value)} {es : List (K × V)}, RvD h kvs es → RvD h (kvs ++ [(k, cv)]) (es ++ [(k, v)])
  | _, _, .nil => .cons r .nil
  | _, _, .cons hv hl => .cons hv (RvD.snoc r hl)
theorem getD_ok {K : Type} [DecidableEq K] {h : Heap} {kvs : List (K × Value)} {es : List (K × V)} (rd : RvD h kvs es) (k : K) {cd : Value} {d : V} (r : Rv h cd d) : Rv h ((valueAt kvs k).getD cd) ((es.lookup k).getD d) := by
  have := valueAt_lookup rd k
  cases q : es.lookup k with
  | none => rw [q] at this; rw [this]; exact r
  | some v => rw [q] at this; obtain ⟨cv, e, r'⟩ := this; rw [e]; exact r'
theorem m_append (x : FS f m σ s) (ok : f.Ok) {a : Addr} {cv : Value} {v : V} (rc : Rv s.heap cv v) {Q : PQ} (h : oL (σ a) fun l => l.length < seqMost ∧ Q .none (σ.set a (.list (l ++ [v])))) :
    wpAny (model f.prog f.w) A (call (.builtin (mid .append)) (.ref a :: [cv])) (PE f m σ s.heap Q) E₀ s := by
  have hsq : seqMost = 1000000 := rfl
  have hszl : sizeLine = 16777216 := rfl
  obtain ⟨l, e, hz, h⟩ := oL_inv h
  obtain ⟨ws, ⟨n, ho⟩, rl, _, hlen⟩ := x.list e
  refine wpAny_call_entry slot_list_append ⟨_, ho, rfl⟩ entry_list_append ?_ (args_list_append _ _)
  show wpAny _ _ (updateSeq _ (·.push cv) >>= fun _ => ret .none) _ _ s
  refine wpAny_bind ?_
  obtain ⟨x1, k1⟩ := x.turnSeq ok (k := s.toks) e ho (·.push cv) (ws' := ws ++ [cv]) (l' := l ++ [v]) (by simp) (rl.append (.cons rc .nil)) (by simp only [List.length_append, List.length_singleton]; assumption)
  exact wpAny_updateSeq ho rfl (wpAny_pure ⟨.none, rfl, _, _, x1, .none, k1, h⟩)
theorem m_extend (x : FS f m σ s) (ok : f.Ok) {a b : Addr} {Q : PQ} (h : oL (σ a) fun l => oL (σ b) fun r => (a ≠ b ∧ l.length + r.length ≤ seqMost) ∧ Q .none (σ.set a (.list (l ++ r)))) :
    wpAny (model f.prog f.w) A (call (.builtin (mid .extend)) (.ref a :: [.ref b])) (PE f m σ s.heap Q) E₀ s := by
  have hsq : seqMost = 1000000 := rfl
  have hszl : sizeLine = 16777216 := rfl
  obtain ⟨l, e, h⟩ := oL_inv h
  obtain ⟨l2, e2, ⟨hne, hz⟩, h⟩ := oL_inv h
  obtain ⟨ws, ⟨n, ho⟩, rl, _, hlen⟩ := x.list e
  obtain ⟨us, ⟨n2, ho2⟩, rl2, _, hlen2⟩ := x.list e2
  have hsz' : ws.toArray.size + us.toArray.size ≤ sizeLine := by simp only [List.size_toArray]; grind
  obtain ⟨x1, k1⟩ := x.turnSeq ok (k := s.toks) e ho (fun y => y ++ us.toArray) (ws' := ws ++ us) (l' := l ++ l2) (by simp) (rl.append rl2) (by simp only [List.length_append]; omega)
  exact call_meets PySem.F.slot_list_extend ⟨_, ho, rfl⟩ PySem.F.entry_list_extend (PySem.F.args_list_extend_2 _ _) (AutoSeq1.list_extend_list_list_0 _ ws.toArray n _ us.toArray n2 (extend_door hsz') (Nat.le_trans (Nat.le_add_right _ _) hsz')) ⟨ho, ho2, ⟨_, _, x1, .none, k1, h⟩⟩
theorem m_pop (x : FS f m σ s) (ok : f.Ok) {a : Addr} {Q : PQ} (h : ∃ r x, σ a = some (.list (r ++ [x])) ∧ Q x (σ.set a (.list r))) :
    wpAny (model f.prog f.w) A (call (.builtin (mid .pop)) (.ref a :: [])) (PE f m σ s.heap Q) E₀ s := by
  have hsq : seqMost = 1000000 := rfl
  have hszl : sizeLine = 16777216 := rfl
  obtain ⟨l, y, e, h⟩ := h
  obtain ⟨ws, ⟨n, ho⟩, rl, hz, hlen⟩ := x.list e
  obtain ⟨p, cy, rfl⟩ : ∃ p cy, ws = p ++ [cy] := by
    have : ws ≠ [] := by rintro rfl; simp at hlen
    exact ⟨ws.dropLast, ws.getLast this, (List.dropLast_concat_getLast this).symm⟩
  have hpl : p.length = l.length := by simpa using hlen
  have rp : RvL s.heap p l := by
    have := rl.take l.length
    rwa [List.take_left' hpl, List.take_left' rfl] at this
  have ry : Rv s.heap cy y := by
    obtain ⟨w, ew, rw⟩ := rl.getElem (i := l.length) (x := y) (by simp)
    rw [← hpl] at ew
    simp at ew
    exact ew ▸ rw
  have hz' : (p ++ [cy]).toArray.size ≤ sizeLine := by rw [List.size_toArray, hlen]; exact seq_fits hz
  have hk : (p ++ [cy]).toArray.size - 1 = p.length := by rw [List.size_toArray, List.length_append]; rfl
  obtain ⟨x1, k1⟩ := x.turnSeq ok (k := s.toks) e ho (fun xs => xs.eraseIdxIfInBounds ((p ++ [cy]).toArray.size - 1)) (ws' := p) (l' := l) (by rw [hk, kl_erase, List.append_nil]) rp (by simp only [List.length_append] at hz; exact Nat.le_of_lt ‹_›)
  refine call_meets PySem.F.slot_list_pop ⟨_, ho, rfl⟩ PySem.F.entry_list_pop (PySem.F.args_list_pop_1 _) (PySem.MeetsSeq.list_pop_last _ _ n cy (by rw [hk]; simp) hz') ⟨ho, ⟨_, _, x1, ?_, k1, h⟩⟩
  exact ry.mono (x.at_.tupK k1)
theorem m_setd (x : FS f m σ s) (ok : f.Ok) {a : Addr} {k : Int} {t : Tok} {c2 : Value} {d : V} (r2 : Rv s.heap c2 d) {Q : PQ} (h : oDi (σ a) fun es => es.length ≤ 1000 ∧ Q ((es.lookup k).getD d) (σ.set a (.di (match es.lookup k with | some _ => es | none => es ++ [(k, d)])))) :
    wpAny (model f.prog f.w) A (call (.builtin (mid .setdefault)) (.ref a :: [.int k t, c2])) (PE f m σ s.heap Q) E₀ s := by
  have hsq : seqMost = 1000000 := rfl
  have hszl : sizeLine = 16777216 := rfl
  obtain ⟨es, e, hle, h⟩ := oDi_inv h
  obtain ⟨kvs, hd, rd⟩ := x.om e
  have hlk := valueAt_lookup rd
  refine call_meetsIn PySem.F.slot_dict_setdefault hd.typeIs PySem.F.entry_dict_setdefault (PySem.F.args_dict_setdefault_3 _ _ _) (kt_meets_setdefault (intKind f.prog f.w) _ (intKind_self _ _ _ t) (x.noMods ok e) c2)
    ⟨kvs, hd, by rw [rd.length]; exact Nat.le_trans ‹_› (by decide), fun cv hv => ?_, fun hv h' hd' hs => ?_⟩
  · have := hlk k
    cases q : es.lookup k with
    | none => rw [q] at this; exact no2 this hv
    | some y =>
      rw [q] at this h
      obtain ⟨cv', e', r'⟩ := this
      obtain rfl := inj2 e' hv
      dsimp only at h
      rw [AS.eta_set σ e] at h
      exact .of x ok r' h
  · have := hlk k
    cases q : es.lookup k with
    | some y => rw [q] at this; obtain ⟨cv', e', r'⟩ := this; exact no2 hv e'
    | none =>
      rw [q] at h
      dsimp only at h
      rw [stored_none hv] at hd'
      obtain ⟨x1, k1⟩ := x.turn ok (ao := .di (es ++ [(k, d)])) (k := s.toks + 1) e hs (let ⟨o, _, _, ho, _⟩ := hd'; ⟨o, ho⟩) fun tk => ⟨_, hd', RvD.snoc (r2.mono tk) (rd.mono tk)⟩
      exact ⟨_, _, x1, r2.mono (x.at_.tupK k1), k1, h⟩
theorem m_join (x : FS f m σ s) (ok : f.Ok) {sep : Str} {t : Tok} (hsep : SF sep) {a : Addr} {Q : PQ} (h : ∃ ss : List Str, σ a = some (.list (ss.map .str)) ∧ JoinOk sep ss = true ∧ Q (.str (Txt.join sep ss)) σ) :
    wpAny (model f.prog f.w) A (call (.builtin (mid .join)) (.str sep t :: [.ref a])) (PE f m σ s.heap Q) E₀ s := by
  have hszl : sizeLine = 16777216 := rfl
  obtain ⟨ss, e, hj, h⟩ := h
  obtain ⟨ws, hp, rl, _, hlen⟩ := x.list e
  obtain ⟨l, rfl, rfl, hsf⟩ := rl.strsInv
  refine PySem.SC.join (plain_isList hp) rfl hj fun t' k => .of x ok (.str _ _ ⟨?_, ?_⟩) h
  · show PyData.strOk (Builtin.Str.glued _ _) = true
    rw [StrLaws.glued_eq_join]
    exact strOk_join hsep.1 fun y hy => (hsf y hy).1
  · have := joinFit_length (by unfold JoinOk at hj; simpa using hj)
    exact Nat.le_trans ‹_› (by decide)
theorem m_split (x : FS f m σ s) (ok : f.Ok) (cb : CxB C f.prog f.w f.hB) {z : Str} {t u : Tok} (hx : SF z) {Q : PQ} (hl : z.length ≤ 90000) (h : anew C (.list ((Txt.split z (Str.ofString "\n")).map .str)) σ Q) :
    wpAny (model f.prog f.w) A (call (.builtin (mid .split)) (.str z t :: [.str (Str.ofString "\n") u])) (PE f m σ s.heap Q) E₀ s := by
  have hsq : seqMost = 1000000 := rfl
  have hszl : sizeLine = 16777216 := rfl
  have hjs := StrLaws.join_split z (Str.ofString "\n")
  have hsf : ∀ p ∈ Txt.split z (Str.ofString "\n"), SF p := fun p hp => ⟨strOk_of_join (sep := Str.ofString "\n") (by rw [hjs]; exact hx.1) p hp, by
    have := len_of_join (sep := Str.ofString "\n") p hp
    rw [hjs] at this
    exact Nat.le_trans this hx.2⟩
  have hlen : (Txt.split z (Str.ofString "\n")).length ≤ seqMost := by
    unfold Txt.split
    split
    · simp [seqMost]
    · split
      · simp [seqMost]
      · rw [length_partsBetween]
        have := StrLaws.occ_length_le z (Str.ofString "\n") 0 z.length (z.length + 1)
        lia
  have fin : ∀ (l : List (Str × Tok)) (k : Nat), l.map (·.1) = Txt.split z (Str.ofString "\n") → PE f m σ s.heap Q (.ref s.heap.objs.size) { s with heap := s.heap.push { cls := .type "list", data := .seq (strValues l).toArray }, toks := k } := fun l k e => by
    rw [← e] at h hsf hlen
    exact .list x ok (x.roN cb _ (get_size _)) (RvL.ofStrs hsf) (by simpa using hlen) h
  have hy0 : ((Str.ofString "\n").length == 0) = false := by decide +kernel
  have hz1 : z.length ≤ sizeLine := by exact Nat.le_trans ‹_› (by decide)
  have hz2 : (Builtin.Str.partsBetween z (Builtin.Str.occurrences z (Str.ofString "\n") 0 z.length (z.length + 1)) (Str.ofString "\n").length).length ≤ sizeLine := by
    rw [length_partsBetween]
    have := StrLaws.occ_length_le z (Str.ofString "\n") 0 z.length (z.length + 1)
    lia
  cases h1 : (decide (z.length < (Str.ofString "\n").length) || decide (Builtin.Str.strKind z < Builtin.Str.strKind (Str.ofString "\n")))
  · cases hf : (Builtin.Str.occurrences z (Str.ofString "\n") 0 z.length (z.length + 1)).isEmpty
    · refine call_meets PySem.F.slot_str_split (typeIs_str _ _ _) PySem.F.entry_str_split (PySem.F.args_str_split_2 _ _) (meets_str_split_sep z _ t u h1 hy0 hf hz1 hz2) ?_
      show wants _ _ _ { s with toks := _, heap := s.heap.push { cls := .type "list", data := .seq (strsFrom s.toks (Builtin.Str.partsBetween z (Builtin.Str.occurrences z (Str.ofString "\n") 0 z.length (z.length + 1)) (Str.ofString "\n").length)).toArray } }
      rw [strsFrom_eq]
      exact fin (numbered s.toks _) _ ((numbered_texts _ _).trans ((if_neg (ne_true_of_eq_false h1)).trans (if_neg (ne_true_of_eq_false hf))).symm)
    · exact call_meets PySem.F.slot_str_split (typeIs_str _ _ _) PySem.F.entry_str_split (PySem.F.args_str_split_2 _ _) (meets_str_split_not_found z _ t u h1 hy0 hf)
        (fin [(z, t)] _ ((if_neg (ne_true_of_eq_false h1)).trans (if_pos hf)).symm)
  · exact call_meets PySem.F.slot_str_split (typeIs_str _ _ _) PySem.F.entry_str_split (PySem.F.args_str_split_2 _ _) (meets_str_split_cannot_occur z _ t u h1)
      (fin [(z, t)] _ (if_pos h1).symm)
theorem m_get (x : FS f m σ s) (ok : f.Ok) (cb : CxB C f.prog f.w f.hB) {a : Addr} {cvs : List Value} {vs : List V} (r : RvL s.heap cvs vs) {Q : PQ} (h : abm C .get (.ref a) vs σ Q) :
    wpAny (model f.prog f.w) A (call (.builtin (mid .get)) (.ref a :: cvs)) (PE f m σ s.heap Q) E₀ s := by
  rcases on12_inv (vs := vs) h with ⟨z, rfl, h⟩ | ⟨z, d, rfl, h⟩
  · obtain ⟨c1, rfl, r1⟩ := r.one
    obtain ⟨k, rfl, h⟩ := onStr_inv h
    obtain ⟨t, rfl, _⟩ := r1.strInv
    obtain ⟨es, e, h⟩ := oDs_inv h
    obtain ⟨⟨kvs, hd, rd⟩, hn⟩ := x.look ok cb e
    exact call_meetsIn PySem.F.slot_dict_get hd.typeIs PySem.F.entry_dict_get (PySem.F.args_dict_get_2 _ _) (meets_dict_get (PySem.strKind f.prog f.w) _ (strKind_self _ _ _ t) hn) ⟨_, hd.mapOf, .of x ok (getD_ok rd _ .none) h⟩
  · obtain ⟨c1, c2, rfl, r1, r2⟩ := r.two
    rcases on4_inv h with ⟨k, rfl, h⟩ | ⟨k, rfl, h⟩ | ⟨k, rfl, h⟩ | ⟨k, rfl, h⟩
    · obtain ⟨t, rfl⟩ := r1.intInv
      obtain ⟨es, e, h⟩ := oDi_inv h
      obtain ⟨kvs, hd, rd⟩ := x.om e
      exact call_meetsIn PySem.F.slot_dict_get hd.typeIs PySem.F.entry_dict_get (PySem.F.args_dict_get_3 _ _ _) (meets_dict_get_default (intKind f.prog f.w) _ (intKind_self _ _ _ t) (x.noMods ok e) c2) ⟨_, hd.mapOf, .of x ok (getD_ok rd _ r2) h⟩
    · obtain ⟨t, rfl, _⟩ := r1.strInv
      obtain ⟨es, e, h⟩ := oDs_inv h
      obtain ⟨⟨kvs, hd, rd⟩, hn⟩ := x.look ok cb e
      exact call_meetsIn PySem.F.slot_dict_get hd.typeIs PySem.F.entry_dict_get (PySem.F.args_dict_get_3 _ _ _) (meets_dict_get_default (PySem.strKind f.prog f.w) _ (strKind_self _ _ _ t) hn c2) ⟨_, hd.mapOf, .of x ok (getD_ok rd _ r2) h⟩
    · exact h.elim
    · exact h.elim
theorem m_ok (x : FS f m σ s) (ok : f.Ok) (cb : CxB C f.prog f.w f.hB) {mn : MN} {ov : Value} {cvs : List Value} {v : V} {vs : List V} (ro : Rv s.heap ov v) (r : RvL s.heap cvs vs) {Q : PQ} (h : abm C mn v vs σ Q) :
    wpAny (model f.prog f.w) A (call (.builtin (mid mn)) (ov :: cvs)) (PE f m σ s.heap Q) E₀ s := by
  cases mn with
  | append =>
    obtain ⟨a, rfl, h1⟩ := onRef_inv (v := v) h
    obtain ⟨y, rfl, h2⟩ := on1_inv h1
    obtain ⟨cv, rfl, rc⟩ := r.one
    rw [ro.refInv]
    exact m_append x ok rc h2
  | extend =>
    obtain ⟨a, rfl, h1⟩ := onRef_inv (v := v) h
    obtain ⟨y, rfl, h2⟩ := on1_inv h1
    obtain ⟨b, rfl, h3⟩ := onRef_inv h2
    obtain ⟨cv, rfl, rc⟩ := r.one
    rw [ro.refInv, rc.refInv]
    exact m_extend x ok h3
  | pop =>
    obtain ⟨a, rfl, h1⟩ := onRef_inv (v := v) h
    obtain ⟨rfl, h2⟩ := on0_inv h1
    rw [ro.refInv, r.zero]
    exact m_pop x ok h2
  | get =>
    obtain ⟨a, rfl, _⟩ := onRef_inv (v := v) h
    rw [ro.refInv]
    exact m_get x ok cb r h
  | setdefault =>
    obtain ⟨a, rfl, h1⟩ := onRef_inv (v := v) h
    obtain ⟨z, d, rfl, h2⟩ := on2_inv h1
    obtain ⟨k, rfl, h3⟩ := onInt_inv h2
    obtain ⟨c1, c2, rfl, r1, r2⟩ := r.two
    obtain ⟨t, rfl⟩ := r1.intInv
    rw [ro.refInv]
    exact m_setd x ok r2 h3
  | bitlen =>
    obtain ⟨i, rfl, h1⟩ := onInt_inv (v := v) h
    obtain ⟨rfl, h2⟩ := on0_inv h1
    obtain ⟨t, rfl⟩ := ro.intInv
    rw [r.zero]
    exact call_int_bit_length (.of x ok (.int _ _) h2)
  | join =>
    obtain ⟨sep, rfl, h1⟩ := onStr_inv (v := v) h
    obtain ⟨y, rfl, h2⟩ := on1_inv h1
    obtain ⟨b, rfl, h3⟩ := onRef_inv h2
    obtain ⟨cv, rfl, rc⟩ := r.one
    obtain ⟨t, rfl, hsep⟩ := ro.strInv
    rw [rc.refInv]
    exact m_join x ok hsep h3
  | split =>
    obtain ⟨z, rfl, h1⟩ := onStr_inv (v := v) h
    obtain ⟨y, rfl, h2⟩ := on1_inv h1
    obtain ⟨w, rfl, h3⟩ := onStr_inv h2
    obtain ⟨rfl, hl, h4⟩ := h3
    obtain ⟨cv, rfl, rc⟩ := r.one
    obtain ⟨t, rfl, hz⟩ := ro.strInv
    obtain ⟨u, rfl, _⟩ := rc.strInv
    exact m_split x ok cb hz hl h4
end
structure ClsIn (K : Frag) (c : Addr) : Prop where
  ga : findIn K (.ref c) "__getattribute__" = some (some (.builtin "object.__getattribute__"))
  gt : findIn K (.ref c) "__getattr__" = some none
  sa : findIn K (.ref c) "__setattr__" = some (some (.builtin "object.__setattr__"))
  over : plainOver K c = true
  dict : hasDictIn K c = true
structure CxK (C : Cx) (hB : Heap) : Prop where
  In : C.K.In hB
  F : ∀ c x, C.F c x = true → ClsIn C.K c ∧ findIn C.K (.ref c) x = some none
theorem isStr_inj {v : Value} {a b : Str} (h : v.isStr a = true) (h' : v.isStr b = true) : a = b := by
  cases v <;> first | exact bft h | skip
  simp only [Value.isStr, beq_iff_eq] at h h'
  exact h.symm.trans h'
section
variable {name : Str} {hsh : Int} {tk : Tok} {v : Value}
theorem putL_length (es : List DictEntry) : (putL name hsh (.str name tk) v es).length = if es.any (·.key.isStr name) then es.length else es.length + 1 := by
  induction es with
  | nil => rfl
  | cons e r ih =>
    unfold putL
    rw [List.any_cons]
    cases e.key.isStr name with
    | true => rfl
    | false =>
      refine (congrArg (· + 1) ih).trans ?_
      rw [Bool.false_or]
      cases r.any (·.key.isStr name) <;> rfl
theorem find_putL (x : Str) (es : List DictEntry) : (putL name hsh (.str name tk) v es).find? (·.key.isStr x) = if x = name then (match es.find? (·.key.isStr name) with | some e => some ⟨e.hash, e.key, v⟩ | none => some ⟨hsh, .str name tk, v⟩) else es.find? (·.key.isStr x) := by
  by_cases z : x = name
  · rw [if_pos z, z]
    induction es with
    | nil =>
      show List.find? _ [_] = _
      rw [List.find?_cons, show Value.isStr (.str name tk) name = true from beq_self_eq_true name]; rfl
    | cons e r ih =>
      unfold putL
      rw [List.find?_cons]
      cases q : e.key.isStr name with
      | true => show List.find? _ (_ :: _) = _; rw [List.find?_cons, q]
      | false => show List.find? _ (_ :: _) = _; rw [List.find?_cons, q]; exact ih
  · rw [if_neg z]
    induction es with
    | nil =>
      show List.find? _ [_] = _
      rw [List.find?_cons, show Value.isStr (.str name tk) x = false from beq_eq_false_iff_ne.mpr fun e => z e.symm]
    | cons e r ih =>
      unfold putL
      rw [List.find?_cons]
      cases q : e.key.isStr name with
      | true =>
        have p : e.key.isStr x = false := by
          cases p : e.key.isStr x with
          | false => rfl
          | true => exact absurd (isStr_inj p q) z
        show List.find? _ (_ :: _) = _
        rw [List.find?_cons, p]
      | false =>
        show List.find? _ (_ :: _) = _
        rw [List.find?_cons]
        cases e.key.isStr x with
        | true => rfl
        | false => exact ih
theorem refKey_putL (es : List DictEntry) : (putL name hsh (.str name tk) v es).any (·.refKey) = es.any (·.refKey) := by
  induction es with
  | nil => rfl
  | cons e r ih =>
    unfold putL
    split
    · rfl
    · exact congrArg (e.refKey || ·) ih
theorem getL_putL (x : Str) (es : List DictEntry) (h : (getL name es).isSome = true) : getL x (putL name hsh (.str name tk) v es) = if x = name then some (some v) else getL x es := by
  unfold getL
  rw [find_putL, refKey_putL]
  by_cases e : x = name
  · subst e
    simp only [if_true]
    split <;> rename_i q <;> revert q <;> split <;> intro q <;> cases q <;> rfl
  · simp only [if_neg e]
theorem getL_any (es : List DictEntry) : (∃ y, getL name es = some (some y)) ↔ es.any (·.key.isStr name) = true := by
  unfold getL
  have e : (es.find? (·.key.isStr name)).isSome = es.any (·.key.isStr name) := by rw [Bool.eq_iff_iff, List.find?_isSome, List.any_eq_true]
  rw [← e]
  cases es.find? (·.key.isStr name) with
  | some e => simp
  | none => simp
end
theorem put_lookup {κ : Type} [DecidableEq κ] (k : κ) (v : V) (x : κ) (fs : List (κ × V)) : (put fs k v).lookup x = if x = k then some v else fs.lookup x := by
  induction fs with
  | nil =>
    unfold put
    rw [List.lookup_cons]
    by_cases e : x = k
    · rw [if_pos e, e, beq_self_eq_true]
    · rw [if_neg e, beq_false_of_ne e]
  | cons a r ih =>
    obtain ⟨k', y⟩ := a
    unfold put
    rw [List.lookup_cons]
    by_cases e : k' = k
    · rw [if_pos (beq_iff_eq.mpr e), List.lookup_cons, e]
      by_cases z : x = k
      · rw [if_pos z, z, beq_self_eq_true]
      · rw [if_neg z, beq_false_of_ne z]
    · rw [if_neg (fun q => e (eq_of_beq q)), List.lookup_cons, ih]
      by_cases z : x = k'
      · rw [z, beq_self_eq_true]; exact (if_neg e).symm
      · rw [beq_false_of_ne z]
theorem put_length {κ : Type} [DecidableEq κ] (k : κ) (v : V) (fs : List (κ × V)) : (put fs k v).length = if (fs.lookup k).isSome then fs.length else fs.length + 1 := by
  induction fs with
  | nil => rfl
  | cons a r ih =>
    obtain ⟨k', y⟩ := a
    unfold put
    rw [List.lookup_cons]
    by_cases e : k' = k
    · rw [if_pos (beq_iff_eq.mpr e), e, beq_self_eq_true]; rfl
    · rw [if_neg (fun q => e (eq_of_beq q)), beq_false_of_ne (Ne.symm e)]
      refine (congrArg (· + 1) ih).trans ?_
      show _ = if (r.lookup k).isSome = true then _ else _
      cases (r.lookup k).isSome <;> rfl
section
variable {f : Fx} {m : M} {σ σ' : AS} {s s' : Shared} {A : Around} {E₀ : Value → Shared → Prop} {C : Cx}
theorem FldAt.isSome {h : Heap} {es : List DictEntry} {fs : List (Str × V)} (x : FldAt h es fs) (y : Str) : (getL y es).isSome = true := by
  have := x.2 y
  cases q : fs.lookup y with
  | none => rw [q] at this; rw [this]; rfl
  | some v => rw [q] at this; obtain ⟨cv, e, _⟩ := this; rw [e]; rfl
theorem FldAt.put {h h' : Heap} {es : List DictEntry} {fs : List (Str × V)} (x : FldAt h es fs) (t : TupK h h') {y : Str} {cv : Value} {v : V} (r : Rv h' cv v) {hsh : Int} {tk : Tok} : FldAt h' (putL y hsh (.str y tk) cv es) (put fs y v) := by
  have hs := x.isSome y
  refine ⟨?_, fun z => ?_⟩
  · rw [putL_length, put_length, x.1]
    have hy := x.2 y
    cases q : fs.lookup y with
    | none =>
      rw [q] at hy
      have : es.any (·.key.isStr y) = false := by
        cases p : es.any (·.key.isStr y) with
        | false => rfl
        | true => obtain ⟨w, e⟩ := (getL_any es).mpr p; rw [hy] at e; cases e
      simp [this]
    | some u =>
      rw [q] at hy
      obtain ⟨w, e, _⟩ := hy
      rw [(getL_any es).mp ⟨w, e⟩]
      simp
  · rw [put_lookup, getL_putL z es hs]
    by_cases e : z = y
    · subst e; simp only [if_true]; exact ⟨cv, rfl, r⟩
    · simp only [if_neg e]
      have hz := x.2 z
      cases q : fs.lookup z with
      | none => rw [q] at hz; exact hz
      | some u => rw [q] at hz; obtain ⟨w, e', r'⟩ := hz; exact ⟨w, e', r'.mono t⟩
theorem FS.In (x : FS f m σ s) (ck : CxK C f.hB) : C.K.In s.heap := fun a o e => x.at_.st _ _ (ck.In a o e)
theorem FS.inst (x : FS f m σ s) {a c dx : Addr} {fs : List (Str × V)} (ha : σ a = some (.inst c dx)) (hd : σ dx = some (.fld fs)) :
    ∃ es n, s.heap.get? dx = some (dictOf es n) ∧ FldAt s.heap es fs ∧ s.heap.get? a = some (instObj c dx) ∧ InstAt s.heap a (instObj c dx) c (some (dictOf es n)) := by
  have h1 := x.om ha
  obtain ⟨es, n, h2, h3⟩ := x.om hd
  exact ⟨es, n, h2, h3, h1, ⟨h1, rfl, rfl, h2⟩⟩
theorem Rv.handed {h : Heap} {cv : Value} {v : V} (r : Rv h cv v) : handedIn cv = true := by cases r <;> rfl
theorem attr_ok (x : FS f m σ s) (ok : f.Ok) (ck : CxK C f.hB) {ov : Value} {v : V} {y : Str} {b : Bool} (r : Rv s.heap ov v) {Q : PQ} (h : aattr C v y σ Q) :
    wpAny (model f.prog f.w) A (getAttr ov y b) (PE f m σ s.heap Q) E₀ s := by
  unfold aattr at h
  split at h
  · obtain rfl := r.refInv
    obtain ⟨c, dx, ha, h⟩ := oI_inv h
    obtain ⟨hf, h⟩ := onB_inv h
    obtain ⟨fs, hd, h⟩ := oF_inv h
    obtain ⟨u, hu, h⟩ := oS_inv h
    obtain ⟨es, n, h1, h2, h3, I⟩ := x.inst ha hd
    obtain ⟨ci, hn⟩ := ck.F c y hf
    have := h2.2 y
    rw [hu] at this
    obtain ⟨cv, e, rc⟩ := this
    exact get_value (x.In ck) I ci.ga (findObj_own ci.dict hn rfl (by rw [lookIn_dict]; exact e)) rc.handed (.of x ok rc h)
  · exact h.elim
theorem seta_ok (x : FS f m σ s) (ok : f.Ok) (ck : CxK C f.hB) {a c dx : Addr} {fs : List (Str × V)} {y : Str} {cv : Value} {v : V} (ha : σ a = some (.inst c dx)) (hf : C.F c y = true) (hd : σ dx = some (.fld fs)) (hl : fs.length ≤ 20) (r : Rv s.heap cv v) {Q : Unit → Shared → Prop}
    (h : ∀ s', FS f m (σ.set dx (.fld (put fs y v))) s' → Kc (frs f.l) [] σ (σ.set dx (.fld (put fs y v))) s.heap s'.heap → Q () s') :
    wpAny (model f.prog f.w) A (setAttr (.ref a) y cv) Q E₀ s := by
  obtain ⟨es, n, h1, h2, h3, I⟩ := x.inst ha hd
  obtain ⟨ci, hn⟩ := ck.F c y hf
  obtain ⟨cd, hc, hdct⟩ := any_some ci.dict
  refine set_plain (x.In ck) I ci.sa (osa_open (x.In ck) I ci.over (r := none) (by unfold takerIn; rw [hn]; rfl) fun b => ?_)
  refine wpAny_bind (wpAny_pure (wpAny_bind (wpAny_bind (wpAny_loadPart h3 (wpAny_bind ((show Looks (model f.prog f.w) ({ s with toks := s.toks + 1 } : Shared).heap (classData c) cd from looks_clsIn (x.In ck) hc).here ?_))))))
  rw [hdct]
  refine wpAny_pure (a := some dx) (wpAny_bind (wpAny_pure (wpAny_bind ?_)))
  unfold nsSet
  refine wpAny_bind (wpAny_bind (wpAny_askSetting (wpAny_pure (wpAny_bind (wpAny_mkText (wpAny_bind (wpAny_loadPart h1 ?_)))))))
  dsimp only
  have hs := h2.isSome y
  have cc : (!es.toArray.any (·.key.isStr y) && es.toArray.any (·.refKey)) = false := by
    simp only [List.any_toArray]
    unfold getL at hs
    split at hs
    · rename_i en he
      rw [List.any_eq_true.mpr ⟨en, List.mem_of_find?_eq_some he, List.find?_some he⟩]; rfl
    · split at hs
      · exact bft hs
      · rename_i z; rw [Bool.not_eq_true] at z; rw [z, Bool.and_false]
  rw [aRefKeyMayBeTheName_at, cc]
  have hsb := Heap.SameBut.update s.heap dx (Obj.putName y (PyData.keyHash (model f.prog f.w).w.params y) (.str y (s.toks + 1)) cv)
  have hself := Heap.get?_update_self (h := s.heap) (a := dx) (Obj.putName y (PyData.keyHash (model f.prog f.w).w.params y) (.str y (s.toks + 1)) cv) h1 (by rw [putName_dict]; rfl)
  rw [putName_dict] at hself
  refine wpAny_updatePart h1 ?_
  refine wpAny_bind (wpAny_lookBehind hself (by
    refine pastItsLine_dict ?_
    have h20 := h2.1
    simp only [List.size_toArray, putL_length, sizeLine_eq]
    split <;> lia) ?_)
  obtain ⟨x1, k1⟩ := x.turn ok (ao := .fld (put fs y v)) (k := s.toks + 1 + 1) hd hsb ⟨_, hself⟩ fun tk => ⟨_, _, hself, h2.put tk (r.mono tk)⟩
  exact wpAny_pure (h _ x1 k1)
theorem meth_ok (x : FS f m σ s) (ck : CxK C f.hB) {a c dx g : Addr} {fs : List (Str × V)} {y : Str} {pl : Sem Bool} {Q : Value × List Value → Shared → Prop} (ha : σ a = some (.inst c dx)) (hd : σ dx = some (.fld fs)) (hl : fs.lookup y = none)
    (ci : ClsIn C.K c) (hf : findIn C.K (.ref c) y = some (some (.ref g))) (ht : isFn C.K (.ref g) = true) (h : Q (.ref g, [.ref a]) s) : wpAny (model f.prog f.w) A (getMethod (.ref a) y pl) Q E₀ s := by
  obtain ⟨es, n, h1, h2, h3, I⟩ := x.inst ha hd
  have := h2.2 y
  rw [hl] at this
  exact method_fn (x.In ck) I ci.ga ci.gt hf (beq_iff_eq.mp ht) (by show (lookIn y (dictOf es n)).map _ = _; rw [lookIn_dict, this]; rfl) h
end
noncomputable abbrev noA : AS := fun _ => none
noncomputable def ExO (h : Heap) (e K dx : Addr) (tb : Value) : Prop := ∃ sl vs, h.get? e = some ⟨.ref K, some dx, .fields vs, sl⟩ ∧ vs[1]? = some tb
noncomputable def TbO (h : Heap) (T : Addr) (fl : Value) : Prop := ∃ o ts, h.get? T = some o ∧ o.data = .fields ts ∧ ts[3]? = some fl
noncomputable def Fly (h : Heap) (e K dx : Addr) (X : List Addr) (fl : Value) : Prop :=
  (X = [e] ∧ ExO h e K dx .none ∧ fl = .none) ∨ ∃ T, X = [e, T] ∧ T ≠ e ∧ ExO h e K dx (.ref T) ∧ TbO h T fl
theorem Fly.fields {h : Heap} {e K dx : Addr} {X : List Addr} {fl : Value} (x : Fly h e K dx X fl) : ∀ b ∈ X, ∃ o vs, h.get? b = some o ∧ o.data = .fields vs := by
  rcases x with ⟨rfl, ⟨sl, vs, h1, _⟩, _⟩ | ⟨T, rfl, _, ⟨sl, vs, h1, _⟩, ⟨o, ts, h2, h3, _⟩⟩
  · intro b hb; rw [List.mem_singleton.mp hb]; exact ⟨_, _, h1, rfl⟩
  · intro b hb
    rcases List.mem_cons.mp hb with rfl | hb
    · exact ⟨_, _, h1, rfl⟩
    · rw [List.mem_singleton.mp hb]; exact ⟨_, _, h2, h3⟩
section
variable {M : Model} {A : Around} {E : Value → Shared → Prop} {s : Shared}
theorem note_new {base : Heap} {env : Env} {outer : List Env} {L e K dx : Addr} {tb head : Value} {hadNext : Bool} {X : List Addr} {Q : Unit → Shared → Prop}
    (hfr : A.frames = some (env :: outer)) (hl : s.heap.FunFrames base (env :: outer)) (hf : env.frame = some L) (hx : ExO s.heap e K dx tb) (heX : e ∈ X)
    (h : ∀ h' T, Fly h' e K dx [e, T] (rawInt L) → s.heap.get? T = none → Kc (frs (env :: outer)) X noA noA s.heap h' → Q () { s with heap := h' }) :
    wpAny M A (do let a ← frameOf env; let pl ← entryPlaceOf L hadNext; let b ← EntryCells.newEntry head a .none (rawInt L) .none pl; setField (.ref e) 1 b) Q E s := by
  obtain ⟨sl, vs, he, h1⟩ := hx
  have hsz : 1 < vs.size := (Array.getElem?_eq_some_iff.mp h1).1
  have hene : e ∉ (env :: outer).filterMap (·.frame) := fun hm => by
    obtain ⟨_, o, ho, hnf⟩ := hl.mem hm
    rw [he] at ho; injection ho with ho; subst ho; exact hnf vs rfl
  refine wpAny_bind (wpAny_frameOf_fun hfr hl hf fun h₁ hs₁ => ?_)
  refine wpAny_bind (wpAny_entryPlaceOf fun pl hpl => ?_)
  unfold EntryCells.newEntry newFields
  refine wpAny_bind (wpAny_newObj_type ?_ (hpl.sizeOk5 _ _ _ _ _))
  have he₁ : h₁.get? e = some ⟨.ref K, some dx, .fields vs, sl⟩ := (hs₁.2.1 e hene).trans he
  have he₂ := Heap.get?_push_of_some (h := h₁) { cls := .type "traceback", dict := none, data := .fields ([head, .ref L, .none, rawInt L, .none] ++ (if pl.isEmpty then List.replicate 6 Value.none else pl)).toArray } he₁
  refine wpAny_setField he₂ rfl hsz (h _ h₁.objs.size ?_ ?_ ?_)
  · have hTe : h₁.objs.size ≠ e := Nat.ne_of_gt (Heap.lt_size he₁)
    have he₃ := Heap.get?_update_self (Obj.mapFields (·.setIfInBounds 1 (Value.ref h₁.objs.size))) he₂ (Obj.isFreed_of_fields (vs := vs.setIfInBounds 1 (Value.ref h₁.objs.size)) rfl)
    have hT₃ := (Heap.get?_update_other (h₁.push { cls := .type "traceback", dict := none, data := .fields ([head, .ref L, .none, rawInt L, .none] ++ (if pl.isEmpty then List.replicate 6 Value.none else pl)).toArray })
      (Obj.mapFields (·.setIfInBounds 1 (Value.ref h₁.objs.size))) (Ne.symm hTe)).trans (Heap.get?_push_size h₁ rfl)
    refine .inr ⟨_, rfl, hTe, ⟨sl, _, he₃, by simp [hsz]⟩, ⟨_, _, hT₃, rfl, ?_⟩⟩
    first | (simp; done) | (rcases hpl with rfl | ⟨_, _, _, _, _, _, _, rfl⟩ <;> simp)
  · exact Heap.get?_none_of_le (by rw [hs₁.1]; exact Nat.le_refl _)
  · have keep : ∀ b o, b ≠ e → h₁.get? b = some o →
        ((h₁.push { cls := .type "traceback", dict := none, data := .fields ([head, .ref L, .none, rawInt L, .none] ++ (if pl.isEmpty then List.replicate 6 Value.none else pl)).toArray }).update e (Obj.mapFields (·.setIfInBounds 1 (Value.ref h₁.objs.size)))).get? b = some o :=
      fun b o hbe hb => by
        rw [Heap.get?_update_other _ _ (Ne.symm hbe)]
        exact Heap.get?_push_of_some _ hb
    refine ⟨fun b o hb _ hF hX => keep b o (fun q => hX (q ▸ heX)) ((hs₁.2.1 b hF).trans hb), fun b o hb hF hX => ?_, fun _ _ _ _ => rfl, fun b o hb => ?_⟩
    · obtain ⟨sl, hs⟩ := hs₁.2.2 b o hb
      exact ⟨sl, keep b _ (fun q => hX (q ▸ heX)) hs⟩
    · obtain ⟨sl, hs⟩ := hs₁.2.2 b o hb
      by_cases q : b = e
      · subst q
        exact ⟨_, Heap.get?_update_self _ he₂ (Obj.isFreed_of_fields (vs := vs.setIfInBounds 1 (Value.ref h₁.objs.size)) rfl)⟩
      · exact ⟨_, keep b _ q hs⟩
theorem note_ok {base : Heap} {env : Env} {outer : List Env} {L e K dx : Addr} {X : List Addr} {Q : Unit → Shared → Prop}
    (hfr : A.frames = some (env :: outer)) (hl : s.heap.FunFrames base (env :: outer)) (hf : env.frame = some L) (hx : Fly s.heap e K dx X .none)
    (h : ∀ h' T, Fly h' e K dx [e, T] (rawInt L) → s.heap.get? T = none → Kc (frs (env :: outer)) X noA noA s.heap h' → Q () { s with heap := h' }) :
    wpAny M A (noteFrame (.ref e) env) Q E s := by
  rcases hx with ⟨rfl, hx, _⟩ | ⟨T, rfl, hTe, hx, ⟨o, ts, hT, hdT, h3⟩⟩
  · obtain ⟨sl, vs, he, h1⟩ := id hx
    unfold noteFrame
    simp only [hf]
    refine wpAny_bind (wpAny_field he rfl h1 ?_)
    rw [if_neg (by decide)]
    exact note_new hfr hl hf hx (.head _) h
  · obtain ⟨sl, vs, he, h1⟩ := id hx
    unfold noteFrame
    simp only [hf]
    refine wpAny_bind (wpAny_field he rfl h1 ?_)
    rw [if_pos (show (Value.ref T != Value.none) = true from by simp)]
    refine wpAny_bind (wpAny_field hT hdT h3 ?_)
    rw [if_neg (show ¬ ((Value.none == rawInt L) = true) from by simp [rawInt])]
    refine wpAny_bind (wpAny_setField hT hdT (Array.getElem?_eq_some_iff.mp h3).1 ?_)
    have other : ∀ b, b ≠ T → (s.heap.update T (Obj.mapFields (·.setIfInBounds 3 Value.none))).get? b = s.heap.get? b := fun b hb => Heap.get?_update_other _ _ (Ne.symm hb)
    have self : (s.heap.update T (Obj.mapFields (·.setIfInBounds 3 Value.none))).get? T = some (o.mapFields (·.setIfInBounds 3 Value.none)) := Heap.get?_update_self _ hT (Obj.isFreed_of_fields (Obj.data_mapFields hdT _))
    have noRecord : ∀ b o, s.heap.get? b = some o → (∀ vs, o.data ≠ .fields vs) → b ≠ T := fun b o hb hnf q => by
      rw [q, hT] at hb; injection hb with hb; subst hb; exact hnf ts hdT
    have k₁ : Kc (frs (env :: outer)) [e, T] noA noA s.heap (s.heap.update T (Obj.mapFields (·.setIfInBounds 3 Value.none))) :=
      ⟨fun b o hb _ _ hX => (other b fun q => hX (q ▸ .tail _ (.head _))).trans hb, fun b o hb _ hX => ⟨o.slots, (other b fun q => hX (q ▸ .tail _ (.head _))).trans hb⟩, fun _ _ _ _ => rfl,
        fun b o hb => by
          by_cases q : b = T
          · subst q; exact ⟨_, self⟩
          · exact ⟨o, (other b q).trans hb⟩⟩
    refine note_new (X := [e, T]) (tb := .ref T) hfr (hl.of_keeps fun b o hb hnf => ⟨o, (other b (noRecord b o hb hnf)).trans hb, rfl⟩) hf ⟨sl, vs, (other e (Ne.symm hTe)).trans he, h1⟩ (.head _) fun h' T' hF hN hK => h h' T' hF ?_ (k₁.trans hK)
    refine isN fun o' q => ?_
    obtain ⟨o'', e''⟩ := k₁.pr _ _ q; exact no2 hN e''
theorem note_again {env : Env} {L e K dx : Addr} {X : List Addr} {Q : Unit → Shared → Prop} (hf : env.frame = some L) (hx : Fly s.heap e K dx X (rawInt L)) (h : Q () s) : wpAny M A (noteFrame (.ref e) env) Q E s := by
  rcases hx with ⟨_, _, hx⟩ | ⟨T, rfl, hTe, ⟨sl, vs, he, h1⟩, ⟨o, ts, hT, hdT, h3⟩⟩
  · exact absurd hx (by simp [rawInt])
  · exact wpAny_noteFrame_inFlight hf he rfl h1 hT hdT h3 h
theorem flight_ok {e K dx : Addr} {X Fs : List Addr} {fl : Value} {Q : Unit → Shared → Prop} (hx : Fly s.heap e K dx X fl) (h : ∀ h', Fly h' e K dx X .none → Kc Fs X noA noA s.heap h' → Q () { s with heap := h' }) :
    wpAny M A (setFlight (.ref e) none) Q E s := by
  rcases hx with ⟨rfl, hx, rfl⟩ | ⟨T, rfl, hTe, hx, ⟨o, ts, hT, hdT, h3⟩⟩
  · obtain ⟨sl, vs, he, h1⟩ := id hx
    unfold setFlight
    refine wpAny_bind (wpAny_field he rfl h1 ?_)
    rw [if_neg (by decide)]
    exact wpAny_pure (h s.heap (.inl ⟨rfl, hx, rfl⟩) Kc.refl)
  · obtain ⟨sl, vs, he, h1⟩ := id hx
    have other : ∀ b, b ≠ T → (s.heap.update T (Obj.mapFields (·.setIfInBounds 3 Value.none))).get? b = s.heap.get? b := fun b hb => Heap.get?_update_other _ _ (Ne.symm hb)
    have hsz : 3 < ts.size := (Array.getElem?_eq_some_iff.mp h3).1
    have self : (s.heap.update T (Obj.mapFields (·.setIfInBounds 3 Value.none))).get? T = some (o.mapFields (·.setIfInBounds 3 Value.none)) := Heap.get?_update_self _ hT (Obj.isFreed_of_fields (Obj.data_mapFields hdT _))
    refine wpAny_setFlight_none he rfl h1 hT hdT hsz (h _ (.inr ⟨T, rfl, hTe, ⟨sl, vs, (other e (Ne.symm hTe)).trans he, h1⟩, ⟨_, _, self, Obj.data_mapFields hdT _, by simp [hsz]⟩⟩) ?_)
    exact ⟨fun b o hb _ _ hX => (other b fun q => hX (q ▸ .tail _ (.head _))).trans hb, fun b o hb _ hX => ⟨o.slots, (other b fun q => hX (q ▸ .tail _ (.head _))).trans hb⟩, fun _ _ _ _ => rfl,
      fun b o hb => by
        by_cases q : b = T
        · subst q; exact ⟨_, self⟩
        · exact ⟨o, (other b q).trans hb⟩⟩
end
theorem OM.noFields {prog : Program} {w : World} {h : Heap} {a : Addr} {ao : AO} (x : OM prog w h a ao) : ∃ ob, h.get? a = some ob ∧ ∀ vs, ob.data ≠ .fields vs := by
  cases ao with
  | list l => obtain ⟨vs, ⟨n, e⟩, _⟩ := x; exact ⟨_, e, fun _ q => by cases q⟩
  | di es => obtain ⟨kvs, ⟨o, _, _, e, c, hd, _⟩, _⟩ := x; exact ⟨_, e, fun _ q => by rw [hd] at q; cases q⟩
  | ds es => obtain ⟨kvs, ⟨o, _, _, e, c, hd, _⟩, _⟩ := x; exact ⟨_, e, fun _ q => by rw [hd] at q; cases q⟩
  | inst C dx => exact ⟨_, x, fun _ q => by cases q⟩
  | fld fs => obtain ⟨es, n, e, _⟩ := x; exact ⟨_, e, fun _ q => by cases q⟩
section
variable {f : Fx} {m : M} {σ σ' : AS} {s s' : Shared}
theorem FS.fields (x : FS f m σ s) (ok : f.Ok) {X : List Addr} {h' : Heap} (c : Kc (frs f.l) X noA noA s.heap h') (hX : ∀ b ∈ X, ∃ o vs, s.heap.get? b = some o ∧ o.data = .fields vs) (hB : ∀ b ∈ X, f.hB.get? b = none) : FS f m σ { s with heap := h' } := by
  obtain ⟨l', hl', ff, fσ⟩ := x.at_.fr
  obtain rfl := inj2 ok.fr hl'
  have nX : ∀ b o, s.heap.get? b = some o → (∀ vs, o.data ≠ .fields vs) → b ∉ X := fun b o e hn hm => by
    obtain ⟨o', vs, e', d⟩ := hX b hm
    obtain rfl := inj2 e e'; exact hn vs d
  have nf : ∀ b o, f.hB.get? b = some o → b ∉ frs f.l := fun b o e hm => by have := (frs_in ff b hm).1; exact no2 this e
  have tk : TupK s.heap h' := fun b o e hc ⟨vs, n, hd⟩ => by
    have hx := nX b o e fun _ q => by rw [hd] at q; cases q
    exact c.up e rfl hx
  refine ⟨⟨fun b o e => c.ex b o (x.at_.st b o e) rfl (nf b o e) (fun hm => by exact no2 (hB b hm) e), fun a ao e => ⟨?_, (x.at_.obj a ao e).2⟩, ⟨f.l, ok.fr, funFrames_of ff fun b hb o e => ?_, fσ⟩, x.at_.hd, x.at_.dp, x.at_.un, x.at_.gens, x.at_.os⟩, ?_, fun y ca hc => ?_, x.sL, x.sC, x.bL, x.bC⟩
  · have om := x.om e
    obtain ⟨ob, e1, hn⟩ := om.noFields
    refine om.at (fun ob' e' => c.ex a ob' e' rfl (fun hm => by exact no2 (fσ a hm) e) (nX a ob e1 hn)) tk
  · obtain ⟨_, o', e', hn⟩ := ff.mem hb
    obtain rfl := inj2 e e'
    obtain ⟨sl, e''⟩ := c.up e rfl (nX b o e hn)
    exact ⟨_, e'', rfl⟩
  · obtain ⟨mm, ⟨ob, es, ep, hn, hd, r⟩, hv⟩ := x.lo
    obtain ⟨sl, e⟩ := c.up hn rfl (nX _ _ hn fun _ q => by rw [hd] at q; cases q)
    refine ⟨mm, ⟨_, es, ep, e, hd, r⟩, fun y i v h1 h2 h3 => ?_⟩
    obtain ⟨cv, a, b⟩ := hv y i v h1 h2 h3
    exact ⟨cv, a, b.mono tk⟩
  · obtain ⟨ob, v, e, d, r⟩ := x.ce y ca hc
    obtain ⟨sl, e'⟩ := c.up e rfl (nX _ _ e fun _ q => by rw [d] at q; cases q)
    refine ⟨_, v, e', d, fun i u h1 h2 h3 => ?_⟩
    obtain ⟨cv, a, b⟩ := r i u h1 h2 h3
    exact ⟨cv, a, b.mono tk⟩
noncomputable def Bears (h : Heap) (dx : Addr) (w : V) : Prop := ∃ es n cv, h.get? dx = some (dictOf es n) ∧ getL "what" es = some (some cv) ∧ Rv h cv w
theorem Bears.keep {h h' : Heap} {dx : Addr} {w : V} {Fs X : List Addr} (x : Bears h dx w) (c : Kc Fs X noA noA h h') (hf : dx ∉ Fs) (hX : ∀ b ∈ X, ∃ o vs, h.get? b = some o ∧ o.data = .fields vs) : Bears h' dx w := by
  obtain ⟨es, n, cv, a, b, r⟩ := x
  refine ⟨es, n, cv, c.ex _ _ a rfl hf (fun hm => ?_), b, r.mono fun b o e hc ⟨vs, k, hd⟩ => c.up e rfl fun hm => ?_⟩
  · obtain ⟨o, vs, e, d⟩ := hX _ hm
    obtain rfl := inj2 a e; cases d
  · obtain ⟨o', vs', e', d⟩ := hX _ hm
    obtain rfl := inj2 e e'; rw [hd] at d; cases d
structure XG (f : Fx) (m : M) (σ σ' : AS) (h : Heap) (x : Exn) (fl : Value) (e : Addr) (s' : Shared) : Prop where
  fs : FS f m σ' s'
  kc : Kc (frs f.l) f.own σ σ' h s'.heap
  ex : ∃ dx X, Fly s'.heap e x.cls dx X fl ∧ (∀ b ∈ dx :: X, σ' b = none ∧ h.get? b = none ∧ f.hB.get? b = none) ∧ dx ∉ frs f.l ∧ Bears s'.heap dx x.what
noncomputable def XF (f : Fx) (m : M) (σ σ' : AS) (h : Heap) (x : Exn) (ev : Value) (s' : Shared) : Prop := ∃ e, ev = .ref e ∧ XG f m σ σ' h x .none e s'
theorem FS.ownDict (x : FS f m σ s) : ∀ b ∈ f.own, ∃ o, s.heap.get? b = some o ∧ ∀ vs, o.data ≠ .fields vs := fun b hb => by
  rcases List.mem_cons.mp hb with rfl | hm
  · obtain ⟨mm, ⟨ob, es, ep, hn, hd, r⟩, hv⟩ := x.lo
    exact ⟨_, hn, fun _ q => by rw [hd] at q; cases q⟩
  · obtain ⟨⟨y, ca⟩, hy, rfl⟩ := List.mem_map.mp hm
    obtain ⟨ob, v, e, d, r⟩ := x.ce y ca hy
    exact ⟨_, e, fun _ q => by rw [d] at q; cases q⟩
theorem Kc.skip {Fs X Y : List Addr} {σ σ' : AS} {h h₁ h₂ : Heap} (x : Kc Fs Y σ σ' h h₁) (c : Kc Fs X noA noA h₁ h₂) (hX : ∀ b ∈ X, h.get? b = none) : Kc Fs Y σ σ' h h₂ :=
  ⟨fun b o e hs hf hy => c.ex b o (x.ex b o e hs hf hy) rfl hf (fun hm => by exact no2 (hX b hm) e),
   fun b o e hf hy => let ⟨_, e₁⟩ := x.sl b o e hf hy; let ⟨sl, e₂⟩ := c.sl b _ e₁ hf (fun hm => by exact no2 (hX b hm) e); ⟨sl, e₂⟩,
   x.nw, fun b o e => let ⟨_, e₁⟩ := x.pr b o e; c.pr b _ e₁⟩
theorem XG.note {h : Heap} {x : Exn} {e : Addr} {M : Model} {A : Around} {E : Value → Shared → Prop} {Q : Unit → Shared → Prop} {outer : List Env} (g : XG f m σ σ' h x .none e s) (ok : f.Ok) (hA : A.frames = some f.l) (hl : f.l = f.env :: outer) {L : Addr} (hf : f.env.frame = some L)
    (q : ∀ s', XG f m σ σ' h x (rawInt L) e s' → Q () s') : wpAny M A (noteFrame (.ref e) f.env) Q E s := by
  obtain ⟨dx, X, fly, hX, hdx, h1⟩ := g.ex
  obtain ⟨l', hl', ff, fσ⟩ := g.fs.at_.fr
  obtain rfl := inj2 ok.fr hl'
  rw [hl] at hA ff
  refine note_ok hA ff hf fly fun h' T hF hN hK => q _ ?_
  rw [← hl] at hK
  refine ⟨g.fs.fields ok hK fly.fields fun b hb => (hX b (.tail _ hb)).2.2, g.kc.skip hK fun b hb => (hX b (.tail _ hb)).2.1, dx, _, hF, fun b hb => ?_, hdx, h1.keep hK hdx fly.fields⟩
  rcases List.mem_cons.mp hb with rfl | hb
  · exact hX _ (.head _)
  rcases List.mem_cons.mp hb with rfl | hb
  · rcases fly with ⟨rfl, _⟩ | ⟨T, rfl, _⟩ <;> exact hX _ (.tail _ (.head _))
  · rw [List.mem_singleton.mp hb]
    refine ⟨?_, ?_, ?_⟩
    · refine isN fun ao p => ?_
      obtain ⟨_, z, _⟩ := (g.fs.om p).lt; exact no2 hN z
    · refine isN fun o p => ?_
      obtain ⟨_, z⟩ := g.kc.pr _ _ p; exact no2 hN z
    · exact g.fs.hB_fresh hN
theorem XG.land {h : Heap} {x : Exn} {e : Addr} {fl : Value} {M : Model} {A : Around} {E : Value → Shared → Prop} {Q : Unit → Shared → Prop} (g : XG f m σ σ' h x fl e s) (ok : f.Ok)
    (q : ∀ s', XG f m σ σ' h x .none e s' → Q () s') : wpAny M A (setFlight (.ref e) none) Q E s := by
  obtain ⟨dx, X, fly, hX, hdx, h1⟩ := g.ex
  refine flight_ok (Fs := frs f.l) fly fun h' hF hK => q _ ?_
  exact ⟨g.fs.fields ok hK fly.fields fun b hb => (hX b (.tail _ hb)).2.2, g.kc.skip hK fun b hb => (hX b (.tail _ hb)).2.1, dx, _, hF, hX, hdx, h1.keep hK hdx fly.fields⟩
noncomputable def XI (f : Fx) (m : M) (σ : AS) (h : Heap) (Ex : PXx) (E₀ : Value → Shared → Prop) : Prop := ∀ σ' s' x ev, XF f m σ σ' h x ev s' → Ex x σ' → E₀ ev s'
theorem XI.lift {σ₁ : AS} {h h₁ : Heap} {Ex : PXx} {E₀ : Value → Shared → Prop} (x : XI f m σ h Ex E₀) (c : Kc (frs f.l) f.own σ σ₁ h h₁) : XI f m σ₁ h₁ Ex E₀ := fun σ' s' y ev ⟨e, hv, g⟩ hE => by
  refine x σ' s' y ev ⟨e, hv, g.fs, c.trans g.kc, ?_⟩ hE
  obtain ⟨dx, X, fly, hX, r⟩ := g.ex
  refine ⟨dx, X, fly, fun b hb => ⟨(hX b hb).1, ?_, (hX b hb).2.2⟩, r⟩
  refine isN fun o p => ?_
  obtain ⟨_, z⟩ := c.pr _ _ p; rw [(hX b hb).2.1] at z; exact no1 z
end
noncomputable def Glob (hB : Heap) (x : Str) (v : Value) : Prop := ∃ mg, hB.Ns mainGlobals mg ∧ mg x = some v
noncomputable def Blt (hB : Heap) (x : Str) (v : Value) : Prop := ∃ mg mb, hB.Ns mainGlobals mg ∧ mg x = none ∧ hB.Ns builtinsNs mb ∧ mb x = some v
noncomputable def Kept (hB : Heap) (fv : Value) : Prop := ∀ (M : Model) (h : Heap), hB.StaysIn h → ∃ k, (k = Keeper.frame ∨ k = Keeper.machine ∨ k = Keeper.boundFrame) ∧ Looks M h (keeperOf fv) k
structure XA (prog : Program) (w : World) (hB : Heap) (os0 : OsState) (A : Around) (l : List Env) (n : Nat) (σ σ' : AS) (h : Heap) (x : Exn) (ev : Value) (s' : Shared) : Prop where
  at_ : Mine.At prog w hB os0 A n σ' s'
  kc : Kc (frs l) [] σ σ' h s'.heap
  ex : ∃ e dx X, ev = .ref e ∧ Fly s'.heap e x.cls dx X .none ∧ (∀ b ∈ dx :: X, σ' b = none ∧ h.get? b = none ∧ hB.get? b = none) ∧ dx ∉ frs l ∧ Bears s'.heap dx x.what
noncomputable def DQ (prog : Program) (w : World) (hB : Heap) (os0 : OsState) (A : Around) (l : List Env) (n : Nat) (σ : AS) (h : Heap) (Q : PQ) (cv : Value) (s' : Shared) : Prop := ∃ v σ', Mine.At prog w hB os0 A n σ' s' ∧ Rv s'.heap cv v ∧ Kc (frs l) [] σ σ' h s'.heap ∧ Q v σ'
noncomputable def DR (Q : Value → Shared → Prop) (E : Value → Shared → Prop) (r : Result) (s' : Shared) : Prop := match r with
  | .ok (.ret v) => Q v s'
  | .ok _ => False
  | .error e => E e s'
noncomputable def Does (prog : Program) (w : World) (hB : Heap) (os0 : OsState) (n : Nat) (fv : Value) (sp : Spec) : Prop :=
  ∀ (A : Around) (l : List Env) (σ : AS) (s : Shared) (cvs : List Value) (vs : List V) (Q : PQ) (X : PXx) (E : Value → Shared → Prop), A.frames = some l → Mine.At prog w hB os0 A n σ s → RvL s.heap cvs vs → sp vs σ Q X →
    (∀ x σ' ev s', XA prog w hB os0 A l n σ σ' s.heap x ev s' → X x σ' → E ev s') →
    codeAny (model prog w) A (.call fv ⟨cvs, []⟩) (DR (DQ prog w hB os0 A l n σ s.heap Q) E) s
structure ExcOk (prog : Program) (w : World) (hB : Heap) (os0 : OsState) (n : Nat) (K : Addr) : Prop where
  kept : Kept hB (.ref K)
  make : ∀ (A : Around) (l : List Env) (σ : AS) (s : Shared) (cv : Value) (t : Str) (Q E : Value → Shared → Prop), A.frames = some l → Mine.At prog w hB os0 A n σ s → Rv s.heap cv (.str t) →
    (∀ e dx s', Mine.At prog w hB os0 A n σ s' → Kc (frs l) [] σ σ s.heap s'.heap → Fly s'.heap e K dx [e] .none → (∀ b ∈ [dx, e], s.heap.get? b = none ∧ σ b = none ∧ hB.get? b = none) → Bears s'.heap dx (.str t) → Q (.ref e) s') →
    wpAny (model prog w) A (call (.ref K) [cv]) Q E s
  raise : ∀ (A : Around) (env : Env) (x : Sem Value) (Q : Flow → Shared → Prop) (E : Value → Shared → Prop) (s : Shared), A.handled = none →
    wpAny (model prog w) A x (fun v s₁ => ∃ e dx, v = .ref e ∧ Fly s₁.heap e K dx [e] .none ∧ hB.StaysIn s₁.heap ∧ E (.ref e) s₁) E s → wpAny (model prog w) A (raiseStmt env (some x) none) Q E s
  mat : ∀ (A : Around) (Q : Bool → Shared → Prop) (E : Value → Shared → Prop) (s : Shared) (e : Addr) (o : Obj), hB.StaysIn s.heap → s.heap.get? e = some o → o.cls = .ref K → Q true s → wpAny (model prog w) A (excMatches (.ref e) (.ref K)) Q E s
  attr : ∀ (A : Around) (Q E : Value → Shared → Prop) (s : Shared) (e dx : Addr) (X : List Addr) (t : Str), hB.StaysIn s.heap → Fly s.heap e K dx X .none → Bears s.heap dx (.str t) → (∀ tk k, Q (.str t tk) { s with toks := k }) → wpAny (model prog w) A (getAttr (.ref e) "what" true) Q E s
structure CxO (C : Cx) (prog : Program) (w : World) (hB : Heap) (os0 : OsState) (n : Nat) : Prop where
  b : CxB C prog w hB
  k : CxK C hB
  base : Base prog hB
  bi : ∀ x k, bkind x = some k → Blt hB x (bkVal k)
  isi : Blt hB "isinstance" (.builtin "isinstance")
  tint : Blt hB "int" (.type "int")
  tstr : Blt hB "str" (.type "str")
  ttup : Blt hB "tuple" (.type "tuple")
  rng : Blt hB "range" (.type "range")
  enm : Blt hB "enumerate" (.type "enumerate")
  s : ∀ x sp, C.S x = some sp → ∃ fv, Glob hB x fv ∧ Kept hB fv ∧ Does prog w hB os0 n fv sp
  me : ∀ c y sp, C.Me c y = some sp → ClsIn C.K c ∧ ∃ g, findIn C.K (.ref c) y = some (some (.ref g)) ∧ isFn C.K (.ref g) = true ∧ Kept hB (.ref g) ∧ Does prog w hB os0 n (.ref g) sp
  x : ∀ c K, C.X c = some K → Glob hB c (.ref K) ∧ ExcOk prog w hB os0 n K
structure FO (C : Cx) (f : Fx) : Prop where
  ok : f.Ok
  cx : CxO C f.prog f.w f.hB f.os0 f.k
noncomputable def PB (f : Fx) (m : M) (σ : AS) (h : Heap) (Q : Bool → AS → Prop) (b : Bool) (s' : Shared) : Prop := ∃ σ', FS f m σ' s' ∧ Kc (frs f.l) [] σ σ' h s'.heap ∧ Q b σ'
noncomputable def PL (f : Fx) (m : M) (σ : AS) (h : Heap) (Q : List V → AS → Prop) (cvs : List Value) (s' : Shared) : Prop := ∃ vs σ', FS f m σ' s' ∧ RvL s'.heap cvs vs ∧ Kc (frs f.l) [] σ σ' h s'.heap ∧ Q vs σ'
section
variable {f : Fx} {m : M} {σ σ' σ₁ : AS} {s s' : Shared} {h h₁ : Heap} {A : Around} {E₀ : Value → Shared → Prop} {C : Cx}
theorem PB.lift {Q : Bool → AS → Prop} {b : Bool} (c : Kc (frs f.l) [] σ σ₁ h h₁) (p : PB f m σ₁ h₁ Q b s') : PB f m σ h Q b s' := let ⟨σ', a, d, e⟩ := p; ⟨σ', a, c.trans d, e⟩
theorem XI.go {Ex : PXx} (x : XI f m σ h Ex E₀) (c : Kc (frs f.l) [] σ σ₁ h h₁) : XI f m σ₁ h₁ Ex E₀ := x.lift (c.mono (by simp))
theorem PE.elim {h : Heap} {Q : PQ} {cv : Value} {P : Prop} (p : PE f m σ h Q cv s') (k : ∀ v σ', FS f m σ' s' → Rv s'.heap cv v → Kc (frs f.l) [] σ σ' h s'.heap → Q v σ' → P) : P := let ⟨v, σ', a, b, c, d⟩ := p; k v σ' a b c d
theorem PB.elim {h : Heap} {Q : Bool → AS → Prop} {b : Bool} {P : Prop} (p : PB f m σ h Q b s') (k : ∀ σ', FS f m σ' s' → Kc (frs f.l) [] σ σ' h s'.heap → Q b σ' → P) : P := let ⟨σ', a, c, d⟩ := p; k σ' a c d
theorem PL.elim {h : Heap} {Q : List V → AS → Prop} {b : List Value} {P : Prop} (p : PL f m σ h Q b s') (k : ∀ vs σ', FS f m σ' s' → RvL s'.heap b vs → Kc (frs f.l) [] σ σ' h s'.heap → Q vs σ' → P) : P := let ⟨vs, σ', a, r, c, d⟩ := p; k vs σ' a r c d
theorem isG_kind {y : Str} {ne : NE} {env : Env} (hg : isG ne env.scope y = true) : env.kindOf y = some .globalImplicit ∧ (y == ("__debug__" : Str)) = false := by
  simp only [isG, Bool.and_eq_true, beq_iff_eq, Bool.not_eq_true'] at hg
  exact ⟨hg.1.2, hg.2⟩
theorem glob_ok (x : FS f m σ s) (ok : f.Ok) {y : Str} {pos : Pos} {v : Value} {M : Model} {E Q : Value → Shared → Prop} (hg : isG f.ne f.env.scope y = true) (G : Glob f.hB y v) (q : Q v s) : wpAny M A (eval (.Name y pos) f.env) Q E s := by
  obtain ⟨hk, hd⟩ := isG_kind (env := f.env) hg
  obtain ⟨mg, hn, hv⟩ := G
  refine wpAny_Name ?_ hd
  rw [loadName_read ok.kind hk]
  exact loadGlobal_global (mg := mg) (by rw [ok.glob]; exact hn.keeps x.at_.st) hv q
theorem blt_ok (x : FS f m σ s) (ok : f.Ok) {y : Str} {pos : Pos} {v : Value} {M : Model} {E Q : Value → Shared → Prop} (hg : isG f.ne f.env.scope y = true) (G : Blt f.hB y v) (q : Q v s) : wpAny M A (eval (.Name y pos) f.env) Q E s := by
  obtain ⟨hk, hd⟩ := isG_kind (env := f.env) hg
  obtain ⟨mg, mb, hn, hv, hb, hw⟩ := G
  refine wpAny_Name ?_ hd
  rw [loadName_read ok.kind hk]
  exact loadGlobal_builtin (mg := mg) (mb := mb) (by rw [ok.glob]; exact hn.keeps x.at_.st) hv (by rw [ok.bi]; exact hb.keeps x.at_.st) hw q
theorem call_ok (x : FS f m σ s) (ok : f.Ok) {n : Nat} (hn : n ≤ f.k) {fv : Value} {sp : Spec} (d : Does f.prog f.w f.hB f.os0 n fv sp) {cvs : List Value} {vs : List V} (r : RvL s.heap cvs vs) {Q : PQ} {Ex : PXx} (hs : sp vs σ Q Ex) (xi : XI f m σ s.heap Ex E₀) :
    wpAny (model f.prog f.w) f.A (call fv cvs) (PE f m σ s.heap Q) E₀ s := by
  refine wpAny_mono (wpAny_call (Q := DQ f.prog f.w f.hB f.os0 f.A f.l n σ s.heap Q) (E := E₀) (d f.A f.l σ s cvs vs Q Ex E₀ ok.fr (x.at_.le hn) r hs fun y σ' ev s' g hE => ?_)) (fun cv s' ⟨v, σ', a, rv, kc, q⟩ => ⟨v, σ', x.next ok kc a.obj (a.gens.trans x.at_.gens.symm) (a.os.trans x.at_.os.symm), rv, kc, q⟩) fun _ _ y => y
  obtain ⟨e, dx, X, rfl, fly, hX, hdx, hb⟩ := g.ex
  exact xi σ' s' y _ ⟨e, rfl, x.next ok g.kc g.at_.obj (g.at_.gens.trans x.at_.gens.symm) (g.at_.os.trans x.at_.os.symm), g.kc.mono (by simp), dx, X, fly, hX, hdx, hb⟩ hE
theorem callWith_kept {pos : Pos} {fv : Value} {first : List Value} {es : List PySem.Expr} {env : Env} {M : Model} {hB : Heap} {E Q : Value → Shared → Prop} (hk : Kept hB fv) (hp : (backTo pos (starEach es env)).any (·.1) = false)
    (h : wpAny M A (spliced (backTo pos (starEach es env))) (fun vs s₁ => hB.StaysIn s₁.heap ∧ wpAny M A (call fv (first ++ vs)) Q E s₁) E s) :
    wpAny M A (callWith pos fv first (backTo pos (starEach es env)) []) Q E s := by
  refine callWith_of (P := fun h => hB.StaysIn h) (by rw [hp]; rfl) (fun h hh => hk M h hh) ?_
  generalize backTo pos (starEach es env) = ts at *
  unfold evalArgs
  cases ts with
  | nil => exact wpAny_bind (wpAny_mono h (fun vs s' h' => wpAny_holding (wpAny_bind (wpAny_pure (wpAny_bind (wpAny_pure (wpAny_pure h'))))) ) fun _ _ x => x)
  | cons t r =>
    obtain ⟨b, t⟩ := t
    have : b = false := by cases b with | false => rfl | true => simp at hp
    subst this
    exact wpAny_bind (wpAny_mono h (fun vs s' h' => wpAny_holding (wpAny_bind (wpAny_pure (wpAny_bind (wpAny_pure (wpAny_pure h'))))) ) fun _ _ x => x)
theorem splice_evalArgs {pos : Pos} {fv : Value} {es : List PySem.Expr} {env : Env} {M : Model} {E : Value → Shared → Prop} {Q : Args → Shared → Prop} (hp : (backTo pos (starEach es env)).any (·.1) = false)
    (h : wpAny M A (spliced (backTo pos (starEach es env))) (fun vs s₁ => Q ⟨vs, []⟩ s₁) E s) : wpAny M A (evalArgs fv true (backTo pos (starEach es env)) []) Q E s := by
  generalize backTo pos (starEach es env) = ts at *
  unfold evalArgs
  cases ts with
  | nil => exact wpAny_bind (wpAny_mono h (fun vs s' h' => wpAny_holding (wpAny_bind (wpAny_pure (wpAny_bind (wpAny_pure (wpAny_pure h'))))) ) fun _ _ x => x)
  | cons t r =>
    obtain ⟨b, t⟩ := t
    have : b = false := by cases b with | false => rfl | true => simp at hp
    subst this
    exact wpAny_bind (wpAny_mono h (fun vs s' h' => wpAny_holding (wpAny_bind (wpAny_pure (wpAny_bind (wpAny_pure (wpAny_pure h'))))) ) fun _ _ x => x)
theorem callWith_bk {pos : Pos} {k : BK} {es : List PySem.Expr} {env : Env} {M : Model} {E Q : Value → Shared → Prop} (hp : (backTo pos (starEach es env)).any (·.1) = false)
    (h : wpAny M A (spliced (backTo pos (starEach es env))) (fun vs s₁ => wpAny M A (call (bkVal k) vs) Q E s₁) E s) :
    wpAny M A (callWith pos (bkVal k) [] (backTo pos (starEach es env)) []) Q E s := by
  have h1 : ∀ T : String, bkVal k = .type T → wpAny M A (callWith pos (.type T) [] (backTo pos (starEach es env)) []) Q E s := fun T e => by
    rw [e] at h
    exact callWith_excType hp (splice_evalArgs hp h)
  have h2 : ∀ T : String, bkVal k = .builtin T → wpAny M A (callWith pos (.builtin T) [] (backTo pos (starEach es env)) []) Q E s := fun T e => by
    rw [e] at h
    exact Calls.callWith_builtin hp (splice_evalArgs hp h)
  have h3 : (∃ T, bkVal k = .type T) ∨ ∃ T, bkVal k = .builtin T := by cases k <;> first | exact .inl ⟨_, rfl⟩ | exact .inr ⟨_, rfl⟩
  rcases h3 with ⟨T, e⟩ | ⟨T, e⟩
  · rw [e]; exact h1 T e
  · rw [e]; exact h2 T e
noncomputable def tyOfV : V → String
  | .none => "NoneType" | .bool _ => "bool" | .int _ => "int" | .str _ => "str" | .tup _ => "tuple" | .ref _ => ""
noncomputable def okT (T : String) : Prop := T = "int" ∨ T = "str" ∨ T = "tuple"
theorem Rv.typeIs {cv : Value} {v : V} (r : Rv s.heap cv v) (h : v.isRef = false) : s.TypeIs cv (tyOfV v) := by
  cases r with
  | none => exact rfl
  | bool b => exact rfl
  | int i t => exact typeIs_int s i t
  | str y t _ => exact typeIs_str s y t
  | tup ho hc hd hl hz => exact ⟨_, ho, hc⟩
  | ref a => exact btf h
theorem st1 : (Str.ofString "int" == ("int" : Str)) = true := by decide +kernel
theorem st2 : (Str.ofString "int" == ("str" : Str)) = false := by decide +kernel
theorem st3 : (Str.ofString "int" == ("tuple" : Str)) = false := by decide +kernel
theorem st4 : (Str.ofString "str" == ("int" : Str)) = false := by decide +kernel
theorem st5 : (Str.ofString "str" == ("str" : Str)) = true := by decide +kernel
theorem st6 : (Str.ofString "str" == ("tuple" : Str)) = false := by decide +kernel
theorem st7 : (Str.ofString "tuple" == ("int" : Str)) = false := by decide +kernel
theorem st8 : (Str.ofString "tuple" == ("str" : Str)) = false := by decide +kernel
theorem st9 : (Str.ofString "tuple" == ("tuple" : Str)) = true := by decide +kernel
theorem isi_one {prog : Program} {w : World} {E : Value → Shared → Prop} {cv : Value} {v : V} (r : Rv s.heap cv v) (hv : v.isRef = false) {T : String} (hT : okT T) {Q : Value → Shared → Prop} (q : ∀ k, Q (.bool (isOf (Str.ofString T) v)) { s with toks := k }) :
    wpAny (model prog w) A (call (.builtin "isinstance") [cv, .type T]) Q E s := by
  cases r with
  | ref a => exact btf hv
  | none => rcases hT with rfl | rfl | rfl <;> simp only [isOf] at q <;> first | exact IsiPair.NoneType_int (q _) | exact IsiPair.NoneType_str (q _) | exact IsiPair.NoneType_tuple (q _)
  | bool b => rcases hT with rfl | rfl | rfl <;> simp only [isOf, st1, st4, st7] at q <;> first | exact IsiPair.bool_int (q s.toks) | exact IsiPair.bool_str (q _) | exact IsiPair.bool_tuple (q _)
  | int i t => rcases hT with rfl | rfl | rfl <;> simp only [isOf, st1, st4, st7] at q <;> first | exact IsiPair.int_int (q s.toks) | exact IsiPair.int_str (q _) | exact IsiPair.int_tuple (q _)
  | str y t _ => rcases hT with rfl | rfl | rfl <;> simp only [isOf, st2, st5, st8] at q <;> first | exact IsiPair.str_int (q _) | exact IsiPair.str_str (q s.toks) | exact IsiPair.str_tuple (q _)
  | tup ho hc hd hl hz => rcases hT with rfl | rfl | rfl <;> simp only [isOf, st3, st6, st9] at q <;> first | exact IsiPair.tuple_int ho hc (q _) | exact IsiPair.tuple_str ho hc (q _) | exact IsiPair.tuple_tuple ho hc (q s.toks)
theorem isi_ans {cv : Value} {v : V} (r : Rv s.heap cv v) (hv : v.isRef = false) {T : String} (hT : okT T) : Answers (fun s => s.TypeIs cv (tyOfV v)) cv (.type T) (isOf (Str.ofString T) v) := by
  have m1 : typeOf (.type "int") = pure (.type "type") := by kernel_rfl
  have m2 : typeOf (.type "str") = pure (.type "type") := by kernel_rfl
  have m3 : typeOf (.type "tuple") = pure (.type "type") := by kernel_rfl
  have su : ∀ (A B : String) (b : Bool), (fastBuiltinMro A).map (·.contains (.type B)) = some b → isSubtype (.type A) (.type B) = pure b := fun A B b e => by
    cases q : fastBuiltinMro A with
    | none => rw [q] at e; exact no1 e
    | some l => rw [q] at e; obtain rfl := Option.some.inj e; rw [isSubtype_type, q]
  cases r with
  | ref a => exact btf hv
  | none =>
    rcases hT with rfl | rfl | rfl <;> simp only [isOf]
    · exact Answers.of_false_none (by decide +kernel) m1 (su "NoneType" "int" false (by kernel_rfl))
    · exact Answers.of_false_none (by decide +kernel) m2 (su "NoneType" "str" false (by kernel_rfl))
    · exact Answers.of_false_none (by decide +kernel) m3 (su "NoneType" "tuple" false (by kernel_rfl))
  | bool b =>
    rcases hT with rfl | rfl | rfl <;> simp only [isOf, st1, st4, st7]
    · exact Answers.of_true (Tx := "bool") m1 (su "bool" "int" true (by kernel_rfl))
    · exact Answers.of_false_bool (by decide +kernel) m2 (su "bool" "str" false (by kernel_rfl))
    · exact Answers.of_false_bool (by decide +kernel) m3 (su "bool" "tuple" false (by kernel_rfl))
  | int i t =>
    rcases hT with rfl | rfl | rfl <;> simp only [isOf, st1, st4, st7]
    · exact Answers.of_true (Tx := "int") m1 (su "int" "int" true (by kernel_rfl))
    · exact Answers.of_false_int (by decide +kernel) m2 (su "int" "str" false (by kernel_rfl))
    · exact Answers.of_false_int (by decide +kernel) m3 (su "int" "tuple" false (by kernel_rfl))
  | str y t _ =>
    rcases hT with rfl | rfl | rfl <;> simp only [isOf, st2, st5, st8]
    · exact Answers.of_false_str (by decide +kernel) m1 (su "str" "int" false (by kernel_rfl))
    · exact Answers.of_true (Tx := "str") m2 (su "str" "str" true (by kernel_rfl))
    · exact Answers.of_false_str (by decide +kernel) m3 (su "str" "tuple" false (by kernel_rfl))
  | tup ho hc hd hl hz =>
    rcases hT with rfl | rfl | rfl <;> simp only [isOf, st3, st6, st9]
    · exact Answers.of_false_tuple (by decide +kernel) m1 (su "tuple" "int" false (by kernel_rfl))
    · exact Answers.of_false_tuple (by decide +kernel) m2 (su "tuple" "str" false (by kernel_rfl))
    · exact Answers.of_true (Tx := "tuple") m3 (su "tuple" "tuple" true (by kernel_rfl))
theorem isi_two {prog : Program} {w : World} {E : Value → Shared → Prop} {cv : Value} {v : V} (r : Rv s.heap cv v) (hv : v.isRef = false) {T₁ T₂ : String} (h1 : okT T₁) (h2 : okT T₂) {tp : Addr} (ht : s.heap.get? tp = some (tupObj [.type T₁, .type T₂])) {Q : Value → Shared → Prop}
    (q : ∀ k, Q (.bool (isOf (Str.ofString T₁) v || isOf (Str.ofString T₂) v)) { s with toks := k }) : wpAny (model prog w) A (call (.builtin "isinstance") [cv, .ref tp]) Q E s :=
  IsiPair.tupleOfB (AnswersAll.cons (isi_ans r hv h1) (AnswersAll.cons (isi_ans r hv h2) .nil)) (r.typeIs hv) ht (by simp) q
end
noncomputable def EvOk (C : Cx) (f : Fx) (ex : PySem.Expr) (r : RE) : Prop := ∀ ⦃m : M⦄ ⦃σ : AS⦄ ⦃s : Shared⦄ ⦃Q : PQ⦄ ⦃E : PXx⦄ ⦃E₀ : Value → Shared → Prop⦄, FS f m σ s → rev C r m σ Q E → XI f m σ s.heap E E₀ →
  wpAny (model f.prog f.w) f.A (eval ex f.env) (PE f m σ s.heap Q) E₀ s
noncomputable def TrOk (C : Cx) (f : Fx) (ex : PySem.Expr) (r : RE) : Prop := ∀ ⦃m : M⦄ ⦃σ : AS⦄ ⦃s : Shared⦄ ⦃P : PQ⦄ ⦃Q : Bool → AS → Prop⦄ ⦃E : PXx⦄ ⦃E₀ : Value → Shared → Prop⦄, FS f m σ s → rev C r m σ P E → (∀ v σ₁, P v σ₁ → atruth σ₁ v fun b => Q b σ₁) → XI f m σ s.heap E E₀ →
  wpAny (model f.prog f.w) f.A (isTrue ex f.env (eval ex f.env)) (PB f m σ s.heap Q) E₀ s
noncomputable def LvOk (C : Cx) (f : Fx) (es : List PySem.Expr) (r : RL) : Prop := ∀ ⦃m : M⦄ ⦃σ : AS⦄ ⦃s : Shared⦄ ⦃Q : List V → AS → Prop⦄ ⦃E : PXx⦄ ⦃E₀ : Value → Shared → Prop⦄ (pos : Pos), FS f m σ s → revs C r m σ Q E → XI f m σ s.heap E E₀ →
  wpAny (model f.prog f.w) f.A (spliced (backTo pos (starEach es f.env))) (PL f m σ s.heap fun vs σ' => vs.length = r.len ∧ Q vs σ') E₀ s
noncomputable def AtOk (C : Cx) (f : Fx) (es : List PySem.Expr) (r : RL) : Prop := ∀ ⦃m : M⦄ ⦃σ : AS⦄ ⦃s : Shared⦄ ⦃P : PQ⦄ ⦃Q : Bool → AS → Prop⦄ ⦃E : PXx⦄ ⦃E₀ : Value → Shared → Prop⦄, FS f m σ s → randv C r m σ P E → (∀ v σ₁, P v σ₁ → atruth σ₁ v fun b => Q b σ₁) → XI f m σ s.heap E E₀ →
  wpAny (model f.prog f.w) f.A (allTrue .And es f.env) (PB f m σ s.heap Q) E₀ s
noncomputable def OtOk (C : Cx) (f : Fx) (es : List PySem.Expr) (r : RL) : Prop := ∀ ⦃m : M⦄ ⦃σ : AS⦄ ⦃s : Shared⦄ ⦃P : PQ⦄ ⦃Q : Bool → AS → Prop⦄ ⦃E : PXx⦄ ⦃E₀ : Value → Shared → Prop⦄, FS f m σ s → rorv C r m σ P E → (∀ v σ₁, P v σ₁ → atruth σ₁ v fun b => Q b σ₁) → XI f m σ s.heap E E₀ →
  wpAny (model f.prog f.w) f.A (allTrue .Or es f.env) (PB f m σ s.heap Q) E₀ s
noncomputable def AvOk (C : Cx) (f : Fx) (es : List PySem.Expr) (r : RL) : Prop := ∀ ⦃m : M⦄ ⦃σ : AS⦄ ⦃s : Shared⦄ ⦃Q : PQ⦄ ⦃E : PXx⦄ ⦃E₀ : Value → Shared → Prop⦄ (pos : Pos), FS f m σ s → randv C r m σ Q E → XI f m σ s.heap E E₀ →
  wpAny (model f.prog f.w) f.A (boolOp pos .And (evalEach es f.env)) (PE f m σ s.heap Q) E₀ s
noncomputable def OrOk (C : Cx) (f : Fx) (es : List PySem.Expr) (r : RL) : Prop := ∀ ⦃m : M⦄ ⦃σ : AS⦄ ⦃s : Shared⦄ ⦃Q : PQ⦄ ⦃E : PXx⦄ ⦃E₀ : Value → Shared → Prop⦄ (pos : Pos), FS f m σ s → rorv C r m σ Q E → XI f m σ s.heap E E₀ →
  wpAny (model f.prog f.w) f.A (boolOp pos .Or (evalEach es f.env)) (PE f m σ s.heap Q) E₀ s
noncomputable def OvOk (C : Cx) (f : Fx) (e : Option PySem.Expr) (r : RO) : Prop := ∀ ⦃m : M⦄ ⦃σ : AS⦄ ⦃s : Shared⦄ ⦃Q : Option Int → AS → Prop⦄ ⦃E : PXx⦄ ⦃E₀ : Value → Shared → Prop⦄, FS f m σ s → revo C r m σ Q E → XI f m σ s.heap E E₀ →
  wpAny (model f.prog f.w) f.A (evalPart e f.env) (fun cv s' => ∃ a σ', FS f m σ' s' ∧ IsPart cv a ∧ Kc (frs f.l) [] σ σ' s.heap s'.heap ∧ Q a σ') E₀ s
section
variable {f : Fx} {C : Cx} {e e₁ e₂ e₃ : PySem.Expr} {r r₁ r₂ r₃ : RE} {es : List PySem.Expr} {l : RL} {pos : Pos}
theorem atruth_det {σ : AS} {v : V} {P : Bool → Prop} (h : atruth σ v P) : ∃ b, P b ∧ (atruth σ v fun b' => b' = b) ∧ ∀ R : Bool → Prop, atruth σ v R → R b := by
  cases v with
  | ref a =>
    obtain ⟨l, e, h⟩ := oL_inv h
    refine ⟨_, h, oL_i e rfl, fun R h' => ?_⟩
    obtain ⟨l', e', h'⟩ := oL_inv h'
    rw [e] at e'; cases e'; exact h'
  | _ => exact ⟨_, h, rfl, fun R h => h⟩
theorem atruth_mono {σ : AS} {v : V} {P R : Bool → Prop} (h : atruth σ v P) (q : ∀ b, P b → R b) : atruth σ v R := by
  cases v with
  | ref a => obtain ⟨l, e, h⟩ := oL_inv h; exact oL_i e (q _ h)
  | _ => exact q _ h
theorem FS.tk {m : M} {σ σ' : AS} {s s' : Shared} (x : FS f m σ s) (c : Kc (frs f.l) [] σ σ' s.heap s'.heap) : TupK s.heap s'.heap := x.at_.tupK c
theorem const_arm {c : Const} {k : Nat} (fo : FO C f) : Y (cC c) (EvOk C f (.Constant c k pos)) := by
  cases c with
  | none => exact .so fun m σ s Q E E₀ x h xi => wpAny_Constant_none (.here x .none h)
  | bool b => exact .so fun m σ s Q E E₀ x h xi => wpAny_Constant_bool (.here x (.bool _) h)
  | int i => exact .so fun m σ s Q E E₀ x h xi => wpAny_Constant_int (.of x fo.ok (.int _ _) h)
  | str y => exact .yes fun hs => .so fun m σ s Q E E₀ x h xi => wpAny_Constant_str (.of x fo.ok (.str _ _ (sfB_ok hs)) h)
  | _ => exact .no
theorem name_arm {y : Str} (fo : FO C f) : Y (cN f.ne f.env.scope y) (EvOk C f (.Name y pos)) :=
  .ocase (fun _ => .yes fun hg => .so fun m σ s Q E E₀ x h xi => by
    obtain ⟨v, hv, h⟩ := oS_inv h
    obtain ⟨cv, mg, a, b, rv⟩ := fo.cx.b.G y v hv
    exact glob_ok x fo.ok hg ⟨mg, a, b⟩ (.here x (rv.mono x.tupKB) h))
  fun i hi => .so fun m σ s Q E E₀ x h xi => by
    obtain ⟨o, hm, h⟩ := oS_inv h
    obtain ⟨v, rfl, h⟩ := oS_inv h
    exact x.read fo.ok hi hm fun cv rv => .here x rv h
theorem bin_arm {op : Operator} (fo : FO C f) (h1 : EvOk C f e₁ r₁) (h2 : EvOk C f e₂ r₂) : EvOk C f (.BinOp e₁ op e₂ pos) (.bin op r₁ r₂) := by
  intro m σ s Q E E₀ x h xi
  refine wpAny_BinOp (wpAny_mono (h1 x h xi) (fun a s₁ pe => pe.elim fun v σ₁ x₁ rv k₁ h₁ => wpAny_mono (h2 x₁ h₁ (xi.go k₁)) (fun b s₂ pe => pe.elim fun u σ₂ x₂ ru k₂ h₂ => ?_) fun _ _ y => y) fun _ _ y => y)
  exact wpAny_mono (bin_ok x₂ fo.ok (x₂.roN fo.cx.b) (rv.mono (x₁.tk k₂)) ru h₂) (fun _ _ p => p.lift (k₁.trans k₂)) fun _ _ y => y
theorem neg_arm (fo : FO C f) (h1 : EvOk C f e₁ r₁) : EvOk C f (.UnaryOp .USub e₁ pos) (.neg r₁) := by
  intro m σ s Q E E₀ x h xi
  refine wpAny_UnaryOp (wpAny_mono (h1 x h xi) (fun a s₁ pe => pe.elim fun v σ₁ x₁ rv k₁ h₁ => ?_) fun _ _ y => y)
  exact wpAny_mono (neg_ok x₁ fo.ok rv h₁) (fun _ _ p => p.lift k₁) fun _ _ y => y
theorem not_arm (fo : FO C f) (h1 : EvOk C f e₁ r₁) : EvOk C f (.UnaryOp .Not e₁ pos) (.not r₁) := by
  intro m σ s Q E E₀ x h xi
  refine wpAny_UnaryOp (wpAny_mono (h1 x h xi) (fun a s₁ pe => pe.elim fun v σ₁ x₁ rv k₁ h₁ => ?_) fun _ _ y => y)
  exact wpAny_mono (not_ok x₁ fo.ok rv h₁) (fun _ _ p => p.lift k₁) fun _ _ y => y
theorem ife_arm (h1 : TrOk C f e₁ r₁) (h2 : EvOk C f e₂ r₂) (h3 : EvOk C f e₃ r₃) : EvOk C f (.IfExp e₁ e₂ e₃ pos) (.ife r₁ r₂ r₃) := by
  intro m σ s Q E E₀ x h xi
  refine wpAny_IfExp (wpAny_mono (h1 x h (fun _ _ h => h) xi) (fun b s₁ pe => pe.elim fun σ₁ x₁ k₁ h₁ => ?_) fun _ _ y => y)
  cases b with
  | true => exact wpAny_mono (h2 x₁ h₁ (xi.go k₁)) (fun _ _ p => p.lift k₁) fun _ _ y => y
  | false => exact wpAny_mono (h3 x₁ h₁ (xi.go k₁)) (fun _ _ p => p.lift k₁) fun _ _ y => y
theorem notSet_marks {op : CmpOp} (h : notSet e = true) : behindInMarks op e = false := by cases e <;> first | rfl | exact bft h
theorem units_le (x : FO C f) {m : M} {σ : AS} {s : Shared} (y : FS f m σ s) : f.A.units ≤ 9000 := by have := y.at_.un; lia
theorem cmp_arm {op : CmpOp} (fo : FO C f) (hs : notSet e₂ = true) (h1 : EvOk C f e₁ r₁) (h2 : EvOk C f e₂ r₂) : EvOk C f (.Compare e₁ [op] [e₂] pos) (.cmp op r₁ r₂) := by
  intro m σ s Q E E₀ x h xi
  refine wpAny_Compare1 (wpAny_mono (h1 x h xi) (fun a s₁ pe => pe.elim fun v σ₁ x₁ rv k₁ h₁ => wpAny_mono (h2 x₁ h₁ (xi.go k₁)) (fun b s₂ pe => pe.elim fun u σ₂ x₂ ru k₂ h₂ => ?_) fun _ _ y => y) fun _ _ y => y) (notSet_marks hs)
  exact wpAny_mono (cmp_ok x₂ fo.ok fo.cx.b (units_le fo x₂) (rv.mono (x₁.tk k₂)) ru h₂) (fun _ _ p => p.lift (k₁.trans k₂)) fun _ _ y => y
theorem cmp_tr {op : CmpOp} (fo : FO C f) (hs : notSet e₂ = true) (h1 : EvOk C f e₁ r₁) (h2 : EvOk C f e₂ r₂) : TrOk C f (.Compare e₁ [op] [e₂] pos) (.cmp op r₁ r₂) := by
  intro m σ s P Q E E₀ x h hP xi
  refine wpAny_isTrue_Compare1 (wpAny_mono (h1 x h xi) (fun a s₁ pe => pe.elim fun v σ₁ x₁ rv k₁ h₁ => wpAny_mono (h2 x₁ h₁ (xi.go k₁)) (fun b s₂ pe => pe.elim fun u σ₂ x₂ ru k₂ h₂ => ?_) fun _ _ y => y) fun _ _ y => y) (notSet_marks hs)
  refine wpAny_mono (cmp_ok x₂ fo.ok fo.cx.b (units_le fo x₂) (rv.mono (x₁.tk k₂)) ru h₂) (fun c s₃ pe => pe.elim fun z σ₃ x₃ rz k₃ h₃ => ?_) fun _ _ y => y
  exact truth_ok x₃ rz (hP _ _ h₃) fun b k q => ⟨σ₃, x₃.toks fo.ok, (k₁.trans k₂).trans k₃, q⟩
theorem val_tr (fo : FO C f) (h1 : EvOk C f e r) (he : isTrue e f.env (eval e f.env) = (do let v ← eval e f.env; standAt e.pos; holding [v] (truthy v))) : TrOk C f e r := by
  intro m σ s P Q E E₀ x h hP xi
  refine wpAny_isTrue_value (wpAny_mono (h1 x h xi) (fun a s₁ pe => pe.elim fun v σ₁ x₁ rv k₁ h₁ => ?_) fun _ _ y => y) he
  exact truth_ok x₁ rv (hP _ _ h₁) fun b k q => ⟨σ₁, x₁.toks fo.ok, k₁, q⟩
theorem not_tr (h1 : TrOk C f e r) : TrOk C f (.UnaryOp .Not e pos) (.not r) := by
  intro m σ s P Q E E₀ x h hP xi
  exact wpAny_isTrue_Not (wpAny_mono (h1 (Q := fun b σ₁ => Q (!b) σ₁) x h (fun v σ₁ h => atruth_mono h fun b hb => hP _ _ hb) xi) (fun b s₁ p => p) fun _ _ y => y)
theorem ife_tr (h1 : TrOk C f e₁ r₁) (h2 : TrOk C f e₂ r₂) (h3 : TrOk C f e₃ r₃) : TrOk C f (.IfExp e₁ e₂ e₃ pos) (.ife r₁ r₂ r₃) := by
  intro m σ s P Q E E₀ x h hP xi
  rw [arm_isTrue_IfExp]
  refine wpAny_bind (wpAny_mono (h1 x h (fun _ _ h => h) xi) (fun b s₁ pe => pe.elim fun σ₁ x₁ k₁ h₁ => ?_) fun _ _ y => y)
  cases b with
  | true => exact wpAny_mono (h2 x₁ h₁ hP (xi.go k₁)) (fun _ _ p => p.lift k₁) fun _ _ y => y
  | false => exact wpAny_mono (h3 x₁ h₁ hP (xi.go k₁)) (fun _ _ p => p.lift k₁) fun _ _ y => y
theorem and_tr (h1 : AtOk C f es l) : TrOk C f (.BoolOp .And es pos) (.and l) := by
  intro m σ s P Q E E₀ x h hP xi
  exact wpAny_isTrue_BoolOp (h1 x h hP xi)
theorem or_tr (h1 : OtOk C f es l) : TrOk C f (.BoolOp .Or es pos) (.or l) := by
  intro m σ s P Q E E₀ x h hP xi
  exact wpAny_isTrue_BoolOp (h1 x h hP xi)
theorem and_arm (h1 : AvOk C f es l) : EvOk C f (.BoolOp .And es pos) (.and l) := by
  intro m σ s Q E E₀ x h xi
  rw [arm_eval_BoolOp]
  exact h1 pos x h xi
theorem or_arm (h1 : OrOk C f es l) : EvOk C f (.BoolOp .Or es pos) (.or l) := by
  intro m σ s Q E E₀ x h xi
  rw [arm_eval_BoolOp]
  exact h1 pos x h xi
theorem at_one (h1 : TrOk C f e r) : AtOk C f [e] (.cons r .nil) := by
  intro m σ s P Q E E₀ x h hP xi
  refine wpAny_allTrue_And_cons (wpAny_mono (h1 x h hP xi) (fun b s₁ pe => pe.elim fun σ₁ x₁ k₁ h₁ => ?_) fun _ _ y => y)
  cases b with
  | true => exact wpAny_allTrue_And_nil ⟨σ₁, x₁, k₁, h₁⟩
  | false => exact ⟨σ₁, x₁, k₁, h₁⟩
theorem ot_one (h1 : TrOk C f e r) : OtOk C f [e] (.cons r .nil) := by
  intro m σ s P Q E E₀ x h hP xi
  refine wpAny_allTrue_Or_cons (wpAny_mono (h1 x h hP xi) (fun b s₁ pe => pe.elim fun σ₁ x₁ k₁ h₁ => ?_) fun _ _ y => y)
  cases b with
  | false => exact wpAny_allTrue_Or_nil ⟨σ₁, x₁, k₁, h₁⟩
  | true => exact ⟨σ₁, x₁, k₁, h₁⟩
theorem at_cons (hl : l.len ≠ 0) (h1 : TrOk C f e r) (h2 : AtOk C f es l) : AtOk C f (e :: es) (.cons r l) := by
  intro m σ s P Q E E₀ x h hP xi
  refine wpAny_allTrue_And_cons (wpAny_mono (h1 (Q := fun b σ₁ => (b = false → Q false σ₁) ∧ (b = true → randv C l m σ₁ P E)) x (nil_len hl h) (fun v σ₁ h => ?_) xi) (fun b s₁ pe => pe.elim fun σ₁ x₁ k₁ h₁ => ?_) fun _ _ y => y)
  · obtain ⟨b, hb, ht, hR⟩ := atruth_det h
    refine atruth_mono ht fun b' e => ?_
    subst e
    exact ⟨fun e => by subst e; exact hR _ (hP _ _ hb), fun e => by subst e; exact hb⟩
  · cases b with
    | true => exact wpAny_mono (h2 x₁ (h₁.2 rfl) hP (xi.go k₁)) (fun _ _ p => p.lift k₁) fun _ _ y => y
    | false => exact ⟨σ₁, x₁, k₁, h₁.1 rfl⟩
theorem ot_cons (hl : l.len ≠ 0) (h1 : TrOk C f e r) (h2 : OtOk C f es l) : OtOk C f (e :: es) (.cons r l) := by
  intro m σ s P Q E E₀ x h hP xi
  refine wpAny_allTrue_Or_cons (wpAny_mono (h1 (Q := fun b σ₁ => (b = true → Q true σ₁) ∧ (b = false → rorv C l m σ₁ P E)) x (nil_len hl h) (fun v σ₁ h => ?_) xi) (fun b s₁ pe => pe.elim fun σ₁ x₁ k₁ h₁ => ?_) fun _ _ y => y)
  · obtain ⟨b, hb, ht, hR⟩ := atruth_det h
    refine atruth_mono ht fun b' e => ?_
    subst e
    exact ⟨fun e => by subst e; exact hR _ (hP _ _ hb), fun e => by subst e; exact hb⟩
  · cases b with
    | false => exact wpAny_mono (h2 x₁ (h₁.2 rfl) hP (xi.go k₁)) (fun _ _ p => p.lift k₁) fun _ _ y => y
    | true => exact ⟨σ₁, x₁, k₁, h₁.1 rfl⟩
theorem av_one (h1 : EvOk C f e r) : AvOk C f [e] (.cons r .nil) := by
  intro m σ s Q E E₀ pos x h xi
  exact h1 x h xi
theorem ov_one (h1 : EvOk C f e r) : OrOk C f [e] (.cons r .nil) := by
  intro m σ s Q E E₀ pos x h xi
  exact h1 x h xi
theorem av_cons (hl : l.len ≠ 0) (fo : FO C f) (h1 : EvOk C f e r) (h2 : AvOk C f (e₁ :: es) l) : AvOk C f (e :: e₁ :: es) (.cons r l) := by
  intro m σ s Q E E₀ pos x h xi
  replace h := nil_len hl h
  show wpAny _ _ (do
    let v ← eval e f.env
    standAt pos
    let t ← holding [v] (truthy v)
    match BoolOp.And, t with
    | .And, false | .Or, true => pure v
    | _, _ => boolOp pos .And (evalEach (e₁ :: es) f.env)) _ _ s
  refine wpAny_bind (wpAny_mono (h1 x h xi) (fun a s₁ pe => pe.elim fun v σ₁ x₁ rv k₁ h₁ => wpAny_bind (wpAny_standAt (wpAny_bind (wpAny_holding (truth_ok x₁ rv h₁ fun b k hb => ?_))))) fun _ _ y => y)
  have x₂ := x₁.toks fo.ok (k := k)
  cases b with
  | true => exact wpAny_mono (h2 pos x₂ hb (xi.go k₁)) (fun _ _ p => p.lift k₁) fun _ _ y => y
  | false => exact wpAny_pure ⟨v, σ₁, x₂, rv, k₁, hb⟩
theorem ov_cons (hl : l.len ≠ 0) (fo : FO C f) (h1 : EvOk C f e r) (h2 : OrOk C f (e₁ :: es) l) : OrOk C f (e :: e₁ :: es) (.cons r l) := by
  intro m σ s Q E E₀ pos x h xi
  replace h := nil_len hl h
  show wpAny _ _ (do
    let v ← eval e f.env
    standAt pos
    let t ← holding [v] (truthy v)
    match BoolOp.Or, t with
    | .And, false | .Or, true => pure v
    | _, _ => boolOp pos .Or (evalEach (e₁ :: es) f.env)) _ _ s
  refine wpAny_bind (wpAny_mono (h1 x h xi) (fun a s₁ pe => pe.elim fun v σ₁ x₁ rv k₁ h₁ => wpAny_bind (wpAny_standAt (wpAny_bind (wpAny_holding (truth_ok x₁ rv h₁ fun b k hb => ?_))))) fun _ _ y => y)
  have x₂ := x₁.toks fo.ok (k := k)
  cases b with
  | false => exact wpAny_mono (h2 pos x₂ hb (xi.go k₁)) (fun _ _ p => p.lift k₁) fun _ _ y => y
  | true => exact wpAny_pure ⟨v, σ₁, x₂, rv, k₁, hb⟩
theorem lv_nil : LvOk C f [] .nil := by
  intro m σ s Q E E₀ pos x h xi
  exact Calls.spliced_nil ⟨[], σ, x, .nil, Kc.refl, rfl, h⟩
theorem lv_cons (hst : ∀ env, starEach (e :: es) env = (false, eval e env) :: starEach es env) (h1 : EvOk C f e r) (h2 : LvOk C f es l) : LvOk C f (e :: es) (.cons r l) := by
  intro m σ s Q E E₀ pos x h xi
  refine wpAny_items_cons (wpAny_mono (h1 x h xi) (fun a s₁ pe => pe.elim fun v σ₁ x₁ rv k₁ h₁ => wpAny_mono (h2 pos x₁ h₁ (xi.go k₁)) (fun bs s₂ pe => pe.elim fun vs σ₂ x₂ rvs k₂ hh => hh.elim fun hn h₂ => ?_) fun _ _ y => y) fun _ _ y => y) (hst _)
  exact ⟨v :: vs, σ₂, x₂, .cons (rv.mono (x₁.tk k₂)) rvs, k₁.trans k₂, congrArg (· + 1) hn, h₂⟩
theorem ov_none : OvOk C f none .no := by
  intro m σ s Q E E₀ x h xi
  exact wpAny_pure ⟨none, σ, x, IsPart.none, Kc.refl, h⟩
theorem ov_some (h1 : EvOk C f e r) : OvOk C f (some e) (.some r) := by
  intro m σ s Q E E₀ x h xi
  refine wpAny_mono (h1 x h xi) (fun a s₁ pe => pe.elim fun v σ₁ x₁ rv k₁ h₁ => ?_) fun _ _ y => y
  obtain ⟨i, rfl, h₁⟩ := onInt_inv h₁
  obtain ⟨t, rfl⟩ := rv.intInv
  exact ⟨some i, σ₁, x₁, IsPart.int _ _, k₁, h₁⟩
end
section
variable {f : Fx} {C : Cx} {e e₁ e₂ e₃ : PySem.Expr} {r r₁ r₂ r₃ : RE} {es : List PySem.Expr} {l : RL} {pos : Pos}
theorem cmp2_arm {op₁ op₂ : CmpOp} (fo : FO C f) (hs₂ : notSet e₃ = true) (h1 : EvOk C f e₁ r₁) (h2 : EvOk C f e₂ r₂) (h3 : EvOk C f e₃ r₃) : EvOk C f (.Compare e₁ [op₁, op₂] [e₂, e₃] pos) (.cmp2 op₁ op₂ r₁ r₂ r₃) := by
  intro m σ s Q E E₀ x h xi
  rw [arm_eval_Compare]
  have hm : markedEach [op₁, op₂] [e₂, e₃] (evalEach [e₂, e₃] f.env) = [eval e₂ f.env, eval e₃ f.env] := by
    show [eval e₂ f.env, markedBehindIn op₂ e₃ (eval e₃ f.env)] = _
    rw [markedBehindIn_of_false (notSet_marks hs₂)]
  rw [hm]
  refine wpAny_bind (wpAny_mono (h1 x h xi) (fun a s₁ pe => pe.elim fun v σ₁ x₁ rv k₁ h₁ => ?_) fun _ _ y => y)
  show wpAny _ _ (do
    let rv ← holding [a] (eval e₂ f.env)
    standAt pos
    let c ← holding [a, rv] (compareOp op₁ a rv)
    release [a, rv] [c]
    if ← holding [c, rv] (truthy c) then compareChain pos rv [op₂] [eval e₃ f.env] else pure c) _ _ s₁
  refine wpAny_bind (wpAny_holding (wpAny_mono (h2 x₁ h₁ (xi.go k₁)) (fun b s₂ pe => pe.elim fun u σ₂ x₂ ru k₂ h₂ => ?_) fun _ _ y => y))
  refine wpAny_bind (wpAny_standAt (wpAny_bind (wpAny_holding (wpAny_mono (cmp_ok x₂ fo.ok fo.cx.b (units_le fo x₂) (rv.mono (x₁.tk k₂)) ru h₂) (fun c s₃ pe => pe.elim fun z σ₃ x₃ rz k₃ h₃ => ?_) fun _ _ y => y))))
  refine wpAny_bind (wpAny_release (wpAny_bind (wpAny_holding (truth_ok x₃ rz h₃ fun t k hb => ?_))))
  have x₃' := x₃.toks fo.ok (k := k)
  cases t with
  | false => exact wpAny_pure ⟨z, σ₃, x₃', rz, (k₁.trans k₂).trans k₃, hb⟩
  | true =>
    show wpAny _ _ (do
      let rv ← holding [b] (eval e₃ f.env)
      standAt pos
      operate [b, rv] (compareOp op₂ b rv)) _ _ _
    refine wpAny_bind (wpAny_holding (wpAny_mono (h3 x₃' hb (xi.go ((k₁.trans k₂).trans k₃))) (fun d s₄ pe => pe.elim fun y σ₄ x₄ ry k₄ h₄ => ?_) fun _ _ y => y))
    refine wpAny_bind (wpAny_standAt (wpAny_operating (wpAny_mono (cmp_ok x₄ fo.ok fo.cx.b (units_le fo x₄) (ru.mono (x₂.tk (k₃.trans k₄))) ry h₄) (fun _ _ p => ?_) fun _ _ y => y)))
    exact p.lift (((k₁.trans k₂).trans k₃).trans k₄)
theorem cmp2_tr {op₁ op₂ : CmpOp} (fo : FO C f) (hs₂ : notSet e₃ = true) (h1 : EvOk C f e₁ r₁) (h2 : EvOk C f e₂ r₂) (h3 : EvOk C f e₃ r₃) : TrOk C f (.Compare e₁ [op₁, op₂] [e₂, e₃] pos) (.cmp2 op₁ op₂ r₁ r₂ r₃) := by
  intro m σ s P Q E E₀ x h hP xi
  rw [arm_isTrue_Compare]
  have hm : markedEach [op₁, op₂] [e₂, e₃] (evalEach [e₂, e₃] f.env) = [eval e₂ f.env, eval e₃ f.env] := by
    show [eval e₂ f.env, markedBehindIn op₂ e₃ (eval e₃ f.env)] = _
    rw [markedBehindIn_of_false (notSet_marks hs₂)]
  rw [hm]
  refine wpAny_bind (wpAny_mono (h1 x h xi) (fun a s₁ pe => pe.elim fun v σ₁ x₁ rv k₁ h₁ => ?_) fun _ _ y => y)
  show wpAny _ _ (do
    let rv ← holding [a] (eval e₂ f.env)
    standAt pos
    let c ← holding [a, rv] (compareOp op₁ a rv)
    release [a, rv] [c]
    if ← holding [c, rv] (truthy c) then testChain pos rv [op₂] [eval e₃ f.env] else pure false) _ _ s₁
  refine wpAny_bind (wpAny_holding (wpAny_mono (h2 x₁ h₁ (xi.go k₁)) (fun b s₂ pe => pe.elim fun u σ₂ x₂ ru k₂ h₂ => ?_) fun _ _ y => y))
  refine wpAny_bind (wpAny_standAt (wpAny_bind (wpAny_holding (wpAny_mono (cmp_ok x₂ fo.ok fo.cx.b (units_le fo x₂) (rv.mono (x₁.tk k₂)) ru h₂) (fun c s₃ pe => pe.elim fun z σ₃ x₃ rz k₃ h₃ => ?_) fun _ _ y => y))))
  obtain ⟨t, hb, ht, hR⟩ := atruth_det h₃
  refine wpAny_bind (wpAny_release (wpAny_bind (wpAny_holding (truth_ok x₃ rz ht fun t' k e => ?_))))
  subst e
  have x₃' := x₃.toks fo.ok (k := k)
  cases t' with
  | false => exact wpAny_pure ⟨σ₃, x₃', (k₁.trans k₂).trans k₃, hR _ (hP _ _ hb)⟩
  | true =>
    show wpAny _ _ (do
      let rv ← holding [b] (eval e₃ f.env)
      standAt pos
      let c ← operate [b, rv] (compareOp op₂ b rv)
      holding [c] (truthy c)) _ _ _
    refine wpAny_bind (wpAny_holding (wpAny_mono (h3 x₃' hb (xi.go ((k₁.trans k₂).trans k₃))) (fun d s₄ pe => pe.elim fun y σ₄ x₄ ry k₄ h₄ => ?_) fun _ _ y => y))
    refine wpAny_bind (wpAny_standAt (wpAny_bind (wpAny_operating (wpAny_mono (cmp_ok x₄ fo.ok fo.cx.b (units_le fo x₄) (ru.mono (x₂.tk (k₃.trans k₄))) ry h₄) (fun c s₅ pe => pe.elim fun y σ₅ x₅ rz k₅ h₅ => ?_) fun _ _ y => y))))
    exact wpAny_holding (truth_ok x₅ rz (hP _ _ h₅) fun b k q => ⟨σ₅, x₅.toks fo.ok, (((k₁.trans k₂).trans k₃).trans k₄).trans k₅, q⟩)
theorem RL.len_cL {rec : CE} {ne : NE} {sc : Scope} : ∀ {es : List PySem.Expr}, Y (cL rec ne sc es) fun l => l.len = es.length
  | [] => .so rfl
  | e :: es => .bind fun a _ => .map fun l h => congrArg (· + 1) (RL.len_cL l h)
theorem tup_arm {k : Nat} (fo : FO C f) (hl : es.length ≤ 100) (hn : l.len = es.length) (h1 : LvOk C f es l) : EvOk C f (.Tuple es k pos) (.tup l) := by
  intro m σ s Q E E₀ x h xi
  have hq : seqMost = 1000000 := rfl
  have hz : sizeLine = 16777216 := rfl
  refine wpAny_Tuple (wpAny_mono (h1 pos x h xi) (fun cvs s₁ pe => pe.elim fun vs σ₁ x₁ rvs k₁ hh => hh.elim fun hv h₁ => ⟨by rw [rvs.length]; lia, ?_⟩) fun _ _ y => y)
  exact (PE.tup x₁ fo.ok (k := s₁.toks) rvs (by lia) h₁).lift k₁
theorem lst_arm (fo : FO C f) (hl : es.length ≤ 100) (hn : l.len = es.length) (h1 : LvOk C f es l) : EvOk C f (.List es pos) (.lst l) := by
  intro m σ s Q E E₀ x h xi
  have hq : seqMost = 1000000 := rfl
  have hz : sizeLine = 16777216 := rfl
  refine wpAny_List (wpAny_mono (h1 pos x h xi) (fun cvs s₁ pe => pe.elim fun vs σ₁ x₁ rvs k₁ hh => hh.elim fun hv h₁ => ⟨by rw [rvs.length]; lia, ?_⟩) fun _ _ y => y)
  exact (PE.list x₁ fo.ok (x₁.roN fo.cx.b _ (get_size _)) (k := s₁.toks) rvs (by lia) h₁).lift k₁
theorem sub_arm (fo : FO C f) (hs : ∀ o i, subscripted e₂ false o i = operate [o, i] (getItem o i)) (h1 : EvOk C f e₁ r₁) (h2 : EvOk C f e₂ r₂) : EvOk C f (.Subscript e₁ e₂ pos) (.sub r₁ r₂) := by
  intro m σ s Q E E₀ x h xi
  refine Subscript_ (wpAny_mono (h1 x h xi) (fun a s₁ pe => pe.elim fun v σ₁ x₁ rv k₁ h₁ => wpAny_mono (h2 x₁ h₁ (xi.go k₁)) (fun b s₂ pe => pe.elim fun u σ₂ x₂ ru k₂ h₂ => ?_) fun _ _ y => y) fun _ _ y => y)
  exact wpAny_mono (idx_ok x₂ fo.ok fo.cx.b (rv.mono (x₁.tk k₂)) ru h₂ hs) (fun _ _ p => p.lift (k₁.trans k₂)) fun _ _ y => y
theorem sli_arm {lo up : Option PySem.Expr} {r₂ r₃ : RO} {p : Pos} (fo : FO C f) (h1 : EvOk C f e₁ r₁) (h2 : OvOk C f lo r₂) (h3 : OvOk C f up r₃) : EvOk C f (.Subscript e₁ (.Slice lo up none p) pos) (.sli r₁ r₂ r₃) := by
  intro m σ s Q E E₀ x h xi
  refine Subscript_ (wpAny_mono (h1 x h xi) (fun a s₁ pe => pe.elim fun v σ₁ x₁ rv k₁ h₁ => ?_) fun _ _ y => y)
  refine wpAny_Slice (wpAny_mono (h2 x₁ h₁ (xi.go k₁)) (fun vl s₂ ⟨lo, σ₂, x₂, pl, k₂, h₂⟩ => wpAny_mono (h3 x₂ h₂ (xi.go (k₁.trans k₂))) (fun vu s₃ ⟨up, σ₃, x₃, pu, k₃, h₃⟩ => ?_) fun _ _ y => y) fun _ _ y => y)
  refine wpAny_pure (a := Value.none) ?_
  exact wpAny_mono (slice_ok x₃ fo.ok fo.cx.b (rv.mono (x₁.tk (k₂.trans k₃))) pl pu h₃) (fun _ _ p => p.lift ((k₁.trans k₂).trans k₃)) fun _ _ y => y
theorem rev_arm {p q p' : Pos} {k : Nat} (fo : FO C f) (h1 : EvOk C f e₁ r₁) : EvOk C f (.Subscript e₁ (.Slice none none (some (.UnaryOp .USub (.Constant (.int 1) k q) p')) p) pos) (.rev r₁) := by
  intro m σ s Q E E₀ x h xi
  refine Subscript_ (wpAny_mono (h1 x h xi) (fun a s₁ pe => pe.elim fun v σ₁ x₁ rv k₁ h₁ => ?_) fun _ _ y => y)
  refine wpAny_Slice (wpAny_pure (a := Value.none) (wpAny_pure (a := Value.none) ?_))
  rw [evalPart_some]
  refine wpAny_UnaryOp (wpAny_Constant_int (neg_int ?_))
  have x₁' := x₁.toks fo.ok (k := s₁.toks + 1 + 1)
  exact wpAny_mono (rev_ok x₁' fo.ok rv h₁) (fun _ _ p => p.lift k₁) fun _ _ y => y
theorem base_ok {y : Str} (h : okBase e = true) (env : Env) (wh : Sem Value) : attributeBase e y env wh = wh := by
  cases e <;> first | rfl | skip
  rename_i fe args kw p
  cases args <;> first | rfl | skip
  · cases kw <;> first | rfl | skip
    · cases fe <;> first | rfl | exact bft h
    · cases fe <;> rfl
  · cases fe <;> rfl
theorem att_arm {y : Str} (fo : FO C f) (hb : okBase e = true) (h1 : EvOk C f e r) : EvOk C f (.Attribute e y pos) (.att r y) := by
  intro m σ s Q E E₀ x h xi
  rw [arm_eval_Attribute, base_ok hb]
  refine wpAny_bind (wpAny_mono (h1 x h xi) (fun a s₁ pe => pe.elim fun v σ₁ x₁ rv k₁ h₁ => wpAny_bind (wpAny_standAt (wpAny_bind (wpAny_holding (wpAny_mono (attr_ok x₁ fo.ok fo.cx.k rv h₁) (fun b s₂ p => ?_) fun _ _ y => y))))) fun _ _ y => y)
  exact wpAny_bind (wpAny_letTemporaryGo (wpAny_pure (p.lift k₁)))
theorem call_arm {g : Str} {np : Pos} (fo : FO C f) (hg : isG f.ne f.env.scope g = true) (hp : ∀ pos, (backTo pos (starEach es f.env)).any (·.1) = false) (h1 : LvOk C f es l) : EvOk C f (.Call (.Name g np) es [] pos) (.call g l) := by
  intro m σ s Q E E₀ x h xi
  obtain ⟨sp, hs, h⟩ := oS_inv h
  obtain ⟨fv, G, hk, d⟩ := fo.cx.s g sp hs
  refine wpAny_Call_ofName (glob_ok x fo.ok hg G (callWith_kept hk (hp pos) (wpAny_mono (h1 pos x h xi) (fun cvs s₁ pe => pe.elim fun vs σ₁ x₁ rvs k₁ hh => hh.elim fun _ h₁ => ⟨x₁.at_.st, ?_⟩) fun _ _ y => y)))
  exact wpAny_mono (call_ok x₁ fo.ok (Nat.le_refl _) d rvs h₁ (xi.go k₁)) (fun _ _ p => p.lift k₁) fun _ _ y => y
theorem bi_arm {g : Str} {np : Pos} {k : BK} (fo : FO C f) (hg : isG f.ne f.env.scope g = true) (hk : bkind g = some k) (hp : ∀ pos, (backTo pos (starEach es f.env)).any (·.1) = false) (h1 : LvOk C f es l) : EvOk C f (.Call (.Name g np) es [] pos) (.bi k l) := by
  intro m σ s Q E E₀ x h xi
  refine wpAny_Call_ofName (blt_ok x fo.ok hg (fo.cx.bi g k hk) (callWith_bk (hp pos) (wpAny_mono (h1 pos x h xi) (fun cvs s₁ pe => pe.elim fun vs σ₁ x₁ rvs k₁ hh => hh.elim fun _ h₁ => ?_) fun _ _ y => y)))
  exact wpAny_mono (bi_ok x₁ fo.ok fo.cx.b (units_le fo x₁) rvs h₁) (fun _ _ p => p.lift k₁) fun _ _ y => y
noncomputable def TyIs (g : Str) (T : String) : Prop := g = Str.ofString T ∧ okT T
theorem CxO.ty (fo : FO C f) {g : Str} {T : String} (h : TyIs g T) : Blt f.hB g (.type T) := by
  obtain ⟨rfl, rfl | rfl | rfl⟩ := h
  · exact fo.cx.tint
  · exact fo.cx.tstr
  · exact fo.cx.ttup
theorem isi1_arm {y : Str} {T : String} {p np np' : Pos} (fo : FO C f) (hg : isG f.ne f.env.scope (Str.ofString "isinstance") = true) (hy : isG f.ne f.env.scope y = true) (hT : TyIs y T) (hst : ∀ env es, starEach (e :: es) env = (false, eval e env) :: starEach es env) (h1 : EvOk C f e r) :
    EvOk C f (.Call (.Name (Str.ofString "isinstance") np) [e, .Name y np'] [] pos) (.isi r [y]) := by
  intro m σ s Q E E₀ x h xi
  have hp : (backTo pos (starEach [e, .Name y np'] f.env)).any (·.1) = false := by rw [hst]; rfl
  refine wpAny_Call_ofName (blt_ok x fo.ok hg fo.cx.isi (Calls.callWith_builtin hp (splice_evalArgs hp ?_)))
  refine wpAny_items_cons (wpAny_mono (h1 x h xi) (fun a s₁ pe => pe.elim fun v σ₁ x₁ rv k₁ hh => (onB_inv hh).elim fun hr h₁ => ?_) fun _ _ y => y) (hst _ _)
  refine wpAny_items_cons (blt_ok x₁ fo.ok hy (CxO.ty fo hT) (Calls.spliced_nil ?_)) rfl
  obtain ⟨rfl, hT⟩ := hT
  refine isi_one rv (nb hr) hT fun k => ?_
  exact (PE.of x₁ fo.ok (.bool _) h₁).lift k₁
theorem isi2_arm {y₁ y₂ : Str} {T₁ T₂ : String} {k' : Nat} {p np n₁ n₂ : Pos} (fo : FO C f) (hg : isG f.ne f.env.scope (Str.ofString "isinstance") = true) (hy₁ : isG f.ne f.env.scope y₁ = true) (hy₂ : isG f.ne f.env.scope y₂ = true) (hT₁ : TyIs y₁ T₁) (hT₂ : TyIs y₂ T₂)
    (hst : ∀ env es, starEach (e :: es) env = (false, eval e env) :: starEach es env) (h1 : EvOk C f e r) :
    EvOk C f (.Call (.Name (Str.ofString "isinstance") np) [e, .Tuple [.Name y₁ n₁, .Name y₂ n₂] k' p] [] pos) (.isi r [y₁, y₂]) := by
  intro m σ s Q E E₀ x h xi
  have hp : (backTo pos (starEach [e, .Tuple [.Name y₁ n₁, .Name y₂ n₂] k' p] f.env)).any (·.1) = false := by rw [hst]; rfl
  refine wpAny_Call_ofName (blt_ok x fo.ok hg fo.cx.isi (Calls.callWith_builtin hp (splice_evalArgs hp ?_)))
  refine wpAny_items_cons (wpAny_mono (h1 x h xi) (fun a s₁ pe => pe.elim fun v σ₁ x₁ rv k₁ hh => (onB_inv hh).elim fun hr h₁ => ?_) fun _ _ y => y) (hst _ _)
  refine wpAny_items_cons (wpAny_Tuple (wpAny_items_cons (blt_ok x₁ fo.ok hy₁ (CxO.ty fo hT₁) (wpAny_items_cons (blt_ok x₁ fo.ok hy₂ (CxO.ty fo hT₂) (Calls.spliced_nil ⟨by simp [sizeLine], Calls.spliced_nil ?_⟩)) rfl)) rfl)) rfl
  obtain ⟨rfl, hT₁⟩ := hT₁
  obtain ⟨rfl, hT₂⟩ := hT₂
  obtain ⟨x₂, k₂⟩ := x₁.pushed fo.ok (o := tupObj [.type T₁, .type T₂]) (k := s₁.toks)
  refine isi_two (s := { s₁ with heap := s₁.heap.push (tupObj [.type T₁, .type T₂]) }) rv.push (nb hr) hT₁ hT₂ (Heap.get?_push_size _ rfl) fun k => ?_
  exact (PE.of x₂ fo.ok (.bool _) h₁).lift (k₁.trans k₂)
theorem met_arm {y : Str} {apos : Pos} (fo : FO C f) (hb : okBase e = true) (hline : (apos.endLine == pos.line) = true) (hn : es.length ≤ 20) (hp : ∀ pos, (backTo pos (starEach es f.env)).any (·.1) = false)
    (h1 : EvOk C f e r) (h2 : LvOk C f es l) : EvOk C f (.Call (.Attribute e y apos) es [] pos) (.met r y l) := by
  intro m σ s Q E E₀ x h xi
  have hall : (backTo pos (starEach es f.env)).all (fun x => !x.1) = true := by
    have := hp pos
    rw [List.all_eq_not_any_not]
    simpa using this
  have hfew : ((backTo pos (starEach es f.env)).all (fun x => !x.1) && (backToKw pos (keywordEach [] f.env)).all (fun x => x.1.isSome)
      && decide (es.length + ([] : List Keyword).length + (if ([] : List Keyword).isEmpty then 0 else 1) < 30)) = true := by
    rw [hall]
    exact decide_eq_true (show es.length < 30 from Nat.lt_of_le_of_lt hn (by decide))
  rw [arm_eval_Call, base_ok hb]
  refine wpAny_bind (wpAny_mono (h1 x h xi) (fun ov s₁ pe => pe.elim fun v σ₁ x₁ rv k₁ hh => ?_) fun _ _ y => y)
  obtain ⟨kd, hk, hfr, hok, h₁⟩ := hh
  refine wpAny_bind (wpAny_standAt ?_)
  have hform : methodCallForm (es.length + ([] : List Keyword).length) (backTo pos (starEach es f.env)) (backToKw pos (keywordEach [] f.env)) = true := hfew
  have hpos : methodCallPos true e f.env apos pos = pure pos := by unfold methodCallPos; simp [hline]
  unfold methodCall
  rw [hform]
  cases kd with
  | ty T =>
    obtain ⟨mn, hmn⟩ := Option.isSome_iff_exists.mp hok
    obtain ⟨rfl, rfl⟩ := mname_inv hmn
    obtain ⟨hT, hd⟩ := kind_type x₁ fo.ok fo.cx.b rv hk
    refine wpAny_bind (wpAny_holding (getMethod_builtin hT (m_plain mn) (m_slot mn) (m_type mn) hd ?_))
    refine wpAny_bind (wpAny_of_eq hpos (Calls.callWith_builtin (hp pos) (splice_evalArgs (hp pos) (wpAny_mono (h2 pos x₁ h₁ (xi.go k₁)) (fun cvs s₂ pe => pe.elim fun vs σ₂ x₂ rvs k₂ ⟨_, h₂⟩ => ?_) fun _ _ y => y))))
    obtain ⟨mn', hmn', h₂⟩ := oS_inv h₂
    obtain rfl := inj2 hmn hmn'
    exact wpAny_mono (m_ok x₂ fo.ok fo.cx.b (rv.mono (x₁.tk k₂)) rvs h₂) (fun _ _ p => p.lift (k₁.trans k₂)) fun _ _ y => y
  | own c =>
    obtain ⟨sp, hsp⟩ := Option.isSome_iff_exists.mp hok
    obtain ⟨ci, g, hf, hfn, hkp, d⟩ := fo.cx.me c y sp hsp
    cases v <;> try (cases hk; done)
    rename_i a
    obtain rfl := rv.refInv
    obtain ⟨dx, hi⟩ : ∃ dx, σ₁ a = some (.inst c dx) := by
      unfold mkind at hk
      dsimp only at hk
      split at hk
      · cases hk
      · cases hk
      · cases hk
      · rename_i K dx e; cases hk; exact ⟨dx, e⟩
      · exact no1 hk
      · split at hk <;> cases hk
    obtain ⟨fs, hdx, hnone⟩ := hfr c dx hi
    refine wpAny_bind (wpAny_holding (meth_ok x₁ fo.cx.k hi hdx hnone ci hf hfn ?_))
    refine wpAny_bind (wpAny_of_eq hpos (callWith_kept hkp (hp pos) (wpAny_mono (h2 pos x₁ h₁ (xi.go k₁)) (fun cvs s₂ pe => pe.elim fun vs σ₂ x₂ rvs k₂ ⟨_, h₂⟩ => ⟨x₂.at_.st, ?_⟩) fun _ _ y => y)))
    obtain ⟨sp', hsp', h₂⟩ := oS_inv h₂
    obtain rfl := inj2 hsp hsp'
    exact wpAny_mono (call_ok x₂ fo.ok (Nat.le_refl _) d (.cons (.ref a) rvs) h₂ (xi.go (k₁.trans k₂))) (fun _ _ p => p.lift (k₁.trans k₂)) fun _ _ y => y
end
section
variable {f : Fx} {C : Cx} {m : M} {σ σ' : AS} {s s' : Shared}
theorem FS.later (x : FS f m σ s) (ok : f.Ok) {a : Addr} {ao : AO} {o : Obj} {h' : Heap} {k : Nat} (ha : σ a = none) (he : s.heap.get? a = some o) (hc : o.cls ≠ .type "tuple") (hB : f.hB.get? a = none) (hfr : a ∉ frs f.l) (hown : a ∉ f.own)
    (sb : Heap.SameBut a s.heap h') (ho : TupK s.heap h' → OM f.prog f.w h' a ao) : FS f m (σ.set a ao) { s with heap := h', toks := k } := by
  have tk : TupK s.heap h' := fun b ob e hcl _ => ⟨ob.slots, by rw [sb.2 b (fun q : b = a => hc (by rw [q, he] at e; obtain rfl := Option.some.inj e; exact hcl))]; exact e⟩
  obtain ⟨l', hl', ff, fσ⟩ := x.at_.fr
  obtain rfl := inj2 ok.fr hl'
  have nL : f.env.locals ≠ a := fun q => hown (q ▸ .head _)
  have nC : ∀ y c, (y, c) ∈ f.env.cells → c ≠ a := fun y c hy q => hown (.tail _ (List.mem_map.mpr ⟨_, hy, q⟩))
  refine ⟨⟨fun b ob e => ?_, fun b ao' e => ?_, ⟨f.l, ok.fr, funFrames_of ff fun b hb ob e => ⟨ob, by rw [sb.2 b (fun q : b = a => hfr (q ▸ hb))]; exact e, rfl⟩, fun b hb => ?_⟩, x.at_.hd, x.at_.dp, x.at_.un, x.at_.gens, x.at_.os⟩, ?_, fun y c hy => ?_, ?_, fun y c hy => ?_, x.bL, x.bC⟩
  · rw [sb.2 b (fun q : b = a => by rw [q, hB] at e; exact no1 e)]; exact x.at_.st b ob e
  · by_cases eb : b = a
    · subst eb
      rw [AS.set_same] at e; obtain rfl := Option.some.inj e
      exact ⟨ho tk, hB⟩
    · rw [AS.set_ne σ ao eb] at e
      exact ⟨(x.at_.obj b ao' e).1.at (fun ob q => by rw [sb.2 b eb]; exact q) tk, (x.at_.obj b ao' e).2⟩
  · rw [AS.set_ne σ ao (fun q : b = a => hfr (q ▸ hb))]; exact fσ b hb
  · obtain ⟨mm, ⟨ob, es, ep, hn, r⟩, hv⟩ := x.lo
    refine ⟨mm, ⟨ob, es, ep, (sb.2 _ nL).trans hn, r⟩, fun y i v h1 h2 h3 => ?_⟩
    obtain ⟨cv, p, q⟩ := hv y i v h1 h2 h3
    exact ⟨cv, p, q.mono tk⟩
  · obtain ⟨ob, v, e, d, r⟩ := x.ce y c hy
    refine ⟨ob, v, (sb.2 _ (nC y c hy)).trans e, d, fun i u h1 h2 h3 => ?_⟩
    obtain ⟨cv, p, q⟩ := r i u h1 h2 h3
    exact ⟨cv, p, q.mono tk⟩
  · rw [AS.set_ne σ ao nL]; exact x.sL
  · rw [AS.set_ne σ ao (nC y c hy)]; exact x.sC y c hy
theorem Kc.later {Fs X : List Addr} {σ₀ : AS} {h₀ h h' : Heap} {a : Addr} {ao : AO} (c : Kc Fs X σ₀ σ h₀ h) (sb : Heap.SameBut a h h') (h0 : h₀.get? a = none) : Kc Fs X σ₀ (σ.set a ao) h₀ h' := by
  have ne : ∀ b o, h₀.get? b = some o → b ≠ a := fun b o e q => by rw [q, h0] at e; exact no1 e
  refine ⟨fun b o e hs hf hx => ?_, fun b o e hf hx => ?_, fun b o e hs => ?_, fun b o e => ?_⟩
  · rw [sb.2 b (ne b o e)]; exact c.ex b o e hs hf hx
  · obtain ⟨sl, e'⟩ := c.sl b o e hf hx
    exact ⟨sl, by rw [sb.2 b (ne b o e)]; exact e'⟩
  · rw [AS.set_ne σ ao (ne b o e)]; exact c.nw b o e hs
  · obtain ⟨o', e'⟩ := c.pr b o e
    exact ⟨o', by rw [sb.2 b (ne b o e)]; exact e'⟩
theorem FS.apart (x : FS f m σ s) (ok : f.Ok) {a : Addr} (h : s.heap.get? a = none) : f.hB.get? a = none ∧ a ∉ frs f.l ∧ a ∉ f.own := by
  obtain ⟨l', hl', ff, fσ⟩ := x.at_.fr
  obtain rfl := inj2 ok.fr hl'
  refine ⟨x.hB_fresh h, fun hm => ?_, fun hm => ?_⟩
  · obtain ⟨_, o, e⟩ := frs_in ff a hm; exact no2 h e
  · obtain ⟨o, e, _⟩ := x.ownDict a hm; exact no2 h e
variable {K : Type} [DecidableEq K]
noncomputable def KeyEv (f : Fx) (knd : KeyKind f.prog f.w K) (e : PySem.Expr) (k : K) : Prop := ∀ (A : Around) (s : Shared) (Q E : Value → Shared → Prop), (∀ kv t, knd.is k kv = true → Q kv { s with toks := t }) → wpAny (model f.prog f.w) A (eval e f.env) Q E s
inductive DvP (f : Fx) (knd : KeyKind f.prog f.w K) (ks : List K) (m : M) (σ : AS) (h : Heap) (Q : List V → AS → Prop) (prs : List (Value × Value)) (s' : Shared) : Prop where
  | mk (kvs : List (K × Value)) (vs : List V) (σ' : AS) (hc : Carries knd prs kvs) (hk : kvs.map (·.1) = ks) (rv : RvL s'.heap (kvs.map (·.2)) vs) (x : FS f m σ' s') (kc : Kc (frs f.l) [] σ σ' h s'.heap) (q : Q vs σ')
noncomputable def DvOk (C : Cx) (f : Fx) (knd : KeyKind f.prog f.w K) (keys : List (Option PySem.Expr)) (values : List PySem.Expr) (ks : List K) (r : RL) : Prop :=
  ∀ ⦃m : M⦄ ⦃σ : AS⦄ ⦃s : Shared⦄ ⦃Q : List V → AS → Prop⦄ ⦃E : PXx⦄ ⦃E₀ : Value → Shared → Prop⦄ (pos : Pos), FS f m σ s → revs C r m σ Q E → XI f m σ s.heap E E₀ →
  wpAny (model f.prog f.w) f.A (evalPairs (pairTrees keys values f.env pos)) (DvP f knd ks m σ s.heap Q) E₀ s
theorem dv_nil {knd : KeyKind f.prog f.w K} : DvOk C f knd [] [] [] .nil := by
  intro m σ s Q E E₀ pos x h xi
  exact pairTrees_nil_walk ⟨[], [], σ, trivial, rfl, .nil, x, Kc.refl, h⟩
theorem dv_cons {knd : KeyKind f.prog f.w K} (fo : FO C f) {k e : PySem.Expr} {y : K} {keys : List (Option PySem.Expr)} {values : List PySem.Expr} {ks : List K} {r : RE} {l : RL} (hk : KeyEv f knd k y) (h1 : EvOk C f e r) (h2 : DvOk C f knd keys values ks l) :
    DvOk C f knd (some k :: keys) (e :: values) (y :: ks) (.cons r l) := by
  intro m σ s Q E E₀ pos x h xi
  refine pairTrees_cons_walk (hk _ _ _ _ fun kv t hkv => ?_)
  have x0 := x.toks fo.ok (k := t)
  refine wpAny_mono (h1 x0 h xi) (fun a s₁ pe => pe.elim fun v σ₁ x₁ rv k₁ h₁ => ?_) fun _ _ y => y
  refine wpAny_mono (h2 pos x₁ h₁ (xi.go k₁)) (fun prs s₂ p => ?_) fun _ _ y => y
  obtain ⟨kvs, vs, σ₂, hc, hks, rvs, x₂, k₂, h₂⟩ := p
  exact ⟨(y, a) :: kvs, v :: vs, σ₂, ⟨hkv, rfl, hc⟩, by rw [List.map_cons, hks], .cons (rv.mono (x₁.tk k₂)) rvs, x₂, k₁.trans k₂, h₂⟩
omit [DecidableEq K] in
theorem rvd_zip {h : Heap} {kvs : List (K × Value)} : ∀ {vs : List V}, RvL h (kvs.map (·.2)) vs → RvD h kvs ((kvs.map (·.1)).zip vs) := by
  induction kvs with
  | nil => exact fun {vs} r => by cases r; exact .nil
  | cons a kvs ih => exact fun {vs} r => by cases r with | cons hv r => exact .cons hv (ih r)
theorem dict_go {knd : KeyKind f.prog f.w K} (fo : FO C f) {mk : List (K × V) → AO} (hom : ∀ h a kvs es, h.DictOf knd a kvs → RvD h kvs es → OM f.prog f.w h a (mk es)) {keys : List (Option PySem.Expr)} {values : List PySem.Expr} {ks : List K} {r : RL} (hd : DvOk C f knd keys values ks r)
    (hall : keys.all (·.isSome) = true) (hl : keys.length = values.length) (h0 : keys ≠ []) (hlen : keys.length ≤ 15) (hnd : ks.Nodup) {pos : Pos} {m : M} {σ : AS} {s : Shared} {Q : PQ} {E : PXx} {E₀ : Value → Shared → Prop} (x : FS f m σ s)
    (h : revs C r m σ (fun xs σ₁ => anew C (mk (ks.zip xs)) σ₁ Q) E) (xi : XI f m σ s.heap E E₀) : wpAny (model f.prog f.w) f.A (eval (.Dict keys values pos) f.env) (PE f m σ s.heap Q) E₀ s := by
  refine wpAny_Dict_walk (knd := knd) hall hl h0 hlen ?_
  obtain ⟨x0, k0⟩ := x.pushed fo.ok (o := { cls := .type "dict", data := .dict #[] }) (k := s.toks)
  have hI := get_size s.heap
  obtain ⟨pB, pF, pO⟩ := x.apart fo.ok hI
  have hget : (s.heap.push { cls := .type "dict", data := .dict #[] }).get? s.heap.objs.size = some { cls := .type "dict", data := .dict #[] } := Heap.get?_push_size _ rfl
  have hσ := x.fresh hI
  refine wpAny_mono (hd pos x0 h (xi.go k0)) (fun prs s₁ p => ?_) fun _ _ y => y
  obtain ⟨kvs, vs, σ₁, hc, hks, rvs, x₁, k₁, h₁⟩ := p
  have e1 := k₁.ex _ _ hget hσ pF (by simp)
  have hm0 : (s.heap.push { cls := .type "dict", data := .dict #[] }).DictOf knd s.heap.objs.size [] := Heap.DictOf.new s.heap
  have n1 := k₁.nw _ _ hget hσ
  refine ⟨kvs, hc, hm0.at fun o e => by obtain rfl := inj2 hget e; exact e1, fun h' hd' sb => ?_⟩
  have hm : merged [] kvs = kvs := merged_nil_of_nodup kvs (by rw [hks]; exact hnd)
  rw [hm] at hd'
  refine ⟨.ref s.heap.objs.size, σ₁.set s.heap.objs.size (mk (ks.zip vs)), ?_, .ref _, (k0.trans k₁).later sb hI, h₁ _ n1 (x.roN fo.cx.b _ hI)⟩
  refine x₁.later fo.ok n1 e1 (by simp) pB pF pO sb fun tk => hom _ _ _ _ hd' ?_
  rw [← hks]
  exact rvd_zip (rvs.mono tk)
theorem key_int {f : Fx} (i : Int) (k : Nat) (p : Pos) : KeyEv f (intKind f.prog f.w) (.Constant (.int i) k p) i := fun A s Q E q => wpAny_Constant_int (q _ _ (intKind_self _ _ _ _))
theorem key_str {f : Fx} (y : Str) (k : Nat) (p : Pos) : KeyEv f (PySem.strKind f.prog f.w) (.Constant (.str y) k p) y := fun A s Q E q => wpAny_Constant_str (q _ _ (strKind_self _ _ _ _))
end
section
variable {f : Fx} {C : Cx} {e e₁ e₂ e₃ e₄ e₅ : PySem.Expr} {r r₁ r₂ r₃ r₄ r₅ : RE} {pos : Pos}
theorem di1_arm (fo : FO C f) {i : Int} {k : Nat} {p : Pos} (h1 : EvOk C f e r) : EvOk C f (.Dict [some (.Constant (.int i) k p)] [e] pos) (.di1 i r) := by
  intro m σ s Q E E₀ x h xi
  refine dict_go (K := Int) (knd := intKind f.prog f.w) (mk := .di) (r := .cons r .nil) fo (fun h a kvs es a1 a2 => ⟨kvs, a1, a2⟩) (ks := [i]) (dv_cons fo (key_int i k p) h1 dv_nil) rfl rfl (by simp) (by simp) (by simp) x ?_ xi
  exact h
theorem ds1_arm (fo : FO C f) {y : Str} {k : Nat} {p : Pos} (h1 : EvOk C f e r) : EvOk C f (.Dict [some (.Constant (.str y) k p)] [e] pos) (.ds1 y r) := by
  intro m σ s Q E E₀ x h xi
  refine dict_go (K := Str) (knd := PySem.strKind f.prog f.w) (mk := .ds) (r := .cons r .nil) fo (fun h a kvs es a1 a2 => ⟨kvs, a1, a2⟩) (ks := [y]) (dv_cons fo (key_str y k p) h1 dv_nil) rfl rfl (by simp) (by simp) (by simp) x ?_ xi
  exact h
theorem strKey_inv {e : Option PySem.Expr} {y : Str} (h : strKey e = some y) : ∃ k p, e = some (.Constant (.str y) k p) := by
  obtain ⟨a, e1, h2⟩ := obind h
  obtain ⟨z, h1, h3⟩ := obind h2
  cases (oif h3).2
  obtain ⟨k, p, e2⟩ := asStrC_inv h1
  exact ⟨k, p, e1.trans (congrArg some e2)⟩
theorem ds5_arm (fo : FO C f) {a b c d g : Option PySem.Expr} {x₁ x₂ x₃ x₄ x₅ : Str} (ha : strKey a = some x₁) (hb : strKey b = some x₂) (hc : strKey c = some x₃) (hd : strKey d = some x₄) (hg : strKey g = some x₅) (hn : [x₁, x₂, x₃, x₄, x₅].Nodup)
    (h1 : EvOk C f e₁ r₁) (h2 : EvOk C f e₂ r₂) (h3 : EvOk C f e₃ r₃) (h4 : EvOk C f e₄ r₄) (h5 : EvOk C f e₅ r₅) : EvOk C f (.Dict [a, b, c, d, g] [e₁, e₂, e₃, e₄, e₅] pos) (.ds5 x₁ x₂ x₃ x₄ x₅ (.cons r₁ (.cons r₂ (.cons r₃ (.cons r₄ (.cons r₅ .nil)))))) := by
  intro m σ s Q E E₀ x h xi
  obtain ⟨k1, p1, rfl⟩ := strKey_inv ha
  obtain ⟨k2, p2, rfl⟩ := strKey_inv hb
  obtain ⟨k3, p3, rfl⟩ := strKey_inv hc
  obtain ⟨k4, p4, rfl⟩ := strKey_inv hd
  obtain ⟨k5, p5, rfl⟩ := strKey_inv hg
  exact dict_go (K := Str) (knd := PySem.strKind f.prog f.w) (mk := .ds) fo (fun h a kvs es a1 a2 => ⟨kvs, a1, a2⟩) (ks := [x₁, x₂, x₃, x₄, x₅]) (dv_cons fo (key_str _ _ _) h1 (dv_cons fo (key_str _ _ _) h2 (dv_cons fo (key_str _ _ _) h3 (dv_cons fo (key_str _ _ _) h4 (dv_cons fo (key_str _ _ _) h5 dv_nil))))) rfl rfl (by simp) (by simp) hn x h xi
end
noncomputable def KB (X : List Addr) (h h' : Heap) : Prop := ∀ b o, b ∉ X → h.get? b = some o → h'.get? b = some o
noncomputable def Flds (X : List Addr) (h : Heap) : Prop := ∀ b ∈ X, ∃ o vs, h.get? b = some o ∧ o.data = .fields vs
theorem KB.at {X : List Addr} {h h' : Heap} (k : KB X h h') (f : Flds X h) {b : Addr} {o : Obj} (e : h.get? b = some o) (d : ∀ vs, o.data ≠ .fields vs) : h'.get? b = some o :=
  k b o (fun hm => by obtain ⟨o', vs', e', d'⟩ := f b hm; obtain rfl := inj2 e e'; exact d _ d') e
theorem KB.tup {X : List Addr} {h h' : Heap} (k : KB X h h') (f : Flds X h) : TupK h h' := fun b o e hc ⟨vs, n, hd⟩ =>
  ⟨o.slots, k.at f e fun _ q => by rw [hd] at q; cases q⟩
theorem Kc.skipKB {Fs X Y : List Addr} {σ σ' : AS} {h h₁ h₂ : Heap} (x : Kc Fs Y σ σ' h h₁) (c : KB X h₁ h₂) (hX : ∀ b ∈ X, h.get? b = none) : Kc Fs Y σ σ' h h₂ :=
  ⟨fun b o e hs hf hy => c b _ (fun hm => by exact no2 (hX b hm) e) (x.ex b o e hs hf hy),
   fun b o e hf hy => let ⟨sl, e₁⟩ := x.sl b o e hf hy; ⟨sl, c b _ (fun hm => by exact no2 (hX b hm) e) e₁⟩,
   x.nw, fun b o e => let ⟨_, e₁⟩ := x.pr b o e; ⟨_, c b _ (fun hm => by exact no2 (hX b hm) e) e₁⟩⟩
noncomputable abbrev Fx.at' (f : Fx) (env : Env) (ne : NE) : Fx := { f with env := env, ne := ne }
section
variable {f : Fx} {m : M} {σ σ' : AS} {s s' : Shared}
theorem FS.kb (x : FS f m σ s) (ok : f.Ok) {X : List Addr} {h' : Heap} {k : Nat} (c : KB X s.heap h') (hX : Flds X s.heap) (hB : ∀ b ∈ X, f.hB.get? b = none) : FS f m σ { s with heap := h', toks := k } := by
  obtain ⟨l', hl', ff, fσ⟩ := x.at_.fr
  obtain rfl := inj2 ok.fr hl'
  have tk := c.tup hX
  refine ⟨⟨fun b o e => c b o (fun hm => by exact no2 (hB b hm) e) (x.at_.st b o e), fun a ao e => ⟨?_, (x.at_.obj a ao e).2⟩, ⟨f.l, ok.fr, funFrames_of ff fun b hb o e => ?_, fσ⟩, x.at_.hd, x.at_.dp, x.at_.un, x.at_.gens, x.at_.os⟩, ?_, fun y ca hc => ?_, x.sL, x.sC, x.bL, x.bC⟩
  · obtain ⟨ob, e1, hn⟩ := (x.om e).noFields
    exact (x.om e).at (fun ob' e' => c.at hX e' (by obtain rfl := inj2 e1 e'; exact hn)) tk
  · obtain ⟨_, o', e', hn⟩ := ff.mem hb
    obtain rfl := inj2 e e'
    exact ⟨_, c.at hX e hn, rfl⟩
  · obtain ⟨mm, ⟨ob, es, ep, hn, hd, r⟩, hv⟩ := x.lo
    refine ⟨mm, ⟨_, es, ep, c.at hX hn (fun _ q => by rw [hd] at q; cases q), hd, r⟩, fun y i v h1 h2 h3 => ?_⟩
    obtain ⟨cv, a, b⟩ := hv y i v h1 h2 h3
    exact ⟨cv, a, b.mono tk⟩
  · obtain ⟨ob, v, e, d, r⟩ := x.ce y ca hc
    refine ⟨_, v, c.at hX e (fun _ q => by rw [d] at q; cases q), d, fun i u h1 h2 h3 => ?_⟩
    obtain ⟨cv, a, b⟩ := r i u h1 h2 h3
    exact ⟨cv, a, b.mono tk⟩
theorem FS.stands (x : FS f m σ s) (ok : f.Ok) {h' : Heap} (c : Kc (frs f.l) f.own σ σ' s.heap h') {b : Addr} {o : Obj} {vs : Array Value} (e : s.heap.get? b = some o) (d : o.data = .fields vs) : h'.get? b = some o := by
  obtain ⟨l', hl', ff, fσ⟩ := x.at_.fr
  obtain rfl := inj2 ok.fr hl'
  refine c.ex b o e ?_ (fun hm => ?_) fun hm => ?_
  · refine isN fun ao q => ?_
    obtain ⟨ob, e', hn⟩ := (x.om q).noFields; obtain rfl := inj2 e e'; exact absurd d (hn vs)
  · obtain ⟨_, o', e', hn⟩ := ff.mem hm
    obtain rfl := inj2 e e'; exact hn vs d
  · obtain ⟨o', e', hn⟩ := x.ownDict b hm
    obtain rfl := inj2 e e'; exact hn vs d
noncomputable abbrev Tgt := PySem.Expr
structure IterOk (f : Fx) (target : Tgt) (I : Addr) (items : List V) (dep : Dep) (wr : List Addr) (St : Nat → Heap → Prop) : Prop where
  nb : ∀ b ∈ wr, f.hB.get? b = none
  flds : ∀ i h, St i h → Flds wr h
  keep : ∀ i h h', St i h → (∀ b ∈ wr, ∀ o, h.get? b = some o → h'.get? b = some o) → TupK h h' → St i h'
  item : ∀ (A : Around) (env : Env) (ne : NE) (m : M) (σ : AS) (s : Shared) (i : Nat) (x : V) (Q : Option Value → Shared → Prop) (E : Value → Shared → Prop), A.handled = none → (f.at' env ne).Ok → FS (f.at' env ne) m σ s → St i s.heap → dep.ok σ → items[i]? = some x →
    (∀ v s', (∀ (Q' : Unit → Shared → Prop) (E' : Value → Shared → Prop), (∀ s'', FS (f.at' env ne) m σ s'' → KB wr s.heap s''.heap → St (i + 1) s''.heap → Rv s''.heap v x → Q' () s'') → wpAny (model f.prog f.w) A (letOwnedTupleGo target (.ref I) v) Q' E' s') → Q (some v) s') →
    wpAny (model f.prog f.w) A (pyNext (.ref I)) Q E s
  done : ∀ (A : Around) (env : Env) (ne : NE) (m : M) (σ : AS) (s : Shared) (Q : Option Value → Shared → Prop) (E : Value → Shared → Prop), A.handled = none → (f.at' env ne).Ok → FS (f.at' env ne) m σ s → St items.length s.heap → dep.ok σ →
    (∀ s', FS (f.at' env ne) m σ s' → KB wr s.heap s'.heap → Q none s') → wpAny (model f.prog f.w) A (pyNext (.ref I)) Q E s
  self : ∀ (A : Around) (i : Nat) (s : Shared) (Q : Value → Shared → Prop) (E : Value → Shared → Prop), A.handled = none → St i s.heap → Q (.ref I) s → wpAny (model f.prog f.w) A (pyIter (.ref I)) Q E s
theorem letGo_flat {M : Model} {A : Around} {E : Value → Shared → Prop} {target : Tgt} {it v : Value} {Q : Unit → Shared → Prop} (hv : ∀ a, v ≠ .ref a) (h : Q () s) : wpAny M A (letOwnedTupleGo target it v) Q E s := by
  unfold letOwnedTupleGo
  cases target <;> first
    | exact wpAny_pure h
    | (cases it <;> first
        | exact wpAny_pure h
        | (cases v <;> first | exact wpAny_pure h | exact absurd rfl (hv _)))
theorem chars_get (y : Str) (i : Nat) : (chars y)[i]? = (y.cps[i]?).map fun c => .str ⟨#[c]⟩ := by simp [chars]
theorem chars_len (y : Str) : (chars y).length = y.cps.size := by simp [chars]
theorem SF.char {y : Str} (h : SF y) {i : Nat} {c : Nat} (e : y.cps[i]? = some c) : SF ⟨#[c]⟩ := by
  refine ⟨?_, by simp [Str.length]⟩
  have := strOk_iff.mp h.1 c (by
    obtain ⟨hi, e⟩ := Array.getElem?_eq_some_iff.mp e
    rw [← e]; simp)
  rw [strOk_iff]
  intro d hd
  have : d = c := by simpa using hd
  subst this; assumption
theorem walk_step {P : Nat → Value → Prop} {St : Nat → Heap → Prop} {I : Addr} {fp wr : List Addr} {n i : Nat} {A : Around} {Q : Option Value → Shared → Prop} {E : Value → Shared → Prop} (W : Walks f.prog f.w A I fp wr n P St) (x : FS f m σ s) (ok : f.Ok) (hi : i < n) (st : St i s.heap) (fl : Flds wr s.heap) (nb : ∀ b ∈ wr, f.hB.get? b = none)
    (q : ∀ v s', P i v → St (i + 1) s'.heap → FS f m σ s' → KB wr s.heap s'.heap → Q (some v) s') : wpAny (model f.prog f.w) A (pyNext (.ref I)) Q E s :=
  W.item i s Q E hi st fun v h' tk hP st' k => q v _ hP st' (x.kb ok k fl nb) k
theorem walk_done {P : Nat → Value → Prop} {St : Nat → Heap → Prop} {I : Addr} {fp wr : List Addr} {n : Nat} {A : Around} {Q : Option Value → Shared → Prop} {E : Value → Shared → Prop} (W : Walks f.prog f.w A I fp wr n P St) (x : FS f m σ s) (ok : f.Ok) (st : St n s.heap) (fl : Flds wr s.heap) (nb : ∀ b ∈ wr, f.hB.get? b = none)
    (q : ∀ s', FS f m σ s' → KB wr s.heap s'.heap → Q none s') : wpAny (model f.prog f.w) A (pyNext (.ref I)) Q E s :=
  W.done s Q E st fun h' tk k => q _ (x.kb ok k fl nb) k
theorem lt_of_get {l : List V} {i : Nat} {x : V} (e : l[i]? = some x) : i < l.length := by
  rw [List.getElem?_eq_some_iff] at e; exact e.1
theorem iter_list {target : Tgt} {I a : Addr} {l : List V} (hI : f.hB.get? I = none) (hne : a ≠ I) : IterOk f target I l (.list a l) [I] (fun i h => h.IsListIter I a i) where
  nb := fun b hb => by rw [List.mem_singleton.mp hb]; exact hI
  flds := fun i h ⟨o, e, _, d⟩ b hb => by rw [List.mem_singleton.mp hb]; exact ⟨o, _, e, d⟩
  keep := fun i h h' st k _ => st.at fun o e => k I (.head _) o e
  item := fun A env ne m σ s i x Q E hA ok fs st dep e q => by
    obtain ⟨vs, pl, r, _, hz⟩ := fs.list dep
    refine walk_step (f := f.at' env ne) (Walks.list hA I a hne vs.toArray) fs ok (by have := lt_of_get e; simpa [hz] using this) ⟨st, plain_isList pl⟩ (fun b hb => by obtain ⟨o, e, _, d⟩ := st; rw [List.mem_singleton.mp hb]; exact ⟨o, _, e, d⟩) (fun b hb => by rw [List.mem_singleton.mp hb]; exact hI) fun v s' hP st' x' kb => q v s' fun Q' E' q' => letGo_listiter st'.1 (q' s' x' kb st'.1 ?_)
    obtain ⟨v', h1, rv⟩ := r.getElem e
    have : v' = v := by
      have hP : vs.toArray[i]? = some v := hP
      rw [List.getElem?_toArray, h1] at hP; cases hP; rfl
    subst this
    exact rv.mono (kb.tup fun b hb => by obtain ⟨o, e, _, d⟩ := st; rw [List.mem_singleton.mp hb]; exact ⟨o, _, e, d⟩)
  done := fun A env ne m σ s Q E hA ok fs st dep q => by
    obtain ⟨vs, pl, r, _, hz⟩ := fs.list dep
    have hs : vs.toArray.size = l.length := by simpa using hz
    exact walk_done (f := f.at' env ne) (Walks.list hA I a hne vs.toArray) fs ok ⟨by rw [hs]; exact st, plain_isList pl⟩ (fun b hb => by obtain ⟨o, e, _, d⟩ := st; rw [List.mem_singleton.mp hb]; exact ⟨o, _, e, d⟩) (fun b hb => by rw [List.mem_singleton.mp hb]; exact hI) q
  self := fun A i s Q E hA st q => wpAny_pyIter_listiter st q
theorem iter_tup {target : Tgt} {I a : Addr} {vs : List Value} {l : List V} (hI : f.hB.get? I = none) (hne : a ≠ I) : IterOk f target I l .free [I] (fun i h => h.IsTupleIter I a i ∧ IsTup h a vs.toArray ∧ RvL h vs l) where
  nb := fun b hb => by rw [List.mem_singleton.mp hb]; exact hI
  flds := fun i h ⟨⟨o, e, _, d⟩, _⟩ b hb => by rw [List.mem_singleton.mp hb]; exact ⟨o, _, e, d⟩
  keep := fun i h h' st k tk => ⟨st.1.at fun o e => k I (.head _) o e, by obtain ⟨o, e, hc, n, hd⟩ := st.2.1; obtain ⟨sl, e'⟩ := tk a o e hc ⟨_, _, hd⟩; exact ⟨_, e', hc, n, hd⟩, st.2.2.mono tk⟩
  item := fun A env ne m σ s i x Q E hA ok fs st dep e q => by
    obtain ⟨st, ht, r⟩ := st
    refine walk_step (f := f.at' env ne) (Walks.tuple hA I a hne vs.toArray) fs ok (by have := lt_of_get e; simpa [r.length] using this) ⟨st, ht⟩ (fun b hb => by obtain ⟨o, e, _, d⟩ := st; rw [List.mem_singleton.mp hb]; exact ⟨o, _, e, d⟩) (fun b hb => by rw [List.mem_singleton.mp hb]; exact hI) fun v s' hP st' x' kb => q v s' fun Q' E' q' => ?_
    have tk := kb.tup fun b hb => by obtain ⟨o, e, _, d⟩ := st; rw [List.mem_singleton.mp hb]; exact ⟨o, _, e, d⟩
    refine letGo_tupleiter st'.1 (q' s' x' kb ⟨st'.1, st'.2, r.mono tk⟩ ?_)
    obtain ⟨v', h1, rv⟩ := r.getElem e
    have : v' = v := by
      have hP : vs.toArray[i]? = some v := hP
      rw [List.getElem?_toArray, h1] at hP; cases hP; rfl
    subst this
    exact rv.mono tk
  done := fun A env ne m σ s Q E hA ok fs st dep q => by
    obtain ⟨st, ht, r⟩ := st
    have hs : vs.toArray.size = l.length := by simpa using r.length
    exact walk_done (f := f.at' env ne) (Walks.tuple hA I a hne vs.toArray) fs ok ⟨by rw [hs]; exact st, ht⟩ (fun b hb => by obtain ⟨o, e, _, d⟩ := st; rw [List.mem_singleton.mp hb]; exact ⟨o, _, e, d⟩) (fun b hb => by rw [List.mem_singleton.mp hb]; exact hI) q
  self := fun A i s Q E hA st q => wpAny_pyIter_tupleiter st.1 q
theorem iter_one {target : Tgt} {I : Addr} {l : List V} {St : Nat → Heap → Prop} {P : Nat → Value → Prop} (hI : f.hB.get? I = none) (W : ∀ A : Around, A.handled = none → Walks f.prog f.w A I [I] [I] l.length P St) (hf : ∀ i h, St i h → Flds [I] h)
    (hP : ∀ i v x h, P i v → l[i]? = some x → Rv h v x ∧ ∀ a, v ≠ .ref a) : IterOk f target I l .free [I] St where
  nb := fun b hb => by rw [List.mem_singleton.mp hb]; exact hI
  flds := hf
  keep := fun i h h' st k _ => (W {} rfl).frame i h h' st k
  item := fun A env ne m σ s i x Q E hA ok fs st dep e q => by
    refine walk_step (f := f.at' env ne) (W A hA) fs ok (lt_of_get e) st (hf i _ st) (fun b hb => by rw [List.mem_singleton.mp hb]; exact hI) fun v s' hv st' x' kb => q v s' fun Q' E' q' => ?_
    exact letGo_flat (hP i v x s'.heap hv e).2 (q' s' x' kb st' (hP i v x s'.heap hv e).1)
  done := fun A env ne m σ s Q E hA ok fs st dep q => walk_done (f := f.at' env ne) (W A hA) fs ok st (hf _ _ st) (fun b hb => by rw [List.mem_singleton.mp hb]; exact hI) q
  self := fun A i s Q E hA st q => (W A hA).self i s Q E st q
theorem iter_enm {k : Nat} {p : Pos} {elts : List PySem.Expr} {I J a : Addr} {l : List V} (hI : f.hB.get? I = none) (hJ : f.hB.get? J = none) (hIJ : I ≠ J) (haI : a ≠ I) (haJ : a ≠ J) :
    IterOk f (.Tuple elts k p) I (enumV 0 l) (.list a l) [I, J] (fun i h => (∃ old, IsEnum h I J i old) ∧ h.IsListIter J a i) := by
  have nb : ∀ b ∈ [I, J], f.hB.get? b = none := fun b hb => by
    rcases List.mem_cons.mp hb with rfl | hb
    · exact hI
    · rw [List.mem_singleton.mp hb]; exact hJ
  have fl : ∀ (i : Nat) (h : Heap), ((∃ old, IsEnum h I J i old) ∧ h.IsListIter J a i) → Flds [I, J] h := fun i h ⟨⟨old, e⟩, ⟨o, e', _, d⟩⟩ b hb => by
    rcases List.mem_cons.mp hb with rfl | hb
    · exact ⟨_, _, e, rfl⟩
    · rw [List.mem_singleton.mp hb]; exact ⟨o, _, e', d⟩
  have hen : ∀ (l : List V) (n i : Nat), (enumV n l)[i]? = (l[i]?).map fun v => .tup [.int ((n + i : Nat) : Int), v] := by
    intro l
    induction l with
    | nil => intro n i; simp [enumV]
    | cons v r ih =>
      intro n i
      cases i with
      | zero => simp [enumV]
      | succ i =>
        simp only [enumV, List.getElem?_cons_succ, ih]
        rw [show n + 1 + i = n + (i + 1) by lia]
  have hlen : ∀ (l : List V) (n : Nat), (enumV n l).length = l.length := by
    intro l
    induction l with
    | nil => intro n; rfl
    | cons v r ih => intro n; simp [enumV, ih]
  refine ⟨nb, fl, fun i h h' st kk _ => ⟨⟨st.1.choose, kk I (.head _) _ st.1.choose_spec⟩, st.2.at fun o e => kk J (.tail _ (.head _)) o e⟩, ?_, ?_, fun A i s Q E hA st q => let ⟨_, e⟩ := st.1; wpAny_pyIter_enum e q⟩
  · intro A env ne m σ s i x Q E hA ok fs st dep e q
    obtain ⟨vs, pl, r, _, hz⟩ := fs.list dep
    have W := WalksT.enumerate (prog := f.prog) (w := f.w) hA I J a hIJ haI haJ vs.toArray
    have hi : i < vs.toArray.size := by
      have := lt_of_get e
      rw [hlen] at this
      simpa [hz] using this
    refine W.item i s Q E hi ⟨st.1, st.2, plain_isList pl⟩ fun T vals h' tk hP _ hT hM kb => q _ _ fun Q' E' q' => ?_
    refine W.go elts k p i T _ Q' E' hM fun h'' st'' kb'' => ?_
    have kk : KB [I, J] s.heap h'' := fun b o hb e => kb'' b o hb (kb b o hb e)
    have tk2 := kk.tup (fl i _ st)
    refine q' _ (fs.kb ok kk (fl i _ st) nb) kk ⟨st''.1, st''.2.1⟩ ?_
    obtain ⟨t, y, hy, rfl⟩ := hP
    rw [hen] at e
    rw [Nat.zero_add] at e
    obtain ⟨v, hv, rfl⟩ := Option.map_eq_some_iff.mp e
    obtain ⟨v', h1, rv⟩ := r.getElem hv
    rw [List.getElem?_toArray, h1] at hy
    cases hy
    obtain ⟨o, ho, hc, n, hd⟩ := hT
    have ho'' := kb'' T o (W.apart i T _ hM) ho
    exact .tup (vs := [.int i t, y]) ho'' hc hd (.cons (.int _ _) (.cons (rv.mono tk2) .nil)) (show 2 ≤ seqMost by decide +kernel)
  · intro A env ne m σ s Q E hA ok fs st dep q
    obtain ⟨vs, pl, r, _, hz⟩ := fs.list dep
    have W := WalksT.enumerate (prog := f.prog) (w := f.w) hA I J a hIJ haI haJ vs.toArray
    rw [hlen] at st
    have hs : vs.toArray.size = l.length := by simpa using hz
    refine W.done s Q E ⟨by rw [hs]; exact st.1, by rw [hs]; exact st.2, plain_isList pl⟩ fun h' tk kb => q _ (fs.kb ok kb (fl _ _ st) nb) kb
noncomputable def Got (f : Fx) (target : Tgt) (h : Heap) (items : List V) (dep : Dep) (m : M) (σ σ' : AS) (it : Value) (s' : Shared) : Prop :=
  ∃ I wr St, it = .ref I ∧ IterOk f target I items dep wr St ∧ St 0 s'.heap ∧ (∀ b ∈ wr, h.get? b = none) ∧ FS f m σ' s' ∧ Kc (frs f.l) [] σ σ' h s'.heap ∧ dep.ok σ'
theorem Got.lift {target : Tgt} {h h₁ : Heap} {items : List V} {dep : Dep} {σ₁ : AS} {it : Value} (g : Got f target h₁ items dep m σ₁ σ' it s') (c : Kc (frs f.l) [] σ σ₁ h h₁) : Got f target h items dep m σ σ' it s' := by
  obtain ⟨I, wr, St, h1, h2, h3, h4, h5, h6, h7⟩ := g
  refine ⟨I, wr, St, h1, h2, h3, fun b hb => ?_, h5, c.trans h6, h7⟩
  refine isN fun o q => ?_
  obtain ⟨_, e⟩ := c.pr b o q; exact no2 (h4 b hb) e
theorem iter_val (x : FS f m σ s) (ok : f.Ok) {target : Tgt} {cv : Value} {v : V} (r : Rv s.heap cv v) {P : List V → Dep → Prop} (h : aiter v σ P) {A : Around} {E₀ : Value → Shared → Prop} :
    wpAny (model f.prog f.w) A (pyIter cv) (fun it s' => ∃ items dep, Got f target s.heap items dep m σ σ it s' ∧ P items dep) E₀ s := by
  have new : ∀ b ∈ [s.heap.objs.size], s.heap.get? b = none := fun b hb => by rw [List.mem_singleton.mp hb]; exact get_size _
  have hI := x.hB_fresh (get_size s.heap)
  unfold aiter at h
  split at h
  · rename_i l
    cases r with
    | tup ho hc hd hl hz =>
      rename_i a o n vs
      have ht : s.heap.IsTuple a vs.toArray := ⟨_, ho, hc, _, hd⟩
      refine wpAny_pyIter_tuple ht ⟨l, .free, ⟨_, _, _, rfl, iter_tup hI (Nat.ne_of_lt (Heap.lt_size ho)), ⟨⟨_, Heap.get?_push_size _ rfl, rfl, rfl⟩, ⟨_, push_keep ho, hc, _, hd⟩, hl.push⟩, new, (x.pushed ok).1, (x.pushed ok (k := s.toks)).2, trivial⟩, h⟩
  · rename_i y
    obtain ⟨hy, h⟩ := h
    obtain ⟨t, rfl, hS⟩ := r.strInv
    cases ha : y.cps.all (· < 128)
    · refine wpAny_pyIter_wide ha ⟨chars y, .free, ⟨_, _, _, rfl, iter_one hI (fun A' hA => chars_len y ▸ Walks.strWide hA _ y t) (fun i h st b hb => ?_) (fun i v z h hP e => ?_), ⟨_, Heap.get?_push_size _ rfl, rfl, rfl⟩, new, (x.pushed ok).1, (x.pushed ok (k := s.toks)).2, trivial⟩, h⟩
      · obtain ⟨o, e, _, d⟩ := st
        rw [List.mem_singleton.mp hb]; exact ⟨o, _, e, d⟩
      · obtain ⟨c, u, hc, rfl⟩ := hP
        rw [chars_get, hc] at e; cases e
        exact ⟨.str _ _ (hS.char hc), fun a q => by cases q⟩
    · refine wpAny_pyIter_ascii ha ⟨chars y, .free, ⟨_, _, _, rfl, iter_one hI (fun A' hA => chars_len y ▸ Walks.strAscii hA _ y t) (fun i h st b hb => ?_) (fun i v z h hP e => ?_), ⟨_, Heap.get?_push_size _ rfl, rfl, rfl⟩, new, (x.pushed ok).1, (x.pushed ok (k := s.toks)).2, trivial⟩, h⟩
      · obtain ⟨o, e, _, d⟩ := st
        rw [List.mem_singleton.mp hb]; exact ⟨o, _, e, d⟩
      · obtain ⟨c, u, hc, rfl⟩ := hP
        rw [chars_get, hc] at e; cases e
        exact ⟨.str _ _ (hS.char hc), fun a q => by cases q⟩
  · rename_i a
    obtain ⟨l, e, h⟩ := oL_inv h
    obtain rfl := r.refInv
    obtain ⟨vs, pl, rl, _⟩ := x.list e
    obtain ⟨n, ho⟩ := id pl
    exact wpAny_pyIter_list (plain_isList pl) ⟨l, .list a l, ⟨_, _, _, rfl, iter_list hI (Nat.ne_of_lt (Heap.lt_size ho)), ⟨_, Heap.get?_push_size _ rfl, rfl, rfl⟩, new, (x.pushed ok).1, (x.pushed ok (k := s.toks)).2, e⟩, h⟩
  · exact h.elim
noncomputable def SvOk (C : Cx) (f : Fx) (target : Tgt) (e : PySem.Expr) (r : RI) : Prop := ∀ ⦃m : M⦄ ⦃σ : AS⦄ ⦃s : Shared⦄ ⦃Q : List V → Dep → AS → Prop⦄ ⦃E : PXx⦄ ⦃E₀ : Value → Shared → Prop⦄, FS f m σ s → rsrc C r m σ Q E → XI f m σ s.heap E E₀ →
  wpAny (model f.prog f.w) f.A (eval e f.env) (fun cv s₁ => ∀ (A : Around) (E' : Value → Shared → Prop), A.handled = none → wpAny (model f.prog f.w) A (pyIter cv) (fun it s₂ => ∃ items dep σ₁, Got f target s.heap items dep m σ σ₁ it s₂ ∧ Q items dep σ₁) E' s₁) E₀ s
variable {C : Cx} {target : Tgt} {e : PySem.Expr} {r : RE} {pos np : Pos} {g : Str}
theorem val_src (fo : FO C f) (h1 : EvOk C f e r) : SvOk C f target e (.val r) := by
  intro m σ s Q E E₀ x h xi
  refine wpAny_mono (h1 x h xi) (fun cv s₁ ⟨v, σ₁, x₁, rv, k₁, h₁⟩ A E' hA => ?_) fun _ _ y => y
  exact wpAny_mono (iter_val x₁ fo.ok rv h₁) (fun it s₂ ⟨items, dep, gt, q⟩ => ⟨items, dep, σ₁, gt.lift k₁, q⟩) fun _ _ y => y
theorem rangeV_len (n : Int) : (rangeV n).length = n.toNat := by simp [rangeV]
theorem rangeV_get {n : Int} {i : Nat} {x : V} (e : (rangeV n)[i]? = some x) : x = .int i := by
  unfold rangeV at e
  rw [List.getElem?_map] at e
  obtain ⟨j, hj, rfl⟩ := Option.map_eq_some_iff.mp e
  rw [List.getElem?_eq_some_iff] at hj
  obtain ⟨_, hj⟩ := hj
  rw [List.getElem_range] at hj
  rw [hj]
theorem rng_src (fo : FO C f) (hg : isG f.ne f.env.scope g = true) (hgr : g = Str.ofString "range") (hst : ∀ env, starEach [e] env = [(false, eval e env)]) (h1 : EvOk C f e r) : SvOk C f target (.Call (.Name g np) [e] [] pos) (.rng r) := by
  intro m σ s Q E E₀ x h xi
  subst hgr
  have hp : (backTo pos (starEach [e] f.env)).any (·.1) = false := by rw [hst]; rfl
  refine wpAny_Call_ofName (blt_ok x fo.ok hg fo.cx.rng (callWith_excType hp (splice_evalArgs hp ?_)))
  refine wpAny_items_cons (wpAny_mono (h1 x h xi) (fun a s₁ pe => pe.elim fun v σ₁ x₁ rv k₁ h₁ => Calls.spliced_nil ?_) fun _ _ y => y) (by rw [hst]; rfl)
  obtain ⟨i, rfl, ⟨hi0, hi1⟩, h₁⟩ := onInt_inv h₁
  obtain ⟨t, rfl⟩ := rv.intInv
  refine call_range_1 fun A E' hA => ?_
  obtain ⟨x₂, k₂⟩ := x₁.pushed fo.ok (o := { cls := .type "range", data := .fields #[.int 0 s₁.toks, .int i t, .int 1 (s₁.toks + 1)] }) (k := s₁.toks + 1 + 1)
  refine wpAny_pyIter_range (Heap.get?_push_size _ rfl) (small_one (by decide) (by decide) (by lia) (by lia)) ?_
  obtain ⟨x₃, k₃⟩ := x₂.pushed fo.ok (o := { cls := .type "range_iterator", data := .fields #[rawInt 0, rawInt (Builtin.Range.rangeSize 0 i 1), rawInt 1] }) (k := s₁.toks + 1 + 1)
  have hI := x₂.hB_fresh (get_size _)
  refine ⟨rangeV i, .free, σ₁, Got.lift ⟨_, _, _, rfl, iter_one (P := fun j v => ∃ t, v = .int (0 + (j : Int) * 1) t) (St := fun j h => IsRangeIter h (s₁.heap.push { cls := .type "range", data := .fields #[.int 0 s₁.toks, .int i t, .int 1 (s₁.toks + 1)] }).objs.size (0 + (j : Nat) * 1) ((i.toNat : Int) - (j : Nat)) 1) hI (fun A' hA => by rw [rangeV_len]; exact Walks.range hA _ 0 1 i.toNat) (fun j h st b hb => ?_) (fun j v z h hP e => ?_), ?_, fun b hb => ?_, x₃, k₃, trivial⟩ (k₁.trans k₂), h₁⟩
  · rw [List.mem_singleton.mp hb]; exact ⟨_, _, st, rfl⟩
  · obtain ⟨t, rfl⟩ := hP
    rw [rangeV_get e]
    refine ⟨?_, fun a q => by cases q⟩
    rw [show (0 + (j : Int) * 1) = j by lia]
    exact .int _ _
  · rw [show (0 + ((0 : Nat) : Int) * 1) = 0 by rfl, show ((i.toNat : Int) - ((0 : Nat) : Int)) = Builtin.Range.rangeSize 0 i 1 by rw [rangeSize_one]; split <;> lia]
    exact Heap.get?_push_size _ rfl
  · rw [List.mem_singleton.mp hb]; exact get_size _
theorem enm_src {k : Nat} {p : Pos} {elts : List PySem.Expr} (fo : FO C f) (hg : isG f.ne f.env.scope g = true) (hgr : g = Str.ofString "enumerate") (hst : ∀ env, starEach [e] env = [(false, eval e env)]) (h1 : EvOk C f e r) : SvOk C f (.Tuple elts k p) (.Call (.Name g np) [e] [] pos) (.enm r) := by
  intro m σ s Q E E₀ x h xi
  subst hgr
  have hp : (backTo pos (starEach [e] f.env)).any (·.1) = false := by rw [hst]; rfl
  refine wpAny_Call_ofName (blt_ok x fo.ok hg fo.cx.enm (callWith_excType hp (splice_evalArgs hp ?_)))
  refine wpAny_items_cons (wpAny_mono (h1 x h xi) (fun cv s₁ pe => pe.elim fun v σ₁ x₁ rv k₁ h₁ => Calls.spliced_nil ?_) fun _ _ y => y) (by rw [hst]; rfl)
  obtain ⟨a, rfl, h₁⟩ := onRef_inv h₁
  obtain ⟨l, ha, hl, h₁⟩ := oL_inv h₁
  obtain rfl := rv.refInv
  obtain ⟨vs, pl, rl, _⟩ := x₁.list ha
  obtain ⟨n, ho⟩ := id pl
  have hlt := Heap.lt_size ho
  refine call_enumerate_list (plain_isList pl) fun h' hen hit hsz hk A E' hA => ?_
  obtain ⟨x₂, k₂⟩ := x₁.grown fo.ok (k := s₁.toks) hk
  refine wpAny_pyIter_enum hen ?_
  have n1 : s₁.heap.get? (s₁.heap.objs.size + 1) = none := Heap.get?_none_of_le (Nat.le_succ _)
  refine ⟨enumV 0 l, .list a l, σ₁, Got.lift ⟨_, _, _, rfl, iter_enm (x₁.hB_fresh n1) (x₁.hB_fresh (get_size _)) (Nat.succ_ne_self _) (Nat.ne_of_lt (Nat.lt_succ_of_lt hlt)) (Nat.ne_of_lt hlt), ⟨⟨_, hen⟩, hit⟩, fun b hb => ?_, x₂, k₂, ha⟩ k₁, h₁⟩
  rcases List.mem_cons.mp hb with rfl | hb
  · exact n1
  · rw [List.mem_singleton.mp hb]; exact get_size _
end
structure Agree (sc : Scope) (env : Env) : Prop where
  g : ∀ x, sc.names.lookup x = some .globalImplicit → env.kindOf x = some .globalImplicit
  c : ∀ x, sc.names.lookup x = some .cell → env.kindOf x = some .cell
  l : ∀ x, sc.names.lookup x = some .local → env.kindOf x = some .local
  f : ∀ x, env.kindOf x = some .free → sc.names.lookup x = some .free
theorem Agree.refl (env : Env) : Agree env.scope env := ⟨fun _ h => h, fun _ h => h, fun _ h => h, fun _ h => h⟩
theorem Agree.isG {sc : Scope} {env : Env} (a : Agree sc env) {ne : NE} {x : Str} (h : isG ne sc x = true) : isG ne env.scope x = true := by
  simp only [Mine.isG, Bool.and_eq_true, beq_iff_eq] at h ⊢
  exact ⟨⟨h.1.1, a.g x h.1.2⟩, h.2⟩
theorem zip_lookup {x : Str} {i : Nat} (l : List Str) : ∀ n : Nat, (l.zipIdx n).lookup x = some i → n ≤ i ∧ l[i - n]? = some x := by
  induction l with
  | nil => exact fun _ h => no2 rfl h
  | cons y r ih =>
    intro n h
    rw [List.zipIdx_cons, List.lookup_cons] at h
    by_cases e : x = y
    · rw [e, beq_self_eq_true] at h
      obtain rfl := Option.some.inj h
      exact ⟨Nat.le_refl _, by rw [Nat.sub_self, e]; rfl⟩
    · rw [beq_false_of_ne e] at h
      obtain ⟨h1, h2⟩ := ih (n + 1) h
      refine ⟨Nat.le_of_lt h1, ?_⟩
      rw [show i - n = (i - (n + 1)) + 1 by lia]
      exact h2
set_option backward.match.sparseCases false in
noncomputable def neNames (sc : Scope) : List Str := sc.names.filterMap fun x => match x.2 with | .local | .cell | .free => some x.1 | _ => none
theorem NE.get {sc : Scope} {x : Str} {i : Nat} (h : (NE.of sc).lookup x = some i) : (neNames sc)[i]? = some x := (zip_lookup _ _ h).2
theorem NE.inj {sc : Scope} {x y : Str} {i : Nat} (h : (NE.of sc).lookup x = some i) (h' : (NE.of sc).lookup y = some i) : x = y := by
  have := NE.get h
  rw [NE.get h'] at this; obtain rfl := Option.some.inj this; rfl
theorem NE.mem {sc : Scope} {x : Str} {i : Nat} (h : (NE.of sc).lookup x = some i) : ∃ k, (x, k) ∈ sc.names ∧ (k = .local ∨ k = .cell ∨ k = .free) := by
  have := List.mem_of_getElem? (NE.get h)
  obtain ⟨⟨y, k⟩, h1, h2⟩ := List.mem_filterMap.mp this
  cases k <;> first | (exact no1 h2; done) | (obtain rfl := Option.some.inj h2; exact ⟨_, h1, by simp⟩)
noncomputable def clF (env : Env) : List (Str × NameKind) → List (Str × Addr) → List (Str × Addr)
  | [], acc => acc
  | x :: r, acc => clF env r (if x.2 = .free then match env.cells.lookup x.1 with | some c => (x.1, c) :: acc | none => acc else acc)
theorem clF_mem {env : Env} {x : Str} {c : Addr} (ns : List (Str × NameKind)) : ∀ acc : List (Str × Addr), (x, c) ∈ clF env ns acc → (x, c) ∈ acc ∨ env.cells.lookup x = some c := by
  induction ns with
  | nil => exact fun _ h => .inl h
  | cons a r ih =>
    intro acc h
    refine (ih _ h).elim (fun h => ?_) .inr
    by_cases e : a.2 = .free
    · rw [if_pos e] at h
      cases q : env.cells.lookup a.1 with
      | none => rw [q] at h; exact .inl h
      | some d =>
        rw [q] at h
        refine (List.mem_cons.mp h).elim (fun h => ?_) .inl
        obtain ⟨h1, h2⟩ := Prod.mk.inj h
        exact .inr (by rw [h1, h2]; exact q)
    · rw [if_neg e] at h; exact .inl h
theorem clF_has {env : Env} {x : Str} {c : Addr} (hc : env.cells.lookup x = some c) (ns : List (Str × NameKind)) : ∀ acc : List (Str × Addr), ((x, c) ∈ acc ∨ (x, NameKind.free) ∈ ns) → (x, c) ∈ clF env ns acc := by
  induction ns with
  | nil => exact fun _ h => h.elim id nofun
  | cons a r ih =>
    refine fun acc h => ih _ (h.elim (fun h => .inl ?_) fun h => (List.mem_cons.mp h).elim (fun h => .inl ?_) .inr)
    · by_cases e : a.2 = .free
      · rw [if_pos e]
        cases env.cells.lookup a.1 with
        | none => exact h
        | some d => exact .tail _ h
      · rw [if_neg e]; exact h
    · rw [← h, if_pos rfl, hc]
      exact .head _
theorem closure_is {env : Env} {sc : Scope} (h : ∀ x, (x, NameKind.free) ∈ sc.names → ∃ c, env.cells.lookup x = some c) : closureFor sc env = pure (clF env sc.names []) := by
  have key : ∀ (ns : List (Str × NameKind)) (acc : List (Str × Addr)), (∀ x, (x, NameKind.free) ∈ ns → ∃ c, env.cells.lookup x = some c) →
      (forIn (m := Sem) ns acc fun x r => do
        let (name, kind) := x
        if kind == .free then do
          let a ← cellOf env name
          pure (ForInStep.yield ((name, a) :: r))
        else pure (ForInStep.yield r)) = pure (clF env ns acc) := by
    intro ns
    induction ns with
    | nil => intro acc _; rfl
    | cons x r ih =>
      intro acc hx
      obtain ⟨y, k⟩ := x
      rw [List.forIn_cons]
      by_cases e : k = .free
      · subst e
        obtain ⟨c, hc⟩ := hx y (.head _)
        have : cellOf env y = pure c := by unfold cellOf; rw [hc]
        simp only [this, beq_self_eq_true, if_true, pure_bind]
        rw [ih _ fun z hz => hx z (.tail _ hz)]
        simp only [clF, if_true, hc]
      · have hb : (k == NameKind.free) = false := by simpa using e
        simp only [hb, Bool.false_eq_true, if_false, pure_bind]
        rw [ih _ fun z hz => hx z (.tail _ hz)]
        simp only [clF, if_neg e]
  exact (bind_pure _).trans (key sc.names [] h)
section
variable {f : Fx} {m : M} {σ σ' : AS} {s s' : Shared} {sc sc' : Scope}
noncomputable abbrev innerEnv (f : Fx) (sc' : Scope) (Cl : Addr) : Env := compEnvC sc' (clF f.env sc'.names []) Cl f.env
noncomputable abbrev innerFx (f : Fx) (sc' : Scope) (Cl : Addr) : Fx := f.at' (innerEnv f sc' Cl) (NE.of sc')
structure ScOk (sc sc' : Scope) : Prop where
  kind : sc'.kind = .function
  gen : sc'.isGenerator = false
  co : sc'.isCoroutine = false
  names : ∀ x k, (x, k) ∈ sc'.names → (x == ("__debug__" : Str)) = false ∧ ((k = .local ∧ sc'.names.lookup x = some .local) ∨ k = .globalImplicit ∨ (k = .free ∧ sc.names.lookup x = some .cell ∧ sc'.names.lookup x = some .free))
theorem scOk_of (h : scOk sc sc' = true) : ScOk sc sc' := by
  simp only [scOk, Bool.and_eq_true, beq_iff_eq, Bool.not_eq_true', List.all_eq_true, Bool.or_eq_true] at h
  exact ⟨h.1.1.1, h.1.1.2, h.1.2, fun x k hm => ⟨(h.2 _ hm).1, by
    rcases (h.2 _ hm).2 with (h | h) | h
    · exact .inl h
    · exact .inr (.inl h)
    · exact .inr (.inr ⟨h.1.1, h.1.2, h.2⟩)⟩⟩
theorem relabel_lookup {env : Env} (x : Str) (hkind : env.scope.kind = .function) {names : List (Str × NameKind)} :
    (names.map fun (n, k) => if (k == NameKind.free && env.scope.kind == .function && env.kindOf n == some .cell) then (n, NameKind.cell) else (n, k)).lookup x =
      match names.lookup x with | some .free => if env.kindOf x = some .cell then some .cell else some .free | r => r := by
  induction names with
  | nil => rfl
  | cons a r ih =>
    obtain ⟨n, k⟩ := a
    by_cases hc : (k == NameKind.free && env.scope.kind == .function && env.kindOf n == some .cell) = true
    · have h1 : k = .free := eq_of_beq (Bool.and_eq_true_iff.mp (Bool.and_eq_true_iff.mp hc).1).1
      have h2 : env.kindOf n = some .cell := eq_of_beq (Bool.and_eq_true_iff.mp hc).2
      subst h1
      show List.lookup x ((if _ then _ else _) :: _) = _
      rw [if_pos hc, List.lookup_cons, List.lookup_cons]
      by_cases e : x = n
      · rw [e, beq_self_eq_true]; exact (if_pos h2).symm
      · rw [beq_false_of_ne e]; exact ih
    · show List.lookup x ((if _ then _ else _) :: _) = _
      rw [if_neg hc, List.lookup_cons, List.lookup_cons]
      by_cases e : x = n
      · rw [e, beq_self_eq_true]
        cases k with
        | free => exact (if_neg fun h => hc (by rw [h, hkind]; rfl)).symm
        | _ => rfl
      · rw [beq_false_of_ne e]; exact ih
theorem inner_kind (ok : f.Ok) {Cl : Addr} (x : Str) : (innerEnv f sc' Cl).kindOf x = match sc'.names.lookup x with | some .free => if f.env.kindOf x = some .cell then some .cell else some .free | r => r :=
  relabel_lookup x ok.kind
theorem inner_agree (ok : f.Ok) {Cl : Addr} (so : ScOk sc sc') : Agree sc' (innerEnv f sc' Cl) := by
  constructor <;> intro x h
  · rw [inner_kind ok, h]
  · rw [inner_kind ok, h]
  · rw [inner_kind ok, h]
  · rw [inner_kind ok] at h
    split at h
    · assumption
    · exact h
theorem inner_cell (ok : f.Ok) (so : ScOk sc sc') (ag : Agree sc f.env) (cov : ∀ x, sc.names.lookup x = some .cell → ∃ c, f.env.cells.lookup x = some c) :
    ∀ x, (x, NameKind.free) ∈ sc'.names → ∃ c, f.env.cells.lookup x = some c := fun x hm => by
  rcases (so.names x _ hm).2 with h | h | h
  · cases h.1
  · cases h
  · exact cov x h.2.1
theorem lookup_of_mem {x : Str} {c : Addr} {l : List (Str × Addr)} : (x, c) ∈ l → ∃ d, l.lookup x = some d := by
  induction l with
  | nil => nofun
  | cons a r ih =>
    intro h
    rw [List.lookup_cons]
    cases e : x == a.1 with
    | true => exact ⟨a.2, rfl⟩
    | false => exact (List.mem_cons.mp h).elim (fun h => by subst h; exact Bool.noConfusion (e.symm.trans (beq_self_eq_true x))) ih
theorem clF_sub {env : Env} {ns : List (Str × NameKind)} {x : Str} {c : Addr} (h : (x, c) ∈ clF env ns []) : env.cells.lookup x = some c := by
  rcases clF_mem ns [] h with h | h
  · cases h
  · exact h
theorem inner_ok (ok : f.Ok) {Cl : Addr} (so : ScOk sc sc') (ag : Agree sc f.env) (cov : ∀ x, sc.names.lookup x = some .cell → ∃ c, f.env.cells.lookup x = some c) : (innerFx f sc' Cl).Ok where
  base := ok.base
  gen := so.gen
  co := so.co
  kind := so.kind
  glob := ok.glob
  bi := ok.bi
  fr := ok.fr
  ne := fun x i h => by
    obtain ⟨k, hm, hk⟩ := NE.mem h
    obtain ⟨h0, h1⟩ := so.names x k hm
    refine ⟨h0, ?_⟩
    rcases h1 with h1 | h1 | h1
    · left; show (innerEnv f sc' Cl).kindOf x = _; rw [inner_kind ok, h1.2]
    · rcases hk with e | e | e <;> rw [h1] at e <;> cases e
    · right
      have hc := ag.c x h1.2.1
      obtain ⟨c, hcl⟩ := cov x h1.2.1
      refine ⟨.inl ?_, ?_⟩
      · show (innerEnv f sc' Cl).kindOf x = _; rw [inner_kind ok, h1.2.2]; simp [hc]
      · exact lookup_of_mem (clF_has hcl sc'.names [] (.inr (h1.1 ▸ hm)))
  inj := fun x y i h h' => NE.inj h h'
  cinj := fun x y c h h' => ok.cinj x y c (mem_of_lookup (clF_sub h)) (mem_of_lookup (clF_sub h'))
  cfun := fun x c c' h h' => by
    have := clF_sub h
    rw [clF_sub h'] at this; obtain rfl := Option.some.inj this; rfl
theorem inner_at {ne : NE} {m : M} {x : Str} {i : Nat} {u : V} (h : (NE.of sc').lookup x = some i) (hm : (innerM (innerMp ne sc') m)[i]? = some (some u)) : sc'.names.lookup x = some .free ∧ ∃ j, ne.lookup x = some j ∧ m[j]? = some (some u) := by
  have h1 : (NE.of sc')[i]? = some (x, i) := by
    have := NE.get h
    show ((neNames sc').zipIdx)[i]? = _
    rw [List.getElem?_zipIdx, this]; simp
  unfold innerM innerMp at hm
  rw [List.map_map, List.getElem?_map, h1] at hm
  simp only [Option.map_some, Function.comp, Option.some.injEq] at hm
  by_cases e : sc'.names.lookup x = some .free
  · simp only [e, beq_self_eq_true, if_true] at hm
    cases q : ne.lookup x with
    | none => rw [q] at hm; exact no1 hm
    | some j =>
      rw [q] at hm
      dsimp only at hm
      refine ⟨e, j, rfl, ?_⟩
      cases z : m[j]? with
      | none => rw [z] at hm; exact no1 hm
      | some v => rw [z] at hm; simp only [Option.getD_some] at hm; rw [hm]
  · have : (sc'.names.lookup x == some NameKind.free) = false := by simpa using e
    simp only [this, Bool.false_eq_true, if_false] at hm
    exact no1 hm
theorem inner_FS (x : FS f m σ s) (ok : f.Ok) {Cl : Addr} {mm : Str → Option Value} (so : ScOk sc sc') (ag : Agree sc f.env) (hn : s.heap.Ns Cl mm) (hσ : σ Cl = none) (hB : f.hB.get? Cl = none) : FS (innerFx f sc' Cl) (innerM (innerMp f.ne sc') m) σ s where
  at_ := x.at_
  lo := ⟨mm, hn, fun y i v h1 h2 h3 => by
    obtain ⟨e, _⟩ := inner_at h1 h3
    rw [inner_kind ok, e] at h2
    dsimp only at h2
    split at h2 <;> cases h2⟩
  ce := fun y ca hy => by
    have hy := clF_sub hy
    obtain ⟨o, v, e, d, r⟩ := x.ce y ca (mem_of_lookup hy)
    refine ⟨o, v, e, d, fun i u h1 h2 h3 => ?_⟩
    obtain ⟨hf, j, hj, hm⟩ := inner_at h1 h3
    obtain ⟨k, hk, _⟩ := NE.mem h1
    refine r j u hj (fun q => ?_) hm
    rcases (so.names y k hk).2 with h | h | h
    · rw [hf] at h; cases h.2
    · obtain ⟨k', hk', hkk⟩ := NE.mem h1
      have hc : (y, NameKind.free) ∈ sc'.names := mem_of_lookup hf
      rcases (so.names y _ hc).2 with h | h | h
      · cases h.1
      · cases h
      · rw [ag.c y h.2.1] at q; cases q
    · rw [ag.c y h.2.1] at q; cases q
  sL := hσ
  sC := fun y c hy => x.sC y c (mem_of_lookup (clF_sub hy))
  bL := hB
  bC := fun y c hy => x.bC y c (mem_of_lookup (clF_sub hy))
end
section
variable {f : Fx} {m : M} {σ σ' σ₁ : AS} {s s' : Shared} {sc sc' : Scope} {C : Cx}
theorem FS.but (x : FS f m σ s) (ok : f.Ok) {a : Addr} {o : Obj} {h' : Heap} {k : Nat} (ha : σ a = none) (he : s.heap.get? a = some o) (hc : o.cls ≠ .type "tuple" ∨ ∀ vs n, o.data ≠ .seq vs n) (hB : f.hB.get? a = none) (hfr : a ∉ frs f.l) (hown : a ∉ f.own)
    (sb : Heap.SameBut a s.heap h') : FS f m σ { s with heap := h', toks := k } := by
  have tk : TupK s.heap h' := fun b ob e hcl ⟨vs, n, hd⟩ => ⟨ob.slots, by rw [sb.2 b (fun q : b = a => by rw [q, he] at e; obtain rfl := Option.some.inj e; rcases hc with hc | hc; exact hc hcl; exact hc vs n hd)]; exact e⟩
  obtain ⟨l', hl', ff, fσ⟩ := x.at_.fr
  obtain rfl := inj2 ok.fr hl'
  have nL : f.env.locals ≠ a := fun q => hown (q ▸ .head _)
  have nC : ∀ y c, (y, c) ∈ f.env.cells → c ≠ a := fun y c hy q => hown (.tail _ (List.mem_map.mpr ⟨_, hy, q⟩))
  refine ⟨⟨fun b ob e => ?_, fun b ao' e => ?_, ⟨f.l, ok.fr, funFrames_of ff fun b hb ob e => ⟨ob, by rw [sb.2 b (fun q : b = a => hfr (q ▸ hb))]; exact e, rfl⟩, fσ⟩, x.at_.hd, x.at_.dp, x.at_.un, x.at_.gens, x.at_.os⟩, ?_, fun y c hy => ?_, x.sL, x.sC, x.bL, x.bC⟩
  · rw [sb.2 b (fun q : b = a => by rw [q, hB] at e; exact no1 e)]; exact x.at_.st b ob e
  · exact ⟨(x.at_.obj b ao' e).1.at (fun ob q => by rw [sb.2 b (fun q : b = a => by rw [q, ha] at e; exact no1 e)]; exact q) tk, (x.at_.obj b ao' e).2⟩
  · obtain ⟨mm, ⟨ob, es, ep, hn, r⟩, hv⟩ := x.lo
    refine ⟨mm, ⟨ob, es, ep, (sb.2 _ nL).trans hn, r⟩, fun y i v h1 h2 h3 => ?_⟩
    obtain ⟨cv, p, q⟩ := hv y i v h1 h2 h3
    exact ⟨cv, p, q.mono tk⟩
  · obtain ⟨ob, v, e, d, r⟩ := x.ce y c hy
    refine ⟨ob, v, (sb.2 _ (nC y c hy)).trans e, d, fun i u h1 h2 h3 => ?_⟩
    obtain ⟨cv, p, q⟩ := r i u h1 h2 h3
    exact ⟨cv, p, q.mono tk⟩
theorem KB.but {a : Addr} {h h' : Heap} (sb : Heap.SameBut a h h') : KB [a] h h' := fun b o hb e => by rw [sb.2 b fun q : b = a => hb (q ▸ .head _)]; exact e
theorem Kc.fresh {Fs X : List Addr} {h h' : Heap} (c : Kc Fs X σ σ' h h') {b : Addr} (e : h'.get? b = none) : h.get? b = none := by
  refine isN fun o q => ?_
  obtain ⟨_, z⟩ := c.pr b o q; exact no2 e z
noncomputable def CdOk (C : Cx) (f : Fx) (ifs : List PySem.Expr) (r : RO) : Prop := ∀ ⦃m : M⦄ ⦃σ : AS⦄ ⦃s : Shared⦄ ⦃Q : Bool → AS → Prop⦄ ⦃E : PXx⦄ ⦃E₀ : Value → Shared → Prop⦄, FS f m σ s → rcond C r m σ Q E → XI f m σ s.heap E E₀ →
  wpAny (model f.prog f.w) f.A (forIn ifs true fun c r => if r = true then do let ok ← isTrue c f.env (eval c f.env); pure (ForInStep.yield ok) else pure (ForInStep.yield r)) (PB f m σ s.heap Q) E₀ s
theorem cd_none : CdOk C f [] .no := by
  intro m σ s Q E E₀ x h xi
  exact wpAny_tests_nil ⟨_, x, Kc.refl, h⟩
theorem cd_some {e : PySem.Expr} {r : RE} (h1 : TrOk C f e r) : CdOk C f [e] (.some r) := by
  intro m σ s Q E E₀ x h xi
  exact wpAny_tests_one (h1 x h (fun _ _ h => h) xi)
theorem innerM_len {mp : List (Option Nat)} : (innerM mp m).length = mp.length := by unfold innerM; rw [List.length_map]
theorem NE.lt {x : Str} {i : Nat} (h : (NE.of sc).lookup x = some i) : i < (NE.of sc).length := by
  have := NE.get h
  rw [List.getElem?_eq_some_iff] at this
  obtain ⟨h, _⟩ := this
  show i < ((neNames sc).zipIdx).length
  rw [List.length_zipIdx]; exact h
abbrev lst (ys : List Value) : Obj := { cls := .type "list", data := .seq ys.toArray ys.length }
theorem lst_snoc (ys : List Value) (y : Value) : ({ cls := .type "list", data := .seq (ys.toArray.push y) (ys.length + 1) } : Obj) = lst (ys ++ [y]) := by
  show ({ cls := .type "list", data := .seq (ys.toArray.push y) (ys.length + 1) } : Obj) = { cls := .type "list", data := .seq (ys ++ [y]).toArray (ys ++ [y]).length }
  rw [List.length_append, List.length_singleton, List.push_toArray]
structure Turn (f : Fx) (m : M) (σ : AS) (h : Heap) (sc' : Scope) (ti : Nat) (wr : List Addr) (St : Nat → Heap → Prop) (D Cl : Addr) (i : Nat) (acc : List V) (σ' : AS) (s' : Shared) : Prop where
  fs : ∃ m', FS (innerFx f sc' Cl) m' σ' s' ∧ ti < m'.length ∧ ∀ v, m'.set ti v = (innerM (innerMp f.ne sc') m).set ti v
  st : St i s'.heap
  kc : Kc (frs f.l) [] σ σ' h s'.heap
  out : ∃ vs, s'.heap.get? D = some (lst vs) ∧ RvL s'.heap vs acc
  un : σ' D = none
inductive LoopI (f : Fx) (m : M) (σ : AS) (h : Heap) (sc' : Scope) (ti : Nat) (wr : List Addr) (St : Nat → Heap → Prop) (D Cl : Addr) (Iv : Nat → List V → AS → Prop) (len n : Nat) (s' : Shared) : Prop where
  | mk (i : Nat) (acc : List V) (σ' : AS) (hi : i ≤ len) (e : n = len - i) (T : Turn f m σ h sc' ti wr St D Cl i acc σ' s') (v : Iv i acc σ')
theorem comp_loop (fo : FO C f) (so : ScOk sc sc') (ag : Agree sc f.env) (cov : ∀ x, sc.names.lookup x = some .cell → ∃ c, f.env.cells.lookup x = some c) {elt it : PySem.Expr} {ifs : List PySem.Expr} {t : Str} {tp pos : Pos} {ti : Nat} {cnd : RO} {re : RE}
    (ht : (NE.of sc').lookup t = some ti) (htl : sc'.names.lookup t = some .local) {items : List V} {dep : Dep} {wr : List Addr} {St : Nat → Heap → Prop} {I D Cl : Addr} {Iv : Nat → List V → AS → Prop} {h : Heap}
    (hel : EvOk C (innerFx f sc' Cl) elt re) (hif : CdOk C (innerFx f sc' Cl) ifs cnd) (itk : IterOk f (.Name t tp) I items dep wr St) (hA : f.A.handled = none) (hlen : items.length ≤ 1000)
    (h2 : ∀ i acc σ₂, Iv i acc σ₂ → dep.ok σ₂ ∧ acc.length ≤ i)
    (h3 : ∀ i acc σ₂ x, items[i]? = some x → Iv i acc σ₂ → rcond C cnd ((innerM (innerMp f.ne sc') m).set ti (some x)) σ₂ (fun b σ₃ => onB b (rev C re ((innerM (innerMp f.ne sc') m).set ti (some x)) σ₃ (fun v σ₄ => Iv (i + 1) (acc ++ [v]) σ₄) (fun _ _ => False)) (Iv (i + 1) acc σ₃)) (fun _ _ => False))
    (hwr : ∀ b ∈ wr, h.get? b = none) (hD : h.get? D = none) (hCl : h.get? Cl = none) (hDC : D ≠ Cl) (nD : f.hB.get? D = none ∧ D ∉ frs f.l ∧ D ∉ f.own)
    {R : Result → Shared → Prop}
    (hR : ∀ acc σ' s', (∃ m', FS (innerFx f sc' Cl) m' σ' s') → Kc (frs f.l) [] σ σ' h s'.heap → (∃ vs, s'.heap.get? D = some (lst vs) ∧ RvL s'.heap vs acc) → σ' D = none → Iv items.length acc σ' → R (.ok .next) s')
    {acc₀ : List V} {σ₀ : AS} {s₀ : Shared} (h0 : Turn f m σ h sc' ti wr St D Cl 0 acc₀ σ₀ s₀) (hI0 : Iv 0 acc₀ σ₀) :
    codeAny (model f.prog f.w) f.A (.compLoop (.ListComp elt [⟨.Name t tp, it, ifs, 0⟩] sc' pos) 0 (.ref I) (.ref D) (innerEnv f sc' Cl)) R s₀ := by
  have iok : (innerFx f sc' Cl).Ok := inner_ok fo.ok so ag cov
  have htk : (innerEnv f sc' Cl).kindOf t = some .local := by rw [inner_kind fo.ok, htl]
  have xiF : ∀ {m' : M} {σ₁ : AS} {h₁ : Heap} {E₁ : Value → Shared → Prop}, XI (innerFx f sc' Cl) m' σ₁ h₁ (fun _ _ => False) E₁ := fun _ _ _ _ _ h => h.elim
  refine codeAny_loop rfl (LoopI f m σ h sc' ti wr St D Cl Iv items.length) (fun n s' hI => ?_) _ ⟨0, acc₀, σ₀, Nat.zero_le _, rfl, h0, hI0⟩
  obtain ⟨i, acc, σ', hi, rfl, T, hIv⟩ := hI
  show wpAny _ f.A ((compTurn (.ListComp elt [⟨.Name t tp, it, ifs, 0⟩] sc' pos) 0 (.ref I) (.ref D) (innerEnv f sc' Cl)).onRaise (fun x => do noteFrame x (innerEnv f sc' Cl); theTreesLotGoes x)) _ _ s'
  refine wpAny_noted ?_
  rw [compTurn_list]
  refine hidW fun Q₁ E₁ hQ _ => wpAny_bind (wpAny_standAt (wpAny_bind ?_))
  obtain ⟨m', x', hti, hms⟩ := T.fs
  obtain ⟨vs, hout, rl⟩ := T.out
  have hfl := itk.flds _ _ T.st
  by_cases hlt : i < items.length
  · obtain ⟨x, hx⟩ : ∃ x, items[i]? = some x := ⟨items[i], by simp [hlt]⟩
    refine itk.item f.A (innerEnv f sc' Cl) (NE.of sc') m' σ' s' i x _ _ hA iok x' T.st (h2 _ _ _ hIv).1 hx fun v s₁ go => ?_
    refine wpAny_bind (go _ _ fun s₂ x₂ kb₂ st₂ rv₂ => ?_)
    have k₂ : Kc (frs f.l) [] σ σ' h s₂.heap := T.kc.skipKB kb₂ hwr
    have out₂ : s₂.heap.get? D = some (lst vs) := kb₂.at hfl hout (by simp)
    have rl₂ : RvL s₂.heap vs acc := rl.mono (kb₂.tup hfl)
    refine wpAny_bind (wpAny_assign_Name (x₂.store iok ht (by show (innerEnv f sc' Cl).kindOf t ≠ _; rw [htk]; simp) hti rv₂ fun s₃ x₃ kk₃ sb₃ => ?_))
    have sb₃ : Heap.SameBut Cl s₂.heap s₃.heap := sb₃ htk
    have tk₃ : TupK s₂.heap s₃.heap := x₂.tupKX kk₃
    have k₃ : Kc (frs f.l) [] σ σ' h s₃.heap := k₂.skipKB (KB.but sb₃) fun b hb => by rw [List.mem_singleton.mp hb]; exact hCl
    have out₃ : s₃.heap.get? D = some (lst vs) := (sb₃.2 D hDC).trans out₂
    have rl₃ := rl₂.mono tk₃
    have st₃ : St (i + 1) s₃.heap := itk.keep _ _ _ st₂ (fun b hb o e => by
      obtain ⟨o', vs', e', d'⟩ := itk.flds _ _ st₂ b hb
      obtain rfl := inj2 e e'
      exact x₂.stands iok kk₃ e d') tk₃
    rw [hms] at x₃
    have h₃ := h3 i acc σ' x hx hIv
    refine wpAny_bind (wpAny_mono (hif x₃ h₃ xiF) (fun ok s₄ p => p.elim fun σ₄ x₄ k₄ q₄ => ?_) fun _ _ y => y)
    have keep : ∀ {σ₅ : AS} {s₅ : Shared}, Kc (frs f.l) [] σ' σ₅ s₃.heap s₅.heap → FS (innerFx f sc' Cl) ((innerM (innerMp f.ne sc') m).set ti (some x)) σ₅ s₅ → Turn f m σ h sc' ti wr St D Cl (i + 1) acc σ₅ s₅ := fun {σ₅ s₅} kc fs => by
      have tk := x₃.at_.tupK kc
      refine ⟨⟨_, fs, by rw [List.length_set, innerM_len]; unfold innerMp; rw [List.length_map]; exact NE.lt ht, fun v => by rw [List.set_set]⟩, itk.keep _ _ _ st₃ (fun b hb o e => ?_) tk, k₃.trans kc, ⟨vs, kc.ex D _ out₃ T.un nD.2.1 (by simp), rl₃.mono tk⟩, kc.nw D _ out₃ T.un⟩
      obtain ⟨o', vs', e', d'⟩ := itk.flds _ _ st₃ b hb
      obtain rfl := inj2 e e'
      exact x₃.stands iok (kc.mono (by simp)) e d'
    cases ok with
    | false => exact wpAny_pure (hQ _ _ ⟨rfl, items.length - (i + 1), by grind, i + 1, acc, σ₄, hlt, rfl, keep k₄ x₄, q₄⟩)
    | true =>
      refine wpAny_bind (wpAny_bind (wpAny_mono (hel x₄ q₄ xiF) (fun cv s₅ p => p.elim fun u σ₅ x₅ r₅ k₅ q₅ => ?_) fun _ _ y => y))
      have T₅ := keep (k₄.trans k₅) x₅
      obtain ⟨vs₅, out₅, rl₅⟩ := T₅.out
      have hal := (h2 _ _ _ hIv).2
      have hvl : vs₅.length = acc.length := rl₅.length
      refine wpAny_bind (append_at (hsz := by rw [List.size_toArray]; exact seq_fits (by have : seqMost = 1000000 := rfl; lia)) out₅ fun h₆ sb₆ out₆ => wpAny_pure (wpAny_pure (hQ _ _ ⟨rfl, items.length - (i + 1), by grind, i + 1, acc ++ [u], σ₅, hlt, rfl, ?_, q₅⟩)))
      rw [lst_snoc] at out₆
      have nI : D ∉ (innerFx f sc' Cl).own := fun hm => by
        rcases List.mem_cons.mp hm with e | hm
        · exact hDC e
        · obtain ⟨⟨y, ca⟩, hy, e⟩ := List.mem_map.mp hm
          exact nD.2.2 (.tail _ (List.mem_map.mpr ⟨(y, ca), mem_of_lookup (clF_sub hy), e⟩))
      have x₆ := x₅.but iok (k := s₅.toks) T₅.un out₅ (.inl (by simp)) nD.1 nD.2.1 nI sb₆
      have tk₆ : TupK s₅.heap h₆ := fun b ob e hcl _ => ⟨ob.slots, by rw [sb₆.2 b (fun q : b = D => by rw [q, out₅] at e; obtain rfl := Option.some.inj e; exact absurd hcl (by simp))]; exact e⟩
      refine ⟨⟨_, x₆, by rw [List.length_set, innerM_len]; unfold innerMp; rw [List.length_map]; exact NE.lt ht, fun v => by rw [List.set_set]⟩, itk.keep _ _ _ T₅.st (fun b hb o e => ?_) tk₆, T₅.kc.skipKB (KB.but sb₆) fun b hb => by rw [List.mem_singleton.mp hb]; exact hD,
        ⟨vs₅ ++ [cv], out₆, (rl₅.mono tk₆).append (.cons (r₅.mono tk₆) .nil)⟩, T₅.un⟩
      obtain ⟨o', vs', e', d'⟩ := itk.flds _ _ T₅.st b hb
      obtain rfl := inj2 e e'
      rw [sb₆.2 b (fun q : b = D => by rw [q, out₅] at e; obtain rfl := Option.some.inj e; cases d')]; exact e
  · have hi' : i = items.length := by lia
    subst hi'
    refine itk.done f.A (innerEnv f sc' Cl) (NE.of sc') m' σ' s' _ _ hA iok x' T.st (h2 _ _ _ hIv).1 fun s₁ x₁ kb₁ => wpAny_pure (hQ _ _ ?_)
    exact hR acc σ' s₁ ⟨m', x₁⟩ (T.kc.skipKB kb₁ hwr) ⟨vs, kb₁.at hfl hout (by simp), rl.mono (kb₁.tup hfl)⟩ T.un hIv
end
section
variable {f : Fx} {m : M} {σ σ' σ₁ : AS} {s s' : Shared} {sc sc' : Scope} {C : Cx}
theorem comp_core (fo : FO C f) (hA : f.A.handled = none) (so : ScOk sc sc') (ag : Agree sc f.env) (cov : ∀ x, sc.names.lookup x = some .cell → ∃ c, f.env.cells.lookup x = some c) {elt it : PySem.Expr} {ifs : List PySem.Expr} {t : Str} {tp pos p : Pos} {ti : Nat} {src : RI} {cnd : RO} {re : RE}
    (ht : (NE.of sc').lookup t = some ti) (htl : sc'.names.lookup t = some .local) (hs : ∀ x, foldedSetIterable it f.env x = pure x)
    (hsrc : SvOk C f (.Name t tp) it src) (hel : ∀ Cl, EvOk C (innerFx f sc' Cl) elt re) (hif : ∀ Cl, CdOk C (innerFx f sc' Cl) ifs cnd)
    {Q : PQ} {E : PXx} {E₀ : Value → Shared → Prop} {use : Option (Value → Sem Unit)} {Qc : Value → Shared → Prop}
    (x : FS f m σ s) (h : rev C (.comp (innerMp f.ne sc') src ti cnd re) m σ Q E) (xi : XI f m σ s.heap E E₀)
    (fin : ∀ D Cl σ' s' mm, FS f m σ' s' → Kc (frs f.l) [] σ σ' s.heap s'.heap → Q (.ref D) σ' → s'.heap.Ns Cl mm → σ' Cl = none → f.hB.get? Cl = none → Cl ∉ frs f.l → Cl ∉ f.own → s.heap.get? Cl = none → compPost (model f.prog f.w) f.A E₀ use Qc (.ref D) Cl (.ok .next) s') :
    wpAny (model f.prog f.w) f.A (comprehension (.ListComp elt [⟨.Name t tp, it, ifs, 0⟩] sc' pos) sc' f.env p (newList []) false (eval it f.env) use) Qc E₀ s := by
  refine wpAny_comprehension_free (g := ⟨.Name t tp, it, ifs, 0⟩) (gs := []) rfl hs (closure_is (inner_cell fo.ok so ag cov)) so.kind (fun y hy hl => ?_) ?_
  · obtain ⟨y, k⟩ := y
    rcases (so.names y k hy).2 with h | h | h
    · exact h.2
    · rw [h] at hl; cases hl
    · rw [h.1] at hl; cases hl
  refine wpAny_mono (hsrc x h xi) (fun cv s₁ h₁ => wpAny_mono (h₁ f.A _ hA) (fun iv s₂ h₂ => ?_) fun _ _ y => y) fun _ _ y => y
  obtain ⟨items, dep, σ₂, ⟨I, wr, St, rfl, itk, st, hwr, x₂, k₂, hdep⟩, Iv, hI0, hlen, hI2, hI3, hI4⟩ := h₂
  refine wpAny_newObj_type (wpAny_newFunctionEnv (fun y hy e => ?_) (by intro y hy; simp at hy) (fun h₃ hns₃ hsb₃ => ?_) so.kind) (by size_fits)
  · obtain ⟨y, k⟩ := y
    rcases (so.names y k hy).2 with h | h | h
    · rw [h.1] at e; cases e
    · rw [h] at e; cases e
    · rw [h.1] at e; cases e
  dsimp only at hns₃ hsb₃ ⊢
  generalize hH2 : s₂.heap.push { cls := .type "list", dict := none, data := .seq ([] : List Value).toArray } = H2 at hns₃ hsb₃ ⊢
  have hC : H2.objs.size = s₂.heap.objs.size + 1 := by rw [← hH2, Heap.size_push]
  have hDC : s₂.heap.objs.size ≠ H2.objs.size := by rw [hC]; exact Nat.ne_of_lt (Nat.lt_succ_self _)
  have old : ∀ b o, s₂.heap.get? b = some o → h₃.get? b = some o := fun b o e => by
    have hb := Heap.lt_size e
    exact hsb₃.extBut b o (fun q : b = H2.objs.size => by rw [q, hC] at hb; exact Nat.lt_irrefl _ (Nat.lt_of_succ_lt hb)) (Heap.get?_push_of_some _ (hH2 ▸ Heap.get?_push_of_some _ e))
  have hout : h₃.get? s₂.heap.objs.size = some (lst []) := hsb₃.extBut _ _ hDC (Heap.get?_push_of_some _ (hH2 ▸ Heap.get?_push_size _ rfl))
  have hD2 := get_size s₂.heap
  have hC2 : s₂.heap.get? H2.objs.size = none := Heap.get?_none_of_le (by rw [hC]; exact Nat.le_succ _)
  obtain ⟨x₃, k₃⟩ := x₂.grown fo.ok (k := s₂.toks + ([] : List (Str × Value)).length) old
  have nD := x₂.apart fo.ok hD2
  have nC := x₂.apart fo.ok hC2
  have so1 := x₂.fresh hD2
  have so2 := x₂.fresh hC2
  have kk := k₂.trans k₃
  have loop := comp_loop (pos := pos) (it := it) (tp := tp) (Iv := Iv) (Cl := H2.objs.size) fo so ag cov ht htl (hel _) (hif _) itk hA hlen hI2 hI3 hwr (k₂.fresh hD2) (k₂.fresh hC2) hDC nD
    (R := compPost (model f.prog f.w) f.A E₀ use Qc (.ref s₂.heap.objs.size) H2.objs.size) (fun acc σ' s' ⟨m', y⟩ kc ⟨vs, out, rl⟩ un hIv => ?_)
    (s₀ := { s₂ with heap := h₃, toks := s₂.toks + ([] : List (Str × Value)).length }) (σ₀ := σ₂) (acc₀ := [])
    ⟨⟨_, inner_FS x₃ fo.ok so ag hns₃ so2 nC.1, by rw [innerM_len]; unfold innerMp; rw [List.length_map]; exact NE.lt ht, fun _ => rfl⟩,
      itk.keep _ _ _ st (fun b _ o e => old b o e) (x₂.at_.tupK k₃), kk, ⟨[], hout, .nil⟩, so1⟩ hI0
  · exact codeAny_compStart_list loop (itk.self f.A 0 _ _ _ hA (itk.keep _ _ _ st (fun b _ o e => old b o e) (x₂.at_.tupK k₃)) loop)
  · have y' : FS f m σ' s' := x.next fo.ok kc y.at_.obj (y.at_.gens.trans x.at_.gens.symm) (y.at_.os.trans x.at_.os.symm)
    have hal := (hI2 _ _ _ hIv).2
    have z := y'.later fo.ok (ao := .list acc) (h' := s'.heap) (k := s'.toks) un out (by simp) nD.1 nD.2.1 nD.2.2 (.refl ..) fun _ => ⟨vs, ⟨vs.length, out⟩, rl, by have : seqMost = 1000000 := rfl; lia⟩
    obtain ⟨mm, hn, _⟩ := y.lo
    refine fin _ H2.objs.size _ s' mm z (kc.later (.refl ..) (k₂.fresh hD2)) (hI4 acc σ' hIv _ un (x₂.roN fo.cx.b _ hD2)) hn ?_ nC.1 nC.2.1 nC.2.2 (k₂.fresh hC2)
    rw [AS.set_ne σ' _ (Ne.symm hDC)]
    exact y.sL
theorem comp_arm (fo : FO C f) (hA : f.A.handled = none) (so : ScOk sc sc') (ag : Agree sc f.env) (cov : ∀ x, sc.names.lookup x = some .cell → ∃ c, f.env.cells.lookup x = some c) {elt it : PySem.Expr} {ifs : List PySem.Expr} {t : Str} {tp pos : Pos} {ti : Nat} {src : RI} {cnd : RO} {re : RE}
    (ht : (NE.of sc').lookup t = some ti) (htl : sc'.names.lookup t = some .local) (hs : ∀ x, foldedSetIterable it f.env x = pure x)
    (hsrc : SvOk C f (.Name t tp) it src) (hel : ∀ Cl, EvOk C (innerFx f sc' Cl) elt re) (hif : ∀ Cl, CdOk C (innerFx f sc' Cl) ifs cnd) :
    EvOk C f (.ListComp elt [⟨.Name t tp, it, ifs, 0⟩] sc' pos) (.comp (innerMp f.ne sc') src ti cnd re) := by
  intro m σ s Q E E₀ x h xi
  rw [eval_ListComp]
  refine comp_core (use := none) fo hA so ag cov ht htl hs hsrc hel hif x h xi fun D Cl σ' s' mm y kc q hn un hB hf ho h0 => ⟨mm, hn, fun h' sb => ?_⟩
  obtain ⟨o, es, ep, e, d, _⟩ := id hn
  exact ⟨.ref D, σ', y.but fo.ok (k := s'.toks) un e (.inr fun vs n q => by rw [d] at q; cases q) hB hf ho sb, .ref D, kc.skipKB (KB.but sb) fun b hb => by rw [List.mem_singleton.mp hb]; exact h0, q⟩
theorem rvd_paired {h : Heap} {F : Value → Value → Prop} {P : Nat → Value → Prop} {kvs : List (Int × Value)} {es : List (Int × V)} (rd : RvD h kvs es) : ∀ {vs ys : List Value} (n : Nat), vs.length = kvs.length → (∀ j v, vs[j]? = some v → P (n + j) v) → Paired F vs ys →
    (∀ j k y v z, kvs[j]? = some (k, y) → P (n + j) v → F v z → z = y) → RvL h ys (es.map (·.2)) := by
  induction rd with
  | nil => intro vs ys n e hP hF q; cases hF with
    | nil => exact .nil
    | cons _ _ => cases e
  | cons hv hl ih => intro vs ys n e hP hF q; cases hF with
    | nil => cases e
    | cons hF r =>
      obtain rfl := q 0 _ _ _ _ rfl (hP 0 _ rfl) hF
      exact .cons hv (ih (n + 1) (Nat.succ.inj e) (fun j v' h => by rw [Nat.add_right_comm]; exact hP (j + 1) v' h) r fun j k' y' v' z' h h' => q (j + 1) k' y' v' z' h (by rw [Nat.add_right_comm] at h'; exact h'))
theorem RvD.len {K : Type} {h : Heap} {kvs : List (K × Value)} {es : List (K × V)} (r : RvD h kvs es) : kvs.length = es.length := by
  induction r with
  | nil => rfl
  | cons _ _ ih => simp [ih]
theorem dvals_arm (fo : FO C f) (hA : f.A.handled = none) (so : ScOk sc sc') (ag : Agree sc f.env) (cov : ∀ x, sc.names.lookup x = some .cell → ∃ c, f.env.cells.lookup x = some c) {t d : Str} {p1 p2 p3 p4 tp pos : Pos} {ti di : Nat}
    (ht : (NE.of sc').lookup t = some ti) (htl : sc'.names.lookup t = some .local) (hd : f.ne.lookup d = some di) (hd1 : sc'.names.lookup d = some .free) (hd2 : sc.names.lookup d = some .cell) :
    EvOk C f (.ListComp (.Subscript (.Name d p1) (.Name t p2) p3) [⟨.Name t tp, .Name d p4, [], 0⟩] sc' pos) (.dvals di) := by
  intro m σ s Q E E₀ x h xi
  obtain ⟨o', hm, h⟩ := oS_inv h
  obtain ⟨v', rfl, h⟩ := oS_inv h
  obtain ⟨a, rfl, h⟩ := onRef_inv h
  obtain ⟨es, ha, hl, h⟩ := oDi_inv h
  obtain ⟨c, hc⟩ := cov d hd2
  have hkd := ag.c d hd2
  obtain ⟨o, ov, ec, dc, rc⟩ := x.ce d c (mem_of_lookup hc)
  obtain ⟨dcv, rfl, rdc⟩ := rc di (.ref a) hd (by rw [hkd]; simp) hm
  obtain rfl := rdc.refInv
  obtain ⟨kvs, hdo, rd⟩ := x.om ha
  have hks := rd.len
  obtain ⟨od, oes, ep, eo, r1, r2, r3, r4, r5⟩ := id hdo
  have hat : s.heap.DictAt (intKind f.prog f.w) a kvs ep := ⟨od, oes, eo, r1, r2, r3, r4, r5⟩
  have hne : a ≠ s.heap.objs.size := Nat.ne_of_lt (Heap.lt_size eo)
  have hdd := (fo.ok.ne d di hd).1
  have htd : (t == ("__debug__" : Str)) = false := by
    obtain ⟨k, hk, _⟩ := NE.mem ht
    exact (so.names t k hk).1
  refine wpAny_ListComp_free (p := fun _ => true) (F := fun v y => ∀ k z, (intKind f.prog f.w).is k v = true → valueAt kvs k = some z → y = z) (closure_is (inner_cell fo.ok so ag cov)) (fun y hy e => ?_) so.kind (fun y hy hl => ?_) htl
    (x.read fo.ok hd hm fun cv rv => ?_)
  · obtain ⟨y, k⟩ := y
    rcases (so.names y k hy).2 with h | h | h
    · rw [h.1] at e; cases e
    · rw [h] at e; cases e
    · rw [h.1] at e; cases e
  · obtain ⟨y, k⟩ := y
    rcases (so.names y k hy).2 with h | h | h
    · exact h.2
    · rw [h] at hl; cases hl
    · rw [h.1] at hl; cases hl
  obtain rfl := rv.refInv
  refine wpAny_pyIter_dict (x.noMods fo.ok ha) hat ⟨s.heap.objs.size, _, _, _, _, _, rfl, Walks.dictKeys (knd := intKind f.prog f.w) hA _ a hne kvs ep, seq_fits (by have : seqMost = 1000000 := rfl; lia), ⟨⟨_, Heap.get?_push_size _ rfl, rfl, rfl⟩, hat.at' fun o e => push_keep e⟩, fun b hb => ?_, ⟨?_, ?_⟩, ?_⟩
  · rw [push_size]
    rcases List.mem_cons.mp hb with rfl | hb
    · exact Nat.lt_succ_self _
    · rw [List.mem_singleton.mp hb]; exact Nat.lt_succ_of_lt (Heap.lt_size eo)
  · intro Cl i v s₃ m₃ E' _ _ _ _ _ _
    exact wpAny_tests_nil ⟨rfl, s₃.heap, s₃.toks, rfl, fun _ _ e => e⟩
  · intro Cl i v s₃ m₃ E' _ hP _ hn hmt keep _
    obtain ⟨k, z, hkv, his⟩ := hP
    have hcl : (clF f.env sc'.names []).lookup d = some c := by
      have hm := clF_has hc sc'.names [] (.inr (mem_of_lookup hd1))
      obtain ⟨c', hc'⟩ := lookup_of_mem hm
      have := clF_sub (mem_of_lookup hc')
      obtain rfl := inj2 hc this; exact hc'
    have hkd' : (innerEnv f sc' Cl).kindOf d = some .cell := by rw [inner_kind fo.ok, hd1]; simp [hkd]
    have hkt' : (innerEnv f sc' Cl).kindOf t = some .local := by rw [inner_kind fo.ok, htl]
    have up : ∀ b o, b ≠ s.heap.objs.size → s.heap.get? b = some o → s₃.heap.get? b = some o := fun b o hb e => keep b o (by simpa using hb) (push_keep e)
    have hcs : c ≠ s.heap.objs.size := Nat.ne_of_lt (Heap.lt_size ec)
    refine Subscript_ (wpAny_Name (wpAny_loadName_cell so.kind hkd' hcl ⟨o, up c o hcs ec, dc⟩ (wpAny_Name (wpAny_loadName_local so.kind hkt' hn hmt ?_) htd)) hdd)
    have hd3 : s₃.heap.DictOf (intKind f.prog f.w) a kvs := hdo.at fun o e => up a o hne e
    have hv := valueAt_of_get r5 hkv
    exact tail_any hd3.typeIs slot_dict_getitem.lookup (wpAny_getItem_of his hd3.mapOf hv ⟨fun k' z' h' hv' => by
      have := (intKind f.prog f.w).inj v k k' his h'
      subst this
      obtain rfl := inj2 hv hv'; rfl, s₃.heap, _, rfl, fun _ _ e => e⟩) (by rfl)
  · intro D h' tk ys vs hD hL hp hvl hP hF keep
    have up : ∀ b o, s.heap.get? b = some o → h'.get? b = some o := fun b o e => keep b o (by simpa using Nat.ne_of_lt (Heap.lt_size e)) (push_keep e)
    have hD0 : s.heap.get? D = none := by
      refine isN fun o q => ?_
      exact no2 hD (push_keep q)
    have hk : RvL s.heap ys.toList (es.map (·.2)) := by
      rw [List.filter_eq_self.mpr (fun _ _ => rfl)] at hF
      refine rvd_paired (P := fun i v => ∃ k x, kvs[i]? = some (k, x) ∧ (intKind f.prog f.w).is k v = true) rd 0 (by simpa using hvl) (fun j v e => by rw [Nat.zero_add]; exact hP j v e) hF fun j k y v z hj hv hf => ?_
      obtain ⟨k', x', hj', hi⟩ := hv
      rw [Nat.zero_add, hj] at hj'; cases hj'
      exact hf k y hi (valueAt_of_get r5 hj)
    have tk' : RvL h' ys.toList (es.map (·.2)) := hk.keeps up
    obtain ⟨x₁, k₁⟩ := x.grownA fo.ok (c := D) (ao := .list (es.map (·.2))) (k := tk) up hD0 ⟨ys.toList, by simpa using hp, tk', by rw [List.length_map]; have : seqMost = 1000000 := rfl; exact Nat.le_trans ‹_› (by decide)⟩
    exact ⟨.ref D, _, x₁, .ref D, k₁, h D (x.fresh hD0) (x.roN fo.cx.b _ hD0)⟩
end
structure Sur (C : Cx) (f : Fx) (sc : Scope) : Prop where
  fo : FO C f
  ag : Agree sc f.env
  cov : ∀ x, sc.names.lookup x = some .cell → ∃ c, f.env.cells.lookup x = some c
noncomputable def Plain (e : PySem.Expr) : Prop := (∀ env es, starEach (e :: es) env = (false, eval e env) :: starEach es env) ∧ (∀ o i, subscripted e false o i = operate [o, i] (getItem o i)) ∧ (match e with | .Starred .. => true | _ => false) = false
structure RecOk (C : Cx) (rec : CE) : Prop where
  e : ∀ {f : Fx} {sc : Scope} {e : PySem.Expr}, Sur C f sc → Y (rec f.ne sc e) fun r => EvOk C f e r ∧ TrOk C f e r
  p : ∀ {ne : NE} {sc : Scope} {e : PySem.Expr}, Y (rec ne sc e) fun _ => Plain e
structure LAll (C : Cx) (f : Fx) (es : List PySem.Expr) (l : RL) : Prop where
  v : LvOk C f es l
  a : AtOk C f es l
  o : OtOk C f es l
  av : AvOk C f es l
  ov : OrOk C f es l
section
variable {C : Cx} {n : Nat} {f : Fx} {sc : Scope} {rec : CE}
theorem notSet_fold {e : PySem.Expr} (h : notSet e = true) (env : Env) (x : Value) : foldedSetIterable e env x = pure x := by cases e <;> first | rfl | exact bft h
theorem cL_star {ne : NE} (ih : RecOk C rec) : ∀ {es : List PySem.Expr}, Y (cL rec ne sc es) fun _ => ∀ (env : Env) (pos : Pos), (backTo pos (starEach es env)).any (·.1) = false
  | [] => .so fun _ _ => rfl
  | e :: es => .bind fun a h1 => .map fun l h2 env pos => by rw [(ih.p a h1).1]; exact cL_star ih l h2 env pos
theorem list_ok (ih : RecOk C rec) (su : Sur C f sc) : ∀ {es : List PySem.Expr}, Y (cL rec f.ne sc es) (LAll C f es)
  | [] => .so ⟨lv_nil, fun _ _ _ _ _ _ _ _ h => False.elim h, fun _ _ _ _ _ _ _ _ h => False.elim h, fun _ _ _ _ _ _ _ _ h => False.elim h, fun _ _ _ _ _ _ _ _ h => False.elim h⟩
  | e :: es => .bind fun a h1 => .map fun l h2 => by
    have he := ih.e su a h1
    have L := list_ok ih su l h2
    have hl := RL.len_cL l h2
    have h0 := lv_cons (fun env => (ih.p a h1).1 env es) he.1 L.v
    cases es with
    | nil => cases l with
      | nil => exact ⟨h0, at_one he.2, ot_one he.2, av_one he.1, ov_one he.1⟩
      | cons a b => cases hl
    | cons e1 es =>
      have hn : l.len ≠ 0 := fun q => by rw [q] at hl; cases hl
      exact ⟨h0, at_cons hn he.2 L.a, ot_cons hn he.2 L.o, av_cons hn su.fo he.1 L.av, ov_cons hn su.fo he.1 L.ov⟩
theorem opt_y (ih : RecOk C rec) (su : Sur C f sc) {e : Option PySem.Expr} : Y (cO rec f.ne sc e) (OvOk C f e) := by
  cases e with
  | none => exact .so ov_none
  | some e => exact .map fun a h => ov_some (ih.e su a h).1
theorem ifs_y (ih : RecOk C rec) (su : Sur C f sc) {es : List PySem.Expr} : Y (cF rec f.ne sc es) (CdOk C f es) := by
  cases es with
  | nil => exact .so cd_none
  | cons e r => cases r with
    | nil => exact .map fun a h => cd_some (ih.e su a h).2
    | cons _ _ => exact .no
theorem cmp_y (ih : RecOk C rec) (su : Sur C f sc) {l : PySem.Expr} {ops : List CmpOp} {rs : List PySem.Expr} {pos : Pos} : Y (cCmp rec f.ne sc l ops rs) fun r => EvOk C f (.Compare l ops rs pos) r ∧ TrOk C f (.Compare l ops rs pos) r :=
  .ocase (fun _ => .two fun o₁ o₂ e => .two fun b c e' => .yes fun hs => .bind fun x h1 => .bind fun y h2 => .map fun z h3 => e ▸ e' ▸
      ⟨cmp2_arm su.fo (and2 hs).2 (ih.e su _ h1).1 (ih.e su _ h2).1 (ih.e su _ h3).1, cmp2_tr su.fo (and2 hs).2 (ih.e su _ h1).1 (ih.e su _ h2).1 (ih.e su _ h3).1⟩)
    fun o ho => .one fun b e => .yes fun hs => .bind fun x h1 => .map fun y h2 => one_inv ho ▸ e ▸ ⟨cmp_arm su.fo hs (ih.e su _ h1).1 (ih.e su _ h2).1, cmp_tr su.fo hs (ih.e su _ h1).1 (ih.e su _ h2).1⟩
theorem isM1_inv {e : PySem.Expr} (h : isM1 e = true) : ∃ k p q, e = .UnaryOp .USub (.Constant (.int 1) k p) q := by
  obtain ⟨x, h1, h2⟩ := obind (eq_of_beq h)
  obtain ⟨q, e1⟩ := asNeg_inv h1
  obtain ⟨k, p, e2⟩ := asConst_inv h2
  exact ⟨k, p, q, by rw [e1, e2]⟩
theorem sub_y (ih : RecOk C rec) (su : Sur C f sc) {v i : PySem.Expr} {pos : Pos} : Y (cSub rec f.ne sc v i) (EvOk C f (.Subscript v i pos)) :=
  .ocase (fun _ => .bind fun x h1 => .map fun y h2 => sub_arm su.fo (ih.p _ h2).2.1 (ih.e su _ h1).1 (ih.e su _ h2).1)
    fun w hw => by
      obtain ⟨lo, up, st⟩ := w
      obtain ⟨p, rfl⟩ := asSlice_inv hw
      cases st with
      | none => exact .bind fun x h1 => .bind fun y h2 => .map fun z h3 => sli_arm su.fo (ih.e su _ h1).1 (opt_y ih su _ h2) (opt_y ih su _ h3)
      | some s =>
        refine .yes fun hs => .map fun x h1 => ?_
        obtain ⟨k, q, p', rfl⟩ := isM1_inv (and2 hs).2
        rw [Option.isNone_iff_eq_none.mp (and2 (and2 hs).1).1, Option.isNone_iff_eq_none.mp (and2 (and2 hs).1).2]
        exact rev_arm su.fo (ih.e su _ h1).1
theorem tyName_inv {ne : NE} {e : PySem.Expr} {y : Str} (h : tyName ne sc e = some y) : ∃ p T, e = .Name y p ∧ isG ne sc y = true ∧ TyIs y T := by
  obtain ⟨x, h1, h2⟩ := obind h
  obtain ⟨h3, h4⟩ := oif h2
  obtain rfl := Option.some.inj h4
  obtain ⟨p, rfl⟩ := asName_inv h1
  simp only [Bool.and_eq_true, Bool.or_eq_true, beq_iff_eq] at h3
  rcases h3.2 with (h | h) | h
  · exact ⟨p, "int", rfl, h3.1, h, .inl rfl⟩
  · exact ⟨p, "str", rfl, h3.1, h, .inr (.inl rfl)⟩
  · exact ⟨p, "tuple", rfl, h3.1, h, .inr (.inr rfl)⟩
theorem isi_y (ih : RecOk C rec) (su : Sur C f sc) {e T : PySem.Expr} {p pos : Pos} (hg : isG f.ne sc (Str.ofString "isinstance") = true) {a : RE} (h1 : rec f.ne sc e = some a) :
    Y (tyNames f.ne sc T) fun ts => EvOk C f (.Call (.Name (Str.ofString "isinstance") p) [e, T] [] pos) (.isi a ts) :=
  .ocase (fun _ => .map fun y h3 => by
      obtain ⟨q, T', rfl, hy, hT⟩ := tyName_inv h3
      exact isi1_arm (p := q) su.fo (su.ag.isG hg) (su.ag.isG hy) hT (fun env es => (ih.p _ h1).1 env es) (ih.e su _ h1).1)
    fun l hl => .two fun x x' el => .bind fun y₁ h3 => .bind fun y₂ h4 => .so (by
      obtain ⟨k, q, rfl⟩ := asTuple_inv hl
      obtain ⟨q1, T1, e1, hy1, hT1⟩ := tyName_inv h3
      obtain ⟨q2, T2, e2, hy2, hT2⟩ := tyName_inv h4
      rw [el, show x = _ from e1, show x' = _ from e2]
      exact isi2_arm su.fo (su.ag.isG hg) (su.ag.isG hy1) (su.ag.isG hy2) hT1 hT2 (fun env es => (ih.p _ h1).1 env es) (ih.e su _ h1).1)
theorem call_y (ih : RecOk C rec) (su : Sur C f sc) {fe : PySem.Expr} {args : List PySem.Expr} {pos : Pos} : Y (cCall rec f.ne sc fe args pos) (EvOk C f (.Call fe args [] pos)) := by
  cases fe <;> first | exact .no | skip
  case Attribute o x apos =>
    exact .yes fun hc => .bind fun a h1 => .map fun l h2 => met_arm su.fo (and2 (and2 hc).1).1 (and2 (and2 hc).1).2 (of_decide_eq_true (and2 hc).2) (fun pos => cL_star ih l h2 f.env pos) (ih.e su _ h1).1 (list_ok ih su _ h2).v
  case Name g p =>
    refine .yes fun hc => .ite (fun e => .two fun a b el => .bind fun r h1 => .map fun ts h2 => ?_) fun _ => .ocase (fun _ => .map fun l h2 => ?_) fun k hk => .map fun l h2 => ?_
    · obtain rfl := eq_of_beq e
      rw [el]
      exact isi_y ih su (and2 hc).1 h1 ts h2
    · exact call_arm su.fo (su.ag.isG (and2 hc).1) (fun pos => cL_star ih l h2 f.env pos) (list_ok ih su _ h2).v
    · exact bi_arm su.fo (su.ag.isG (and2 hc).1) hk (fun pos => cL_star ih l h2 f.env pos) (list_ok ih su _ h2).v
theorem Sur.inner (su : Sur C f sc) {sc' : Scope} (so : ScOk sc sc') (Cl : Addr) : Sur C (innerFx f sc' Cl) sc' :=
  ⟨⟨inner_ok su.fo.ok so su.ag su.cov, su.fo.cx⟩, inner_agree su.fo.ok so, fun x h => by
    rcases (so.names x _ (mem_of_lookup h)).2 with q | q | q
    · cases q.1
    · cases q
    · cases q.1⟩
theorem iter_y (ih : RecOk C rec) (su : Sur C f sc) {e : PySem.Expr} {target : Tgt} : Y (cI rec f.ne sc e) fun r => (r.isEnm = true → ∃ elts k p, target = .Tuple elts k p) → SvOk C f target e r := by
  have gen : Y ((rec f.ne sc e).map RI.val) fun r => (r.isEnm = true → ∃ elts k p, target = .Tuple elts k p) → SvOk C f target e r := .map fun a h _ => val_src su.fo (ih.e su a h).1
  refine .ocase (fun _ => gen) fun c hc => .ite (fun e => .yes fun hg => .map fun a h _ => ?_) fun _ => .ite (fun e => .yes fun hg => .map fun a h hT => ?_) fun _ => gen
  · obtain ⟨p, q, rfl⟩ := callName1_inv hc
    exact rng_src su.fo (su.ag.isG hg) (eq_of_beq e) (fun env => (ih.p _ h).1 env []) (ih.e su _ h).1
  · obtain ⟨p, q, rfl⟩ := callName1_inv hc
    obtain ⟨elts, k, p, rfl⟩ := hT rfl
    exact enm_src su.fo (su.ag.isG hg) (eq_of_beq e) (fun env => (ih.p _ h).1 env []) (ih.e su _ h).1
theorem comp_parts {ne : NE} {elt : PySem.Expr} {gens : List Comprehension} {sc' : Scope} {P : RE → Prop}
    (k : ∀ t tp it ifs, gens = [⟨.Name t tp, it, ifs, 0⟩] → notSet it = true → ScOk sc sc' → sc'.names.lookup t = some .local →
      (∀ d i, dvOf sc sc' elt t it ifs = some d → ne.lookup d = some i → P (.dvals i)) ∧
      (∀ src i c re, dvOf sc sc' elt t it ifs = none → cI rec ne sc it = some src → src.isEnm = false → (NE.of sc').lookup t = some i → cF rec (NE.of sc') sc' ifs = some c → rec (NE.of sc') sc' elt = some re → P (.comp (innerMp ne sc') src i c re))) :
    Y (cComp rec ne sc elt gens sc') P :=
  .one fun g e => .bind fun t ht => .yes fun hc => by
    obtain ⟨tp, eg⟩ := asGen_inv ht
    obtain ⟨k1, k2⟩ := k t tp g.iter g.ifs (by rw [e, ← eg]) (and2 (and2 hc).1).1 (scOk_of (and2 (and2 hc).1).2) (eq_of_beq (and2 hc).2)
    exact .ocase (fun hd => .bind fun src h1 => .not fun he => .bind fun i h2 => .bind fun c h3 => .map fun re h4 => k2 _ _ _ _ hd h1 (eq_false_of_ne_true he) h2 h3 h4)
      fun d hd => .map fun i h1 => k1 _ _ hd h1
theorem dvOf_inv {sc' : Scope} {elt it : PySem.Expr} {t d : Str} {ifs : List PySem.Expr} (h : dvOf sc sc' elt t it ifs = some d) :
    ∃ p1 p2 p3 p4, elt = .Subscript (.Name d p1) (.Name t p2) p3 ∧ it = .Name d p4 ∧ ifs = [] ∧ sc'.names.lookup d = some .free ∧ sc.names.lookup d = some .cell := by
  obtain ⟨p, h1, h⟩ := obind h
  obtain ⟨d', h2, h⟩ := obind h
  obtain ⟨t', h3, h⟩ := obind h
  obtain ⟨d2, h4, h⟩ := obind h
  obtain ⟨hc, h⟩ := oif h
  obtain rfl := Option.some.inj h
  obtain ⟨p3, e1⟩ := asSub_inv h1
  obtain ⟨p1, e2⟩ := asName_inv h2
  obtain ⟨p2, e3⟩ := asName_inv h3
  obtain ⟨p4, e4⟩ := asName_inv h4
  have c1 := and2 hc
  have c2 := and2 c1.1
  have c3 := and2 c2.1
  have c4 := and2 c3.1
  exact ⟨p1, p2, p3, p4, by rw [e1, e2, e3, eq_of_beq c4.2], by rw [e4, eq_of_beq c4.1], List.isEmpty_iff.mp c3.2, eq_of_beq c2.2, eq_of_beq c1.2⟩
theorem ne_has {sc' : Scope} {t : Str} (h : sc'.names.lookup t = some .local) : ∃ i, (NE.of sc').lookup t = some i := by
  have hm : t ∈ neNames sc' := List.mem_filterMap.mpr ⟨(t, .local), mem_of_lookup h, rfl⟩
  have key : ∀ (l : List Str) (n : Nat), t ∈ l → ∃ i, (l.zipIdx n).lookup t = some i := by
    intro l
    induction l with
    | nil => intro n h; cases h
    | cons y r ih =>
      intro n hm
      rw [List.zipIdx_cons, List.lookup_cons]
      by_cases e : t = y
      · subst e; exact ⟨n, by simp⟩
      · rw [beq_false_of_ne e]
        rcases List.mem_cons.mp hm with h | h
        · exact absurd h e
        · exact ih (n + 1) h
  exact key _ 0 hm
theorem comp_y (ih : RecOk C rec) (su : Sur C f sc) {elt : PySem.Expr} {gens : List Comprehension} {sc' : Scope} {pos : Pos} : Y (cComp rec f.ne sc elt gens sc') (EvOk C f (.ListComp elt gens sc' pos)) :=
  comp_parts fun t tp it ifs eg hs so htl => by
    subst eg
    refine ⟨fun d i hd hi => ?_, fun src i c re hd h1 he h2 h3 h4 => ?_⟩
    · obtain ⟨p1, p2, p3, p4, rfl, rfl, rfl, hf, hc⟩ := dvOf_inv hd
      obtain ⟨ti, hti⟩ := ne_has htl
      exact fun m σ s Q E E₀ x h xi => dvals_arm su.fo x.at_.hd so su.ag su.cov hti htl hi hf hc x h xi
    · exact fun m σ s Q E E₀ x h xi => comp_arm su.fo x.at_.hd so su.ag su.cov h2 htl (fun y => notSet_fold hs _ y) (iter_y ih su _ h1 fun e => by rw [he] at e; exact bft e) (fun Cl => (ih.e (su.inner so Cl) _ h4).1) (fun Cl => ifs_y ih (su.inner so Cl) _ h3) x h xi
theorem cL_five {ne : NE} (ih : RecOk C rec) (su : Sur C f sc) {a b c d e : PySem.Expr} {P : RL → Prop}
    (k : ∀ a' b' c' d' e', EvOk C f a a' → EvOk C f b b' → EvOk C f c c' → EvOk C f d d' → EvOk C f e e' → P (.cons a' (.cons b' (.cons c' (.cons d' (.cons e' .nil)))))) : Y (cL rec f.ne sc [a, b, c, d, e]) P :=
  .bind fun a' h1 => .map fun _ h => Y.bind (P := fun l => P (.cons a' l)) (fun b' h2 => .map fun _ h => Y.bind (P := fun l => P (.cons a' (.cons b' l))) (fun c' h3 => .map fun _ h =>
    Y.bind (P := fun l => P (.cons a' (.cons b' (.cons c' l)))) (fun d' h4 => .map fun _ h => Y.bind (P := fun l => P (.cons a' (.cons b' (.cons c' (.cons d' l))))) (fun e' h5 => .map fun _ h =>
      Y.so (P := fun l => P (.cons a' (.cons b' (.cons c' (.cons d' (.cons e' l)))))) (k _ _ _ _ _ (ih.e su _ h1).1 (ih.e su _ h2).1 (ih.e su _ h3).1 (ih.e su _ h4).1 (ih.e su _ h5).1) _ h) _ h) _ h) _ h) _ h
theorem dict_y (ih : RecOk C rec) (su : Sur C f sc) {ks : List (Option PySem.Expr)} {vs : List PySem.Expr} {pos : Pos} : Y (cD rec f.ne sc ks vs) (EvOk C f (.Dict ks vs pos)) := by
  refine .ocase (fun _ => ?_) fun k hk => .one fun v ev => .bind fun c hc => ?_
  · rcases ks with _ | ⟨a, _ | ⟨b, _ | ⟨c, _ | ⟨d, _ | ⟨e, _ | ⟨g, r⟩⟩⟩⟩⟩⟩ <;> first | exact .no | skip
    refine .bind fun a' k1 => .bind fun b' k2 => .bind fun c' k3 => .bind fun d' k4 => .bind fun e' k5 => .yes fun hn => ?_
    have hl : vs.length = 5 := eq_of_beq (and2 hn).2
    rcases vs with _ | ⟨v1, _ | ⟨v2, _ | ⟨v3, _ | ⟨v4, _ | ⟨v5, _ | ⟨g, r⟩⟩⟩⟩⟩⟩ <;> first | (cases hl; done) | skip
    exact .map fun l h => cL_five (ne := f.ne) ih su (P := fun l => EvOk C f (.Dict [a, b, c, d, e] [v1, v2, v3, v4, v5] pos) (.ds5 a' b' c' d' e' l)) (fun _ _ _ _ _ e1 e2 e3 e4 e5 => ds5_arm su.fo k1 k2 k3 k4 k5 (of_decide_eq_true (and2 hn).1) e1 e2 e3 e4 e5) l h
  · obtain rfl := one_inv hk
    subst ev
    obtain ⟨e, rfl, h1⟩ := obind hc
    obtain ⟨_, _, rfl⟩ := asConst_inv h1
    cases c <;> first | exact .no | skip
    · exact .map fun a h => di1_arm su.fo (ih.e su _ h).1
    · exact .yes fun _ => .map fun a h => ds1_arm su.fo (ih.e su _ h).1
theorem step_y (ih : RecOk C rec) (su : Sur C f sc) {e : PySem.Expr} : Y (stepE rec f.ne sc e) fun r => EvOk C f e r ∧ TrOk C f e r := by
  have val : ∀ {r : RE}, isTrue e f.env (eval e f.env) = (do let v ← eval e f.env; standAt e.pos; holding [v] (truthy v)) → EvOk C f e r → EvOk C f e r ∧ TrOk C f e r := fun h2 h1 => ⟨h1, val_tr su.fo h1 h2⟩
  cases e <;> first | exact .no | skip
  case BoolOp op vs pos =>
    cases op
    · exact .map fun l h => ⟨and_arm (list_ok ih su _ h).av, and_tr (list_ok ih su _ h).a⟩
    · exact .map fun l h => ⟨or_arm (list_ok ih su _ h).ov, or_tr (list_ok ih su _ h).o⟩
  case BinOp a op b pos => exact .bind fun x h1 => .map fun y h2 => val rfl (bin_arm su.fo (ih.e su _ h1).1 (ih.e su _ h2).1)
  case UnaryOp op x pos =>
    cases op <;> first | exact .no | skip
    · exact .map fun y h => ⟨not_arm su.fo (ih.e su _ h).1, not_tr (ih.e su _ h).2⟩
    · exact .map fun y h => val rfl (neg_arm su.fo (ih.e su _ h).1)
  case IfExp a b c pos => exact .bind fun x h1 => .bind fun y h2 => .map fun z h3 => ⟨ife_arm (ih.e su _ h1).2 (ih.e su _ h2).1 (ih.e su _ h3).1, ife_tr (ih.e su _ h1).2 (ih.e su _ h2).2 (ih.e su _ h3).2⟩
  case Dict ks vs pos => exact fun r h => val rfl (dict_y ih su r h)
  case ListComp elt gens sc' pos => exact fun r h => val rfl (comp_y ih su r h)
  case Compare a ops rs pos => exact cmp_y ih su
  case Call fe args kw pos => exact .yes fun hk => fun r h => by rw [List.isEmpty_iff.mp hk] at val ⊢; exact val rfl (call_y ih su r h)
  case Constant c k pos => exact fun r h => val rfl (const_arm su.fo r h)
  case Attribute o y pos => exact .yes fun hb => .map fun x h => val rfl (att_arm su.fo hb (ih.e su _ h).1)
  case Subscript o i pos => exact fun r h => val rfl (sub_y ih su r h)
  case Name y pos =>
    exact .ocase (fun q => .yes fun hg => fun r h => val rfl (name_arm su.fo r (by unfold cN; rw [q]; show (if _ then _ else _) = _; rw [su.ag.isG hg]; exact h))) fun i hi r h => val rfl (name_arm su.fo r (by unfold cN; rw [hi]; exact h))
  case List es pos => exact .yes fun hl => .map fun l h => val rfl (lst_arm su.fo hl (RL.len_cL l h) (list_ok ih su _ h).v)
  case Tuple es k pos => exact .yes fun hl => .map fun l h => val rfl (tup_arm su.fo hl (RL.len_cL l h) (list_ok ih su _ h).v)
theorem step_p {ne : NE} {e : PySem.Expr} : Y (stepE rec ne sc e) fun _ => Plain e := by
  cases e <;> first | exact .no | exact fun _ _ => ⟨fun _ _ => rfl, fun _ _ => rfl, rfl⟩
theorem okn (C : Cx) : ∀ n, RecOk C (cE n)
  | 0 => ⟨fun _ => .no, .no⟩
  | n + 1 => ⟨fun su => step_y (okn C n) su, step_p⟩
end
structure Home (f : Fx) : Prop where
  at_ : ∃ L outer, f.env.frame = some L ∧ f.l = f.env :: outer
noncomputable def Own (f : Fx) (fl : Value) : Prop := fl = .none ∨ ∃ L, f.env.frame = some L ∧ fl = rawInt L
noncomputable def XS (f : Fx) (σ : AS) (h : Heap) (x : Exn) (m : M) (σ' : AS) (ev : Value) (s' : Shared) : Prop := ∃ e fl, ev = .ref e ∧ Own f fl ∧ XG f m σ σ' h x fl e s'
noncomputable def XIs (f : Fx) (σ : AS) (h : Heap) (Ex : Exn → M → AS → Prop) (E₀ : Value → Shared → Prop) : Prop := ∀ m σ' s' x ev, XS f σ h x m σ' ev s' → Ex x m σ' → E₀ ev s'
section
variable {M : Model} {A : Around} {E : Value → Shared → Prop} {s : Shared}
theorem flight_some {e K dx L : Addr} {X Fs : List Addr} {fl : Value} {Q : Unit → Shared → Prop} (hx : Fly s.heap e K dx X fl) (hL : fl = rawInt L) (h : ∀ h', Fly h' e K dx X fl → Kc Fs X noA noA s.heap h' → Q () { s with heap := h' }) :
    wpAny M A (do
      if (← field (.ref e) 1) == .none then unsupported "frame.own-activation:exception-without-traceback"
      setFlight (.ref e) (some L)) Q E s := by
  subst hL
  rcases hx with ⟨_, _, hx⟩ | ⟨T, rfl, hTe, hx, ⟨o, ts, hT, hdT, h3⟩⟩
  · exact absurd hx (by simp [rawInt])
  · obtain ⟨sl, vs, he, h1⟩ := id hx
    have other : ∀ b, b ≠ T → (s.heap.update T (Obj.mapFields (·.setIfInBounds 3 (rawInt L)))).get? b = s.heap.get? b := fun b hb => Heap.get?_update_other _ _ (Ne.symm hb)
    have hsz : 3 < ts.size := (Array.getElem?_eq_some_iff.mp h3).1
    have self : (s.heap.update T (Obj.mapFields (·.setIfInBounds 3 (rawInt L)))).get? T = some (o.mapFields (·.setIfInBounds 3 (rawInt L))) := Heap.get?_update_self _ hT (Obj.isFreed_of_fields (Obj.data_mapFields hdT _))
    refine wpAny_bind (wpAny_field he rfl h1 ?_)
    rw [if_neg (show ¬ ((Value.ref T == Value.none) = true) from by simp)]
    unfold setFlight
    refine wpAny_bind (wpAny_field he rfl h1 ?_)
    rw [if_pos (show (Value.ref T != Value.none) = true from by simp)]
    refine wpAny_setField hT hdT hsz (h _ (.inr ⟨T, rfl, hTe, ⟨sl, vs, (other e (Ne.symm hTe)).trans he, h1⟩, ⟨_, _, self, Obj.data_mapFields hdT _, by simp [hsz]⟩⟩) ?_)
    exact ⟨fun b o hb _ _ hX => (other b fun q => hX (q ▸ .tail _ (.head _))).trans hb, fun b o hb _ hX => ⟨o.slots, (other b fun q => hX (q ▸ .tail _ (.head _))).trans hb⟩, fun _ _ _ _ => rfl,
      fun b o hb => by
        by_cases q : b = T
        · subst q; exact ⟨_, self⟩
        · exact ⟨o, (other b q).trans hb⟩⟩
end
section
variable {f : Fx} {m : M} {σ σ' σ₁ : AS} {s s' : Shared} {h h₁ : Heap} {C : Cx} {A : Around}
theorem XG.note' {x : Exn} {e : Addr} {fl : Value} {E : Value → Shared → Prop} {Q : Unit → Shared → Prop} (g : XG f m σ σ' h x fl e s) (hf : Own f fl) (ok : f.Ok) (hA : A.frames = some f.l) (hm : Home f) {L : Addr} (hL : f.env.frame = some L)
    (q : ∀ s', XG f m σ σ' h x (rawInt L) e s' → Q () s') : wpAny (model f.prog f.w) A (noteFrame (.ref e) f.env) Q E s := by
  obtain ⟨L', outer, hL', hl⟩ := hm.at_
  rcases hf with rfl | ⟨L'', e1, rfl⟩
  · exact g.note ok hA hl hL q
  · obtain rfl := inj2 hL e1
    obtain ⟨dx, X, fly, r⟩ := g.ex
    exact note_again hL fly (q s g)
theorem XG.own {x : Exn} {e L : Addr} {E : Value → Shared → Prop} {Q : Unit → Shared → Prop} (g : XG f m σ σ' h x (rawInt L) e s) (ok : f.Ok) (hL : f.env.frame = some L) (q : ∀ s', XG f m σ σ' h x (rawInt L) e s' → Q () s') :
    wpAny (model f.prog f.w) A (do
      if (← field (.ref e) 1) == .none then unsupported "frame.own-activation:exception-without-traceback"
      setFlight (.ref e) f.env.frame) Q E s := by
  obtain ⟨dx, X, fly, hX, hdx, h1⟩ := g.ex
  rw [hL]
  refine flight_some (Fs := frs f.l) fly rfl fun h' hF hK => q _ ?_
  exact ⟨g.fs.fields ok hK fly.fields fun b hb => (hX b (.tail _ hb)).2.2, g.kc.skip hK fun b hb => (hX b (.tail _ hb)).2.1, dx, _, hF, hX, hdx, h1.keep hK hdx fly.fields⟩
theorem XS.back {x : Exn} {ev : Value} {E : Value → Shared → Prop} (g : XS f σ h x m σ' ev s) (ok : f.Ok) (hm : Home f) (q : ∀ s', XS f σ h x m σ' ev s' → E ev s') : notedBy (model f.prog f.w) f.A f.env (cameBackBy (model f.prog f.w) f.A f.env E) ev s := by
  obtain ⟨e, fl, rfl, hf, g⟩ := g
  obtain ⟨L, outer, hL, hl⟩ := id hm.at_
  refine g.note' hf ok ok.fr hm hL fun s₁ g₁ => ?_
  exact g₁.own ok hL fun s₂ g₂ => q s₂ ⟨e, _, rfl, .inr ⟨L, hL, rfl⟩, g₂⟩
theorem XIs.lift {Ex : Exn → M → AS → Prop} {E₀ : Value → Shared → Prop} (x : XIs f σ h Ex E₀) (c : Kc (frs f.l) f.own σ σ₁ h h₁) : XIs f σ₁ h₁ Ex E₀ := fun m' σ' s' y ev ⟨e, fl, hv, hf, g⟩ hE => by
  refine x m' σ' s' y ev ⟨e, fl, hv, hf, g.fs, c.trans g.kc, ?_⟩ hE
  obtain ⟨dx, X, fly, hX, r⟩ := g.ex
  refine ⟨dx, X, fly, fun b hb => ⟨(hX b hb).1, c.fresh (hX b hb).2.1, (hX b hb).2.2⟩, r⟩
theorem XIs.go {Ex : Exn → M → AS → Prop} {E₀ : Value → Shared → Prop} (x : XIs f σ h Ex E₀) (c : Kc (frs f.l) [] σ σ₁ h h₁) : XIs f σ₁ h₁ Ex E₀ := x.lift (c.mono (by simp))
theorem XIs.e {Ex : Exn → M → AS → Prop} {E₀ : Value → Shared → Prop} (x : XIs f σ h Ex E₀) (m : M) : XI f m σ h (fun y σ' => Ex y m σ') E₀ := fun σ' s' y ev ⟨e, hv, g⟩ hE => x m σ' s' y ev ⟨e, _, hv, .inl rfl, g⟩ hE
theorem XIs.loop {Ex : Exn → M → AS → Prop} {E₀ : Value → Shared → Prop} (x : XIs f σ h Ex E₀) (ok : f.Ok) (hm : Home f) : XIs f σ h Ex (notedBy (model f.prog f.w) f.A f.env (cameBackBy (model f.prog f.w) f.A f.env E₀)) :=
  fun m' σ' s' y ev g hE => g.back ok hm fun s'' g' => x m' σ' s'' y ev g' hE
noncomputable def PF (f : Fx) (σ : AS) (h : Heap) (P : Post) : Flow → Shared → Prop
  | .next, s' => ∃ m' σ', FS f m' σ' s' ∧ Kc (frs f.l) f.own σ σ' h s'.heap ∧ P.n m' σ'
  | .cont, s' => ∃ m' σ', FS f m' σ' s' ∧ Kc (frs f.l) f.own σ σ' h s'.heap ∧ P.c m' σ'
  | .brk, _ => False
  | .ret cv, s' => ∃ v m' σ', FS f m' σ' s' ∧ Rv s'.heap cv v ∧ Kc (frs f.l) f.own σ σ' h s'.heap ∧ P.r v σ'
theorem PF.lift {P : Post} {fl : Flow} (c : Kc (frs f.l) f.own σ σ₁ h h₁) (p : PF f σ₁ h₁ P fl s') : PF f σ h P fl s' := by
  cases fl with
  | next => obtain ⟨m', σ', a, b, d⟩ := p; exact ⟨m', σ', a, c.trans b, d⟩
  | cont => obtain ⟨m', σ', a, b, d⟩ := p; exact ⟨m', σ', a, c.trans b, d⟩
  | brk => exact p
  | ret cv => obtain ⟨v, m', σ', a, r, b, d⟩ := p; exact ⟨v, m', σ', a, r, c.trans b, d⟩
theorem Kc.own {X : List Addr} (c : Kc (frs f.l) [] σ σ' h h₁) : Kc (frs f.l) X σ σ' h h₁ := c.mono (by simp)
noncomputable def StOk (C : Cx) (f : Fx) (st : Stmt) (r : RS) : Prop := ∀ ⦃m : M⦄ ⦃σ : AS⦄ ⦃s : Shared⦄ ⦃P : Post⦄ ⦃E₀ : Value → Shared → Prop⦄, FS f m σ s → rst C r m σ P → XIs f σ s.heap P.x E₀ →
  wpAny (model f.prog f.w) f.A (exec st f.env) (PF f σ s.heap P) E₀ s
noncomputable def PsOk (C : Cx) (f : Fx) (ss : List Stmt) (r : RP) : Prop := ∀ ⦃m : M⦄ ⦃σ : AS⦄ ⦃s : Shared⦄ ⦃P : Post⦄ ⦃E₀ : Value → Shared → Prop⦄, FS f m σ s → rsts C r m σ P → XIs f σ s.heap P.x E₀ →
  wpAny (model f.prog f.w) f.A (execs ss f.env) (PF f σ s.heap P) E₀ s
theorem ps_nil : PsOk C f [] .nil := by
  intro m σ s P E₀ x h xi
  exact wpAny_execs_nil ⟨m, σ, x, Kc.refl, h⟩
theorem ps_cons {st : Stmt} {ss : List Stmt} {r : RS} {rs : RP} (h1 : StOk C f st r) (h2 : PsOk C f ss rs) : PsOk C f (st :: ss) (.cons r rs) := by
  intro m σ s P E₀ x h xi
  refine wpAny_execs_cons (wpAny_mono (h1 x h xi) (fun fl s₁ p => ?_) fun _ _ y => y)
  cases fl with
  | next => obtain ⟨m', σ', x₁, k₁, h₁⟩ := p; exact wpAny_mono (h2 x₁ h₁ (xi.lift k₁)) (fun _ _ q => q.lift k₁) fun _ _ y => y
  | cont => exact p
  | brk => exact p
  | ret cv => exact p
variable {e e₁ e₂ e₃ : PySem.Expr} {r r₁ r₂ r₃ : RE} {pos : Pos}
theorem noSwap (h : isComp e = false) (t : Option PySem.Expr) (line : Nat) : swapsWith e t line f.env = pure false := by cases e <;> first | rfl | exact btf h
theorem noPrint (ok : f.Ok) : interactive f.env = false := by unfold interactive; rw [ok.kind]; rfl
theorem exp_st (fo : FO C f) (hc : isComp e = false) (h1 : EvOk C f e r) : StOk C f (.Expr e pos) (.exp r) := by
  intro m σ s P E₀ x h xi
  refine wpAny_Expr_any (wpAny_mono (h1 x h (xi.e m)) (fun cv s₁ p => p.elim fun v σ₁ x₁ _ k₁ h₁ => ?_) fun _ _ y => y) (noPrint fo.ok) (noSwap hc _ _)
  exact ⟨m, σ₁, x₁, k₁.own, h₁⟩
theorem setl_st (fo : FO C f) {y : Str} {p : Pos} {i : Nat} (hc : isComp e = false) (hi : f.ne.lookup y = some i) (hf : f.env.kindOf y ≠ some .free) (h1 : EvOk C f e r) : StOk C f (.Assign [.Name y p] e pos) (.setl i r) := by
  intro m σ s P E₀ x h xi
  rw [exec_Assign_Name _ _ _ _ _ (noSwap hc _ _)]
  refine wpAny_bind (wpAny_standAt (wpAny_bind (wpAny_mono (h1 x h (xi.e m)) (fun cv s₁ p => p.elim fun v σ₁ x₁ rv k₁ h₁ => ?_) fun _ _ y => y)))
  refine wpAny_bind (wpAny_standAt (wpAny_bind (wpAny_bindName (x₁.store fo.ok hi hf (of_decide_eq_true (onC_inv h₁).1) rv fun s₂ x₂ k₂ _ => wpAny_pure ?_))))
  exact ⟨_, σ₁, x₂, k₁.own.trans k₂, (onC_inv h₁).2⟩
theorem assign2 (x : FS f m σ s) (fo : FO C f) {y z : Str} {p q tp : Pos} {k i j : Nat} {cv : Value} {a b : V} (hA : A.handled = none) (hi : f.ne.lookup y = some i) (hf : f.env.kindOf y ≠ some .free) (hj : f.ne.lookup z = some j) (hg : f.env.kindOf z ≠ some .free) (rv : Rv s.heap cv (.tup [a, b]))
    (hi' : i < m.length) (hj' : j < m.length) {E : Value → Shared → Prop} {Q : Unit → Shared → Prop} (h : ∀ s', FS f ((m.set i (some a)).set j (some b)) σ s' → Kc (frs f.l) f.own σ σ s.heap s'.heap → Q () s') :
    wpAny (model f.prog f.w) A (assign (.Tuple [.Name y p, .Name z q] k tp) f.env cv) Q E s := by
  cases rv with
  | tup ho hd hdt hl hz =>
  rename_i t o n vs
  obtain ⟨va, vb, rfl, ra, rb⟩ : ∃ va vb, vs = [va, vb] ∧ Rv s.heap va a ∧ Rv s.heap vb b := by
    cases hl with
    | cons ha hl => cases hl with
      | cons hb hl => cases hl; exact ⟨_, _, rfl, ha, hb⟩
  rw [arm_assign_Tuple]
  refine wpAny_bind (wpAny_standAt ?_)
  refine wpAny_unpack_tuple (items := [va, vb].toArray) hA ⟨o, ho, hd, n, hdt⟩ rfl rfl fun h' hext => ?_
  have kp : ∀ b o, s.heap.get? b = some o → h'.get? b = some o := fun b o e => hext b o (Nat.ne_of_lt (Heap.lt_size e)) e
  obtain ⟨x₂, k₂⟩ := x.grown fo.ok (k := s.toks) kp
  show wpAny _ _ (do holding [vb] (assign (.Name y p) f.env va); assignInOrder [assign (.Name z q) f.env] [vb]) _ _ _
  refine wpAny_bind (wpAny_holding (wpAny_assign_Name (x₂.store fo.ok hi hf hi' (ra.keeps kp) fun s₃ x₃ k₃ _ => ?_)))
  show wpAny _ _ (do holding [] (assign (.Name z q) f.env vb); assignInOrder [] []) _ _ _
  refine wpAny_bind (wpAny_holding (wpAny_assign_Name (x₃.store fo.ok hj hg (by rw [List.length_set]; exact hj') ((rb.keeps kp).mono (x₂.tupKX k₃)) fun s₄ x₄ k₄ _ => wpAny_pure ?_)))
  exact h _ x₄ ((k₂.own.trans k₃).trans k₄)
theorem set2_st (fo : FO C f) {y z : Str} {p q tp : Pos} {k i j : Nat} (hc : isComp e = false) (hw : isTuple e = false) (hi : f.ne.lookup y = some i) (hf : f.env.kindOf y ≠ some .free) (hj : f.ne.lookup z = some j) (hg : f.env.kindOf z ≠ some .free) (h1 : EvOk C f e r) :
    StOk C f (.Assign [.Tuple [.Name y p, .Name z q] k tp] e pos) (.set2 i j r) := by
  intro m σ s P E₀ x h xi
  refine Assign_Tuple (wpAny_mono (h1 x h (xi.e m)) (fun cv s₁ pe => pe.elim fun v σ₁ x₁ rv k₁ h₁ => ?_) fun _ _ y => y) (noSwap (f := f) hc (some (.Tuple [.Name y p, .Name z q] k tp)) pos.line) (by cases e <;> first | rfl | exact btf hw)
  obtain ⟨l, rfl, h₁⟩ := onTup_inv h₁
  obtain ⟨a, b, rfl, h₁⟩ := on2_inv h₁
  obtain ⟨hb, hP⟩ := onC_inv h₁
  obtain ⟨hi', hj'⟩ := and2 hb
  replace hi' := of_decide_eq_true hi'
  replace hj' := of_decide_eq_true hj'
  exact assign2 x₁ fo x₁.at_.hd hi hf hj hg rv hi' hj' fun s₂ x₂ k₂ => ⟨_, σ₁, x₂, k₁.own.trans k₂, hP⟩
theorem if_st (h1 : TrOk C f e r) {b o : List Stmt} {rb ro : RP} (h2 : PsOk C f b rb) (h3 : PsOk C f o ro) : StOk C f (.If e b o pos) (.ife r rb ro) := by
  intro m σ s P E₀ x h xi
  refine wpAny_If (wpAny_mono (h1 x h (fun _ _ h => h) (xi.e m)) (fun b s₁ p => p.elim fun σ₁ x₁ k₁ h₁ => ?_) fun _ _ y => y)
  cases b with
  | true => exact wpAny_mono (h2 x₁ h₁ (xi.go k₁)) (fun _ _ p => p.lift k₁.own) fun _ _ y => y
  | false => exact wpAny_mono (h3 x₁ h₁ (xi.go k₁)) (fun _ _ p => p.lift k₁.own) fun _ _ y => y
theorem ret_st (h1 : EvOk C f e r) : StOk C f (.Return (some e) pos) (.ret r) := by
  intro m σ s P E₀ x h xi
  exact wpAny_Return_some (wpAny_mono (h1 x h (xi.e m)) (fun cv s₁ p => p.elim fun v σ₁ x₁ rv k₁ h₁ => ⟨v, m, σ₁, x₁, rv, k₁.own, h₁⟩) fun _ _ y => y)
theorem cont_st : StOk C f (.Continue pos) .cont := by
  intro m σ s P E₀ x h xi
  exact wpAny_Continue ⟨m, σ, x, Kc.refl, h⟩
theorem seta_st (fo : FO C f) {y : Str} {p : Pos} (hc : isComp e = false) (h1 : EvOk C f e r) (h2 : EvOk C f e₁ r₁) : StOk C f (.Assign [.Attribute e₁ y p] e pos) (.seta r₁ y r) := by
  intro m σ s P E₀ x h xi
  refine plainObj_wpAny_Assign_Attribute (wpAny_mono (h1 x h (xi.e m)) (fun cv s₁ p => p.elim fun v σ₁ x₁ rv k₁ h₁ => ?_) fun _ _ y => y) (noSwap hc _ _)
  refine wpAny_mono (h2 x₁ h₁ ((xi.go k₁).e m)) (fun ov s₂ p => p.elim fun w σ₂ x₂ rw₂ k₂ h₂ => ?_) fun _ _ y => y
  obtain ⟨a, rfl, h₂⟩ := onRef_inv h₂
  obtain ⟨K, dx, ha, h₂⟩ := oI_inv h₂
  obtain ⟨hF, h₂⟩ := onB_inv h₂
  obtain ⟨fs, hd, hl, hP⟩ := oF_inv h₂
  obtain rfl := rw₂.refInv
  exact seta_ok x₂ fo.ok fo.cx.k ha hF hd hl (rv.mono (x₁.tk k₂)) fun s₃ x₃ k₃ => ⟨m, _, x₃, ((k₁.trans k₂).trans k₃).own, hP⟩
end
section
variable {f : Fx} {m : M} {σ σ' σ₁ : AS} {s s' : Shared} {h h₁ : Heap} {C : Cx} {A : Around} {sc : Scope}
variable {e e₁ e₂ e₃ : PySem.Expr} {r r₁ r₂ r₃ : RE} {pos : Pos}
theorem setItem_at {prog : Program} {w : World} {l : Addr} {items : Array Value} {n : Nat} {k : Int} {t : Tok} {v : Value} {E : Value → Shared → Prop} {Q : Unit → Shared → Prop} (ho : s.heap.get? l = some { cls := .type "list", data := .seq items n })
    (h0 : 0 ≤ k) (hfit : k < 2 ^ 63) (hn : k < items.size) (hQ : Q () { s with heap := s.heap.update l (Obj.mapSeq (·.setIfInBounds k.toNat v)) }) : wpAny (model prog w) A (setItem (.ref l) (.int k t) v) Q E s := by
  have hl : s.heap.IsList l items := ⟨_, ho, rfl, n, rfl⟩
  unfold setItem
  try with_reducible refine wpAny_holding ?_
  first | refine wpAny_bind (wpAny_pure ?_) | skip
  refine wpAny_bind (wpAny_sequenceKey hl.typeIs (by decide) ?_)
  refine wpAny_bind (wpAny_callSpecial?_slot (name := Str.ofString "__setitem__") hl.typeIs slot_list_setitem (wpAny_call_entry slot_list_setitem hl.typeIs entry_list_setitem ?_ (args_list_setitem _ _ _)))
  show wpAny _ _ (Builtin.List.listSubscript? (.int k t) >>= _) _ _ s
  refine wpAny_bind (wpAny_listSubscript_int (fitsIndex_of h0 hfit) ?_)
  clear hfit
  obtain ⟨j, rfl⟩ := Int.eq_ofNat_of_zero_le h0
  have hj : j < items.size := by lia
  show wpAny _ _ ((seqItemAt l j >>= fun r => pure (r.map (j, ·))) >>= _) _ _ s
  refine wpAny_bind (wpAny_bind (wpAny_seqItemAt ho rfl (wpAny_pure ?_)))
  rw [Array.getElem?_eq_getElem hj]
  show wpAny _ _ (setSeqItemAt l j v >>= _) _ _ s
  refine wpAny_bind (wpAny_setSeqItemAt ho rfl ?_)
  first
    | exact wpAny_bind (wpAny_pure (wpAny_pure ⟨.none, rfl, wpAny_pure hQ⟩))
    | exact wpAny_pure ⟨.none, rfl, wpAny_pure hQ⟩
theorem map_off {K : Type} [DecidableEq K] {k : K} {cv : Value} {kvs : List (K × Value)} : k ∉ kvs.map (·.1) → kvs.map (fun kv => if kv.1 = k then (kv.1, cv) else kv) = kvs := by
  induction kvs with
  | nil => exact fun _ => rfl
  | cons a r ih => exact fun h => by rw [List.map_cons, ih fun q => h (.tail _ q), if_neg fun e : a.1 = k => h (by rw [← e]; exact .head _)]
theorem RvD.put {K : Type} [DecidableEq K] {h : Heap} (k : K) {cv : Value} {v : V} (hv : Rv h cv v) {kvs : List (K × Value)} {es : List (K × V)} (hn : (kvs.map (·.1)).Nodup) (r : RvD h kvs es) : RvD h (stored kvs k cv) (Mine.put es k v) := by
  induction r with
  | nil => exact .cons hv .nil
  | @cons k' c' y kvs es hy hl ih =>
    have hn : k' ∉ kvs.map (·.1) ∧ (kvs.map (·.1)).Nodup := List.nodup_cons.mp hn
    have ih := ih hn.2
    unfold Mine.put
    unfold stored at ih ⊢
    rw [List.any_cons, List.map_cons]
    by_cases e : k' = k
    · rw [decide_eq_true e, Bool.true_or, if_pos rfl, if_pos e, if_pos (beq_iff_eq.mpr e), map_off (e ▸ hn.1)]
      exact .cons hv hl
    · rw [decide_eq_false e, Bool.false_or, if_neg e, if_neg fun q => e (eq_of_beq q)]
      by_cases q : kvs.any (fun kv => decide (kv.1 = k)) = true
      · rw [if_pos q] at ih ⊢; exact .cons hy ih
      · rw [if_neg q] at ih ⊢; exact .cons hy ih
theorem seti_st (fo : FO C f) {p : Pos} (hc : isComp e = false) (h1 : EvOk C f e r) (h2 : EvOk C f e₁ r₁) (h3 : EvOk C f e₂ r₂) : StOk C f (.Assign [.Subscript e₁ e₂ p] e pos) (.seti r₁ r₂ r) := by
  intro m σ s P E₀ x h xi
  refine wpAny_Assign_Subscript (wpAny_mono (h1 x h (xi.e m)) (fun cv s₁ p => p.elim fun v σ₁ x₁ rv k₁ h₁ => ?_) fun _ _ y => y) (noSwap hc _ _)
  refine wpAny_mono (h2 x₁ h₁ ((xi.go k₁).e m)) (fun ov s₂ p => p.elim fun w σ₂ x₂ rw₂ k₂ h₂ => ?_) fun _ _ y => y
  refine wpAny_mono (h3 x₂ h₂ ((xi.go (k₁.trans k₂)).e m)) (fun iv s₃ p => p.elim fun j σ₃ x₃ rj k₃ h₃ => ?_) fun _ _ y => y
  have kk := (k₁.trans k₂).trans k₃
  have rv3 := rv.mono (x₁.tk (k₂.trans k₃))
  have rw3 := rw₂.mono (x₂.tk k₃)
  have hq : seqMost = 1000000 := rfl
  cases w <;> try exact h₃.elim
  obtain rfl := rw3.refInv
  rename_i a
  cases j <;> try exact h₃.elim
  case int j =>
    obtain ⟨l, ha, ⟨h0, hj⟩, hP⟩ := oL_inv h₃
    obtain ⟨t, rfl⟩ := rj.intInv
    obtain ⟨vs, ⟨n, ho⟩, rl, hz, hlen⟩ := x₃.list ha
    refine setItem_at ho h0 (by lia) (by simp only [List.size_toArray]; lia) ?_
    obtain ⟨x₄, k₄⟩ := x₃.turnSeq fo.ok (k := s₃.toks) ha ho (·.setIfInBounds j.toNat cv) (ws' := vs.set j.toNat cv) (l' := l.set j.toNat v) (by simp) (rl.set rv3 _) (by rw [List.length_set]; exact hz)
    exact ⟨m, _, x₄, (kk.trans k₄).own, hP⟩
  case str j =>
    obtain ⟨es, ha, hl, hP⟩ := oDs_inv h₃
    obtain ⟨t, rfl, _⟩ := rj.strInv
    obtain ⟨kvs, hd, rd⟩ := x₃.om ha
    have hn : (kvs.map (·.1)).Nodup := by obtain ⟨_, _, _, _, _, _, _, _, hn⟩ := id hd; exact hn
    refine wpAny_setItem_pairs (strKind_self _ _ j t) hd (fun h' hd' sb => ?_) (seq_fits (by have := rd.len; lia))
    obtain ⟨od, _, _, eo, _⟩ := id hd'
    obtain ⟨x₄, k₄⟩ := x₃.turn fo.ok (k := s₃.toks + 1) (ao := .ds (Mine.put es j v)) ha sb ⟨_, eo⟩ fun tk => ⟨_, hd', (RvD.put j (rv3.mono tk) hn (rd.mono tk))⟩
    exact ⟨m, _, x₄, (kk.trans k₄).own, hP⟩
inductive NameAll (f : Fx) : List Str → List Nat → Prop
  | nil : NameAll f [] []
  | cons {y : Str} {i : Nat} {ns : List Str} {is : List Nat} (h1 : f.ne.lookup y = some i) (h2 : f.env.kindOf y = some .local) (r : NameAll f ns is) : NameAll f (y :: ns) (i :: is)
theorem NameAll.append {ns ns' : List Str} {is is' : List Nat} (a : NameAll f ns is) (b : NameAll f ns' is') : NameAll f (ns ++ ns') (is ++ is') := by
  induction a with
  | nil => exact b
  | cons h1 h2 _ ih => exact .cons h1 h2 ih
theorem NameAll.reverse {ns : List Str} {is : List Nat} (a : NameAll f ns is) : NameAll f ns.reverse is.reverse := by
  induction a with
  | nil => exact .nil
  | cons h1 h2 _ ih => rw [List.reverse_cons, List.reverse_cons]; exact ih.append (.cons h1 h2 .nil)
theorem assign_all (ok : f.Ok) {E : Value → Shared → Prop} {R : Shared → Prop} {Q : M → Prop} {ns : List Str} {is : List Nat} (hn : NameAll f ns is) : ∀ {cvs : List Value} {vs : List V} {m : M} {s : Shared}, RvL s.heap cvs vs → storeAt is vs m Q → FS f m σ s →
    (∀ m' s', FS f m' σ s' → Kc (frs f.l) f.own σ σ s.heap s'.heap → Q m' → R s') → wpAny (model f.prog f.w) A (assignInOrder (ns.map fun n => bindName f.env n) cvs) (fun _ => R) E s := by
  induction hn with
  | nil =>
    intro cvs vs m s hr hs x q
    cases hr with
    | nil => exact wpAny_pure (q m s x Kc.refl hs)
    | cons _ _ => exact hs.elim
  | cons h1 h2 _ ih =>
    intro cvs vs m s hr hs x q
    cases hr with
    | nil => exact hs.elim
    | cons hv hl =>
      refine wpAny_bind (wpAny_holding (wpAny_bindName (x.store ok h1 (by rw [h2]; simp) (of_decide_eq_true (onC_inv hs).1) hv fun s₁ x₁ k₁ _ => ?_)))
      exact ih (hl.mono (x.tupKX k₁)) (onC_inv hs).2 x₁ fun m' s' x' k' hQ => q m' s' x' (k₁.trans k') hQ
noncomputable def pickN (env : Env) (line : Nat) (ts : List PySem.Expr) : List Str := ts.filterMap fun x => match x with
  | .Name id pos => if env.kindOf id == some .local && pos.line == line then some id else none
  | _ => none
theorem storeAt_len {Q : M → Prop} : ∀ {is : List Nat} {vs : List V} {m : M}, storeAt is vs m Q → is.length = vs.length
  | [], [], _, _ => rfl
  | _ :: _, _ :: _, _, h => congrArg (· + 1) (storeAt_len (onC_inv h).2)
  | [], _ :: _, _, h => h.elim
  | _ :: _, [], _, h => h.elim
theorem NameAll.len {ns : List Str} {is : List Nat} (a : NameAll f ns is) : ns.length = is.length := by
  induction a with
  | nil => rfl
  | cons _ _ _ ih => simp [ih]
theorem tname_inv {t : PySem.Expr} {a : Str × Nat} (h : tname t = some a) : ∃ p, t = .Name a.1 p ∧ p.line = a.2 := by
  obtain ⟨x, h1, rfl⟩ := Option.map_eq_some_iff.mp h
  obtain ⟨p, rfl⟩ := asName_inv h1
  exact ⟨p, rfl, rfl⟩
theorem pick_one {line : Nat} {a : Str × Nat} {t : PySem.Expr} {ts : List PySem.Expr} (h1 : tname t = some a) (e1 : f.env.kindOf a.1 = some .local) (e2 : a.2 = line) : pickN f.env line (t :: ts) = a.1 :: pickN f.env line ts := by
  obtain ⟨p, rfl, e3⟩ := tname_inv h1
  unfold pickN
  rw [List.filterMap_cons]
  simp only [e1, e3, e2, beq_self_eq_true, Bool.and_self, if_true]
theorem tnames_filter {line : Nat} : ∀ {ts : List PySem.Expr}, Y (tnames ts) fun ns => ns.length = ts.length ∧ ((∀ y ∈ ns, f.env.kindOf y.1 = some .local ∧ y.2 = line) → pickN f.env line ts = ns.map (·.1))
  | [] => .so ⟨rfl, fun _ => rfl⟩
  | t :: ts => .bind fun a h1 => .map fun l h2 => ⟨congrArg (· + 1) (tnames_filter (line := line) l h2).1, fun hl =>
      (pick_one h1 (hl a (.head _)).1 (hl a (.head _)).2).trans (congrArg (a.1 :: ·) ((tnames_filter l h2).2 fun y hy => hl y (.tail _ hy)))⟩
theorem nIdx_all : ∀ {ns : List (Str × Nat)}, Y (nIdx f.ne ns) fun is => (∀ y ∈ ns, f.env.kindOf y.1 = some .local) → NameAll f (ns.map (·.1)) is
  | [] => .so fun _ => .nil
  | y :: ns => .bind fun i h1 => .map fun l h2 hl => .cons h1 (hl y (.head _)) (nIdx_all l h2 fun z hz => hl z (.tail _ hz))
theorem noStar {rec : CE} (ih : RecOk C rec) {ne : NE} : ∀ {es : List PySem.Expr}, Y (cL rec ne sc es) fun _ => (es.any fun | .Starred .. => true | _ => false) = false
  | [] => .so rfl
  | e :: es => .bind fun a h1 => .map fun l h2 => by rw [List.any_cons, noStar ih l h2, Bool.or_false]; exact (ih.p _ h1).2.2
theorem sets_st (fo : FO C f) (ag : Agree sc f.env) {rec : CE} (ih : RecOk C rec) {ts es : List PySem.Expr} {k k' : Nat} {p p' : Pos} {ns : List (Str × Nat)} {is : List Nat} {l : RL} (hs : setsOk sc ts es = true) (ht : tnames ts = some ns) (hi : nIdx f.ne ns = some is)
    (hl : cL rec f.ne sc es = some l) (h1 : LvOk C f es l) : StOk C f (.Assign [.Tuple ts k p] (.Tuple es k' p') pos) (.sets is l) := by
  intro m σ s P E₀ x h xi
  unfold setsOk at hs
  rw [ht] at hs
  dsimp only [ocase] at hs
  simp only [Bool.and_eq_true, Bool.or_eq_true, beq_iff_eq, List.all_eq_true, Bool.not_eq_true'] at hs
  obtain ⟨⟨⟨⟨hlen, hes⟩, hnames, hdup⟩, hf1⟩, hf2⟩ := hs
  have hk : ∀ y ∈ ns, f.env.kindOf y.1 = some .local ∧ y.2 = (ts.head?.map (·.pos.line)).getD 0 := fun y hy => ⟨ag.l _ (hnames y hy).1, (hnames y hy).2⟩
  have hfil := (tnames_filter (f := f) ns ht).2 hk
  have hnl := (tnames_filter (f := f) (line := 0) ns ht).1
  have hna := nIdx_all is hi fun y hy => (hk y hy).1
  have hsw : swappedStores [.Tuple ts k p] (.Tuple es k' p') f.env = pure (some (ns.map (·.1))) := by
    show (if (!(ts.length == 2 || ts.length == 3) || es.length != ts.length || f.env.blockKind != .function) = true then pure none
      else if (es.any fun | .Starred .. => true | _ => false) = true then pure none
      else if ((pickN f.env ((ts.head?.map fun x : PySem.Expr => x.pos.line).getD 0) ts).length != ts.length ||
        (pickN f.env ((ts.head?.map fun x : PySem.Expr => x.pos.line).getD 0) ts).eraseDups.length != (pickN f.env ((ts.head?.map fun x : PySem.Expr => x.pos.line).getD 0) ts).length) = true then pure none
      else if es.all (foldedForSure 8) = true then pure none
      else if es.all (constantsAlone 8) = true then (do
          let _ ← (unsupported "assign.tuple-of-constant-expressions:order-of-the-stores" : Sem PUnit)
          pure (some (pickN f.env ((ts.head?.map fun x : PySem.Expr => x.pos.line).getD 0) ts)))
        else pure (some (pickN f.env ((ts.head?.map fun x : PySem.Expr => x.pos.line).getD 0) ts)) : Sem (Option (List Str))) = _
    have hbk : f.env.blockKind = .function := by unfold Env.blockKind; rw [fo.ok.kind]; rfl
    have hc1 : (!(ts.length == 2 || ts.length == 3) || es.length != ts.length || f.env.blockKind != .function) = false := by
      rw [hbk, hes]
      rcases hlen with e | e <;> simp [e]
    have hc3 : ((ns.map (·.1)).length != ts.length || (ns.map (·.1)).eraseDups.length != (ns.map (·.1)).length) = false := by
      rw [List.length_map, hnl, hdup, hnl]; simp
    rw [hfil, hc1, noStar ih l hl, hc3, hf1, hf2]
    rfl
  refine Assign_Tuple_swapped (names := ns.map (·.1)) (wpAny_mono (tup_arm (k := k') (pos := p') fo (by lia) (RL.len_cL l hl) h1 x (Q := fun v σ₁ => match v with | .tup vs => storeAt is.reverse vs.reverse m fun m' => P.n m' σ₁ | _ => False) h (xi.e m)) (fun cv s₁ pe => pe.elim fun v σ₁ x₁ rv k₁ h₁ => ?_) fun _ _ y => y) rfl hsw
  cases rv <;> try exact h₁.elim
  rename_i t o n' cvs vs ho hd hdt hlv hz
  have h₁ : storeAt is.reverse vs.reverse m fun m' => P.n m' σ₁ := h₁
  have hsz : (ns.map (·.1)).length = cvs.toArray.size := by
    have := storeAt_len h₁
    rw [List.length_reverse, List.length_reverse] at this
    rw [hna.len, List.size_toArray, hlv.length, this]
  rw [hsz]
  refine PyProof.Rows.unpackItems_tuple x₁.at_.hd ⟨o, ho, hd, n', hdt⟩ fun h' hext => ?_
  have kp : ∀ b o, s₁.heap.get? b = some o → h'.get? b = some o := fun b o e => hext b o (Nat.ne_of_lt (Heap.lt_size e)) e
  obtain ⟨x₂, k₂⟩ := x₁.grown fo.ok (k := s₁.toks) kp
  refine assign_all (s := { s₁ with heap := h', toks := s₁.toks }) fo.ok hna.reverse (hlv.reverse.keeps kp) h₁ x₂ fun m' s' x' k' hQ => ⟨m', σ₁, x', (k₁.trans k₂).own.trans k', hQ⟩
end
theorem find_off {name x : Str} (hx : x ≠ name) (l : List DictEntry) : ∀ i : Nat, l.findIdx? (fun e => e.key.isStr name) = some i → (l.eraseIdx i).find? (fun e => e.key.isStr x) = l.find? (fun e => e.key.isStr x) := by
  induction l with
  | nil => exact fun _ h => no2 rfl h
  | cons e l ih =>
    intro i h
    rw [List.findIdx?_cons] at h
    by_cases he : e.key.isStr name = true
    · rw [if_pos he] at h
      obtain rfl := Option.some.inj h
      have : e.key.isStr x = false := by
        cases q : e.key.isStr x with
        | false => rfl
        | true => exact absurd (Mine.isStr_inj q he) hx
      rw [List.eraseIdx_zero, List.tail_cons, List.find?_cons, this]
    · rw [if_neg he] at h
      cases hj : l.findIdx? (fun e => e.key.isStr name) with
      | none => rw [hj] at h; exact no2 rfl h
      | some j =>
        rw [hj] at h
        obtain rfl := Option.some.inj h
        show (e :: l.eraseIdx j).find? _ = _
        rw [List.find?_cons, List.find?_cons, ih j hj]
section
variable {M : Model} {A : Around} {E : Value → Shared → Prop} {s : Shared}
theorem nsDel_off {a : Addr} {m : Str → Option Value} {name : Str} {v : Value} {Q : Bool → Shared → Prop} (hn : s.heap.Ns a m) (hv : m name = some v)
    (hQ : ∀ h' m', h'.Ns a m' → (∀ y, y ≠ name → m' y = m y) → Heap.SameBut a s.heap h' → Q true { s with heap := h' }) : wpAny M A (nsDel a name) Q E s := by
  obtain ⟨o, es, ep, ho, hd, hk, hm⟩ := id hn
  have hf : nsFind es name = some v := (hm name).trans hv
  have hsome : es.any (·.key.isStr name) = true := by
    simp only [nsFind, findBy, Option.map_eq_some_iff] at hf
    obtain ⟨e, he, _⟩ := hf
    exact Array.any_eq_true'.mpr ⟨e, Array.mem_of_find?_eq_some he, by simpa using Array.find?_some he⟩
  have hhas : nsHas name o = pure true := by
    rw [nsHas_eq]; unfold nsHasByArray; rw [hd]
    show (if (es.any fun x => x.key.isStr name) = true then _ else _) = _
    rw [if_pos hsome]
  unfold nsDel
  refine wpAny_bind (wpAny_loadPart ho ?_)
  rw [hhas]
  refine wpAny_bind (wpAny_pure ?_)
  rw [if_pos rfl]
  refine wpAny_bind (wpAny_updatePart ho (wpAny_pure ?_))
  obtain ⟨cl, d, dt, sl⟩ := o
  simp only at hd
  subst hd
  obtain ⟨i, hi⟩ : ∃ i, es.findIdx? (·.key.isStr name) = some i := by
    cases q : es.findIdx? (·.key.isStr name) with
    | some i => exact ⟨i, rfl⟩
    | none =>
      rw [Array.findIdx?_eq_none_iff] at q
      obtain ⟨e, he, hb⟩ := Array.any_eq_true'.mp hsome
      rw [q e he] at hb; exact bft hb
  refine hQ _ (fun y => nsFind (es.eraseIdxIfInBounds i) y) ⟨_, _, ep + 1, Heap.get?_update_self _ ho (by simp only [Obj.dropName_eq, Obj.dropNameByArray, hi]; rfl), (by simp only [Obj.dropName_eq, Obj.dropNameByArray, hi]), hk.erase i, fun _ => rfl⟩ (fun y hy => ?_) (Heap.SameBut.update ..)
  rw [← hm y]
  obtain ⟨l⟩ := es
  simp only [nsFind, findBy, List.eraseIdxIfInBounds_toArray, List.find?_toArray, List.findIdx?_toArray] at hi ⊢
  rw [find_off hy l i hi]
end
section
variable {f : Fx} {m : M} {σ σ' σ₁ : AS} {s s' : Shared} {h h₁ : Heap} {C : Cx} {A : Around} {sc : Scope}
theorem FS.names (x : FS f m σ s) (ok : f.Ok) {h' : Heap} {k : Nat} {mm : Str → Option Value} {m' : M} (hn' : h'.Ns f.env.locals mm) (sb : Heap.SameBut f.env.locals s.heap h')
    (hl : ∀ y i v, f.ne.lookup y = some i → f.env.kindOf y = some .local → m'[i]? = some (some v) → ∃ cv, mm y = some cv ∧ Rv s.heap cv v)
    (hc : ∀ y i v, f.ne.lookup y = some i → f.env.kindOf y ≠ some .local → m'[i]? = some (some v) → m[i]? = some (some v)) : FS f m' σ { s with heap := h', toks := k } := by
  obtain ⟨l', hl', ff, fσ⟩ := x.at_.fr
  obtain rfl := inj2 ok.fr hl'
  obtain ⟨mm0, hn, _⟩ := x.lo
  obtain ⟨o, es, ep, ho, hod, _⟩ := id hn
  obtain ⟨o', es', ep', ho', hod', _⟩ := id hn'
  have tk : TupK s.heap h' := fun b ob e hcl ⟨vs, n, hd⟩ => ⟨ob.slots, by rw [sb.2 b (fun q : b = f.env.locals => by rw [q, ho] at e; obtain rfl := Option.some.inj e; rw [hd] at hod; cases hod)]; exact e⟩
  refine ⟨⟨fun b ob e => ?_, fun b ao e => ⟨(x.at_.obj b ao e).1.at (fun ob eb => ?_) tk, (x.at_.obj b ao e).2⟩, ⟨f.l, ok.fr, ?_, fσ⟩, x.at_.hd, x.at_.dp, x.at_.un, x.at_.gens, x.at_.os⟩, ⟨mm, hn', fun y i v h1 h2 h3 => ?_⟩, fun y c hy => ?_, x.sL, x.sC, x.bL, x.bC⟩
  · rw [sb.2 b (fun q : b = f.env.locals => by rw [q, x.bL] at e; exact no1 e)]; exact x.at_.st b ob e
  · rw [sb.2 b (fun q : b = f.env.locals => by rw [q, x.sL] at e; exact no1 e)]; exact eb
  · have : ∀ l, s.heap.FunFrames f.hB l → h'.FunFrames f.hB l := by
      intro l
      induction l with
      | nil => intro _; trivial
      | cons env r ih =>
        rintro ⟨h1, ⟨L, oL, h2, h3, h4, h5⟩, h6⟩
        by_cases e : L = f.env.locals
        · subst e
          exact ⟨h1, ⟨_, o', h2, h3, ho', fun vs q => by rw [hod'] at q; cases q⟩, ih h6⟩
        · exact ⟨h1, ⟨L, oL, h2, h3, (sb.2 L e).trans h4, h5⟩, ih h6⟩
    exact this _ ff
  · obtain ⟨cv, a, b⟩ := hl y i v h1 h2 h3
    exact ⟨cv, a, b.mono tk⟩
  · obtain ⟨ob, ov, e, d, r⟩ := x.ce y c hy
    have hne : c ≠ f.env.locals := fun q => by rw [q, ho] at e; obtain rfl := Option.some.inj e; rw [hod] at d; cases d
    refine ⟨ob, ov, (sb.2 c hne).trans e, d, fun i u h1 h2 h3 => ?_⟩
    obtain ⟨cv, a, b⟩ := r i u h1 h2 (hc y i u h1 h2 h3)
    exact ⟨cv, a, b.mono tk⟩
theorem Kc.locals {h' : Heap} (sb : Heap.SameBut f.env.locals h h') (hp : ∃ o, h'.get? f.env.locals = some o) : Kc (frs f.l) f.own σ σ h h' :=
  ⟨fun b o e _ _ hb => by rw [sb.2 b (fun q : b = f.env.locals => hb (q ▸ .head _))]; exact e, fun b o e _ hb => ⟨o.slots, by rw [sb.2 b (fun q : b = f.env.locals => hb (q ▸ .head _))]; exact e⟩, fun _ _ _ e => e, fun b o e => by
    by_cases q : b = f.env.locals
    · rw [q]; exact hp
    · exact ⟨o, (sb.2 b q).trans e⟩⟩
theorem name_goes (x : FS f m σ s) (ok : f.Ok) {z : Str} {i : Nat} {pos : Pos} {E : Value → Shared → Prop} {Q : Unit → Shared → Prop} (hz : f.ne.lookup z = some i) (hk : f.env.kindOf z = some .local) (hi : i < m.length)
    (q : ∀ s', FS f (m.set i none) σ s' → Kc (frs f.l) f.own σ σ s.heap s'.heap → Q () s') : wpAny (model f.prog f.w) A (do bindName f.env z .none; unbindBehindTheSuite f.env z pos) Q E s := by
  refine wpAny_bind (wpAny_bindName (x.store ok hz (by rw [hk]; simp) hi .none fun s₁ x₁ k₁ _ => ?_))
  unfold unbindBehindTheSuite
  refine wpAny_onRaise ?_
  unfold unbindName
  refine wpAny_bind (wpAny_point (wpAny_bind ?_))
  unfold deleteName
  have hp : (f.env.scope.kind == .class || (f.env.scope.kind == .module && f.env.locals != f.env.globals)) = false := by rw [ok.kind]; rfl
  simp only [hk, hp]
  rw [if_neg (by decide)]
  obtain ⟨mm, hn, hv⟩ := x₁.lo
  obtain ⟨cv, hcv, _⟩ := hv z i .none hz hk (List.getElem?_set_self hi)
  refine wpAny_bind (nsDel_off hn hcv fun h₂ m₂ hn₂ hm₂ hs₂ => ?_)
  simp only [if_true, Bool.not_true, Bool.false_eq_true, if_false]
  obtain ⟨o₂, _, _, e₂, _⟩ := id hn₂
  refine wpAny_pure (wpAny_point (q _ (x₁.names ok (k := s₁.toks) hn₂ hs₂ (fun y j v h1 h2 h3 => ?_) fun y j v h1 h2 h3 => ?_) (k₁.trans (Kc.locals hs₂ ⟨o₂, e₂⟩))))
  · by_cases e : y = z
    · subst e
      obtain rfl := inj2 hz h1
      rw [List.getElem?_set_self hi] at h3; cases h3
    · have ij : i ≠ j := fun q => e (ok.inj y z i (q ▸ h1) hz)
      rw [List.getElem?_set_ne ij] at h3
      obtain ⟨cv, a, b⟩ := hv y j v h1 h2 (by rw [List.getElem?_set_ne ij]; exact h3)
      exact ⟨cv, (hm₂ y e).trans a, b⟩
  · have ij : i ≠ j := fun q => h2 (by rw [ok.inj y z i (q ▸ h1) hz]; exact hk)
    rw [List.getElem?_set_ne ij] at h3
    rw [List.getElem?_set_ne ij]; exact h3
variable {e e₁ e₂ e₃ : PySem.Expr} {r r₁ r₂ r₃ : RE} {pos : Pos}
theorem rai_st (fo : FO C f) {c : Str} {np cp : Pos} (hg : isG f.ne f.env.scope c = true) (hst : ∀ env, starEach [e] env = [(false, eval e env)]) (h1 : EvOk C f e r) : StOk C f (.Raise (some (.Call (.Name c np) [e] [] cp)) none pos) (.rai c r) := by
  intro m σ s P E₀ x h xi
  obtain ⟨K, hK, h⟩ := oS_inv h
  obtain ⟨G, ek⟩ := fo.cx.x c K hK
  have hp : (backTo cp (starEach [e] f.env)).any (·.1) = false := by rw [hst]; rfl
  show wpAny _ _ (do standAt pos; raiseStmt f.env (some (do let v ← eval (.Call (.Name c np) [e] [] cp) f.env; standAt pos; pure v)) none) _ _ s
  refine wpAny_bind (wpAny_standAt (ek.raise _ _ _ _ _ _ x.at_.hd (wpAny_bind ?_)))
  refine wpAny_Call_ofName (glob_ok x fo.ok hg G (callWith_kept ek.kept hp (wpAny_items_cons (wpAny_mono (h1 x h (xi.e m)) (fun cv s₁ p => p.elim fun v σ₁ x₁ rv k₁ hv => Calls.spliced_nil ⟨x₁.at_.st, ?_⟩) fun _ _ y => y) (by rw [hst]; rfl))))
  obtain ⟨t, rfl, hP⟩ := onStr_inv hv
  refine ek.make f.A f.l σ₁ s₁ _ t _ _ fo.ok.fr x₁.at_ rv fun ea dx s₂ at₂ k₂ fly hfr hb => wpAny_bind (wpAny_standAt (wpAny_pure ?_))
  obtain ⟨l', hl', ff, fσ⟩ := x₁.at_.fr
  obtain rfl := inj2 fo.ok.fr hl'
  refine ⟨ea, dx, rfl, fly, at₂.st, xi m σ₁ s₂ ⟨K, .str t⟩ _ ⟨ea, .none, rfl, .inl rfl, x₁.next fo.ok k₂ at₂.obj (at₂.gens.trans x₁.at_.gens.symm) (at₂.os.trans x₁.at_.os.symm), (k₁.trans k₂).own, dx, [ea], fly, fun b hb => ⟨(hfr b hb).2.1, k₁.fresh (hfr b hb).1, (hfr b hb).2.2⟩, fun hm => ?_, hb⟩ hP⟩
  obtain ⟨_, o', e'⟩ := frs_in ff dx hm
  rw [(hfr dx (.head _)).1] at e'; exact no1 e'
theorem whl_st (fo : FO C f) (hm : Home f) {b : List Stmt} {rb : RP} (h1 : TrOk C f e r) (h2 : PsOk C f b rb) : StOk C f (.While e b [] pos) (.whl r rb) := by
  intro m σ s P E₀ x h xi
  obtain ⟨I, ⟨k, hk⟩, hI⟩ := h
  have xl := xi.loop fo.ok hm
  refine wpAny_While (codeAny_whileLoop (fun n s' => ∃ m₁ σ₁, FS f m₁ σ₁ s' ∧ Kc (frs f.l) f.own σ σ₁ s.heap s'.heap ∧ I n m₁ σ₁) (fun n s₁ ⟨m₁, σ₁, x₁, k₁, h₁⟩ => ?_) k ⟨m, σ, x, Kc.refl, hk⟩)
  refine wpAny_mono (h1 x₁ (hI n m₁ σ₁ h₁) (fun _ _ h => h) ((xl.lift k₁).e m₁)) (fun c s₂ p => p.elim fun σ₂ x₂ k₂ h₂ => ?_) fun _ _ y => y
  have k₁₂ := k₁.trans k₂.own
  cases c with
  | false =>
    rw [if_neg (by decide)]
    exact wpAny_execs_nil ⟨m₁, σ₂, x₂, k₁₂, h₂⟩
  | true =>
    rw [if_pos rfl]
    refine wpAny_mono (h2 x₂ h₂ (xl.lift k₁₂)) (fun fl s₃ p => ?_) fun _ _ y => y
    cases fl with
    | next => obtain ⟨m₃, σ₃, x₃, k₃, j, hj, h₃⟩ := p; exact ⟨j, hj, m₃, σ₃, x₃, k₁₂.trans k₃, h₃⟩
    | cont => obtain ⟨m₃, σ₃, x₃, k₃, j, hj, h₃⟩ := p; exact ⟨j, hj, m₃, σ₃, x₃, k₁₂.trans k₃, h₃⟩
    | brk => exact p.elim
    | ret cv => exact PF.lift (fl := .ret cv) k₁₂ p
inductive ForI (f : Fx) (len : Nat) (St : Nat → Heap → Prop) (Iv : Nat → M → AS → Prop) (σ : AS) (h : Heap) (n : Nat) (s' : Shared) : Prop where
  | mk (i : Nat) (m₂ : M) (σ' : AS) (hi : i ≤ len) (e : n = len - i) (x : FS f m₂ σ' s') (st : St i s'.heap) (k : Kc (frs f.l) f.own σ σ' h s'.heap) (v : Iv i m₂ σ')
theorem for_st (fo : FO C f) (hm : Home f) {it : PySem.Expr} {target : Tgt} {src : RI} {b : List Stmt} {rb : RP} (hs : notSet it = true) (hsrc : SvOk C f target it src) (h2 : PsOk C f b rb) {m : M} {σ : AS} {s : Shared} {P : Post} {E₀ : Value → Shared → Prop} (x : FS f m σ s) {T : V → M → (M → Prop) → Prop}
    (hT : ∀ (m₂ : M) (σ₂ : AS) (s₂ : Shared) (cv : Value) (v : V) (E : Value → Shared → Prop) (Q : Unit → Shared → Prop) (R : M → Prop), FS f m₂ σ₂ s₂ → Rv s₂.heap cv v → T v m₂ R → (∀ m₃ s', FS f m₃ σ₂ s' → Kc (frs f.l) f.own σ₂ σ₂ s₂.heap s'.heap → R m₃ → Q () s') → wpAny (model f.prog f.w) f.A (assign target f.env cv) Q E s₂)
    (h : rsrc C src m σ (fun items dep σ₁ => ∃ I : Nat → M → AS → Prop, I 0 m σ₁ ∧ (∀ i m₂ σ₂, I i m₂ σ₂ → dep.ok σ₂) ∧
        (∀ i m₂ σ₂ v, items[i]? = some v → I i m₂ σ₂ → T v m₂ fun m₃ => rsts C rb m₃ σ₂ ⟨I (i + 1), P.r, I (i + 1), P.x⟩) ∧ (∀ m₂ σ₂, I items.length m₂ σ₂ → P.n m₂ σ₂)) (fun x σ₁ => P.x x m σ₁))
    (xi : XIs f σ s.heap P.x E₀) : wpAny (model f.prog f.w) f.A (exec (.For target it b [] pos) f.env) (PF f σ s.heap P) E₀ s := by
  have xl := xi.loop fo.ok hm
  refine wpAny_For (wpAny_mono (hsrc x h (xi.e m)) (fun cv s₁ h₁ => wpAny_mono (h₁ f.A _ x.at_.hd) (fun iv s₂ h₂ => ?_) fun _ _ y => y) fun _ _ y => y) (notSet_fold hs _)
  obtain ⟨items, dep, σ₂, ⟨I, wr, St, rfl, itk, st, hwr, x₂, k₂, hdep⟩, Iv, hI0, hI1, hI2, hI3⟩ := h₂
  refine codeAny_forLoop_any (ForI f items.length St Iv σ s.heap) (fun n s' hI => ?_) _ ⟨0, m, σ₂, Nat.zero_le _, rfl, x₂, st, k₂.own, hI0⟩
  obtain ⟨i, m₂, σ', hi, rfl, x', st', k', hIv⟩ := hI
  have hfl := itk.flds _ _ st'
  by_cases hlt : i < items.length
  · obtain ⟨v, hv⟩ : ∃ v, items[i]? = some v := ⟨items[i], by simp [hlt]⟩
    refine itk.item f.A f.env f.ne m₂ σ' s' i v _ _ x.at_.hd fo.ok x' st' (hI1 _ _ _ hIv) hv fun cv s₃ go => ?_
    refine go _ _ fun s₄ x₄ kb₄ st₄ rv₄ => ?_
    refine hT m₂ σ' s₄ cv v _ _ _ x₄ rv₄ (hI2 i m₂ σ' v hv hIv) fun m₅ s₅ x₅ k₅ hB => ?_
    have kk₅ : Kc (frs f.l) f.own σ σ' s.heap s₅.heap := (k'.skipKB kb₄ hwr).trans k₅
    have keep : ∀ {sa sb : Shared} {ma : M} {σa σb : AS}, FS f ma σa sa → St (i + 1) sa.heap → Kc (frs f.l) f.own σa σb sa.heap sb.heap → St (i + 1) sb.heap := fun xa sta kab =>
      itk.keep _ _ _ sta (fun b hb o e => by
        obtain ⟨o', vs', e', d'⟩ := itk.flds _ _ sta b hb
        obtain rfl := inj2 e e'
        exact xa.stands fo.ok kab e d') (xa.tupKX kab)
    have st₅ := keep x₄ st₄ k₅
    refine wpAny_mono (h2 x₅ hB (xl.lift kk₅)) (fun fl s₆ p => ?_) fun _ _ y => y
    have nx : ∀ m₆ σ₆, FS f m₆ σ₆ s₆ → Kc (frs f.l) f.own σ' σ₆ s₅.heap s₆.heap → Iv (i + 1) m₆ σ₆ → ∃ n, n < items.length - i ∧ ForI f items.length St Iv σ s.heap n s₆ :=
      fun m₆ σ₆ x₆ k₆ h₆ => ⟨items.length - (i + 1), by omega, i + 1, m₆, σ₆, hlt, rfl, x₆, keep x₅ st₅ k₆, kk₅.trans k₆, h₆⟩
    cases fl with
    | next => obtain ⟨m₆, σ₆, x₆, k₆, h₆⟩ := p; exact nx m₆ σ₆ x₆ k₆ h₆
    | cont => obtain ⟨m₆, σ₆, x₆, k₆, h₆⟩ := p; exact nx m₆ σ₆ x₆ k₆ h₆
    | brk => exact p.elim
    | ret cv => exact PF.lift (fl := .ret cv) kk₅ p
  · have hi' : i = items.length := by omega
    subst hi'
    refine itk.done f.A f.env f.ne m₂ σ' s' _ _ x.at_.hd fo.ok x' st' (hI1 _ _ _ hIv) fun s₃ x₃ kb₃ => wpAny_execs_nil ⟨m₂, σ', x₃, k'.skipKB kb₃ hwr, hI3 m₂ σ' hIv⟩
theorem for1_st (fo : FO C f) (hm : Home f) {it : PySem.Expr} {y : Str} {p : Pos} {i : Nat} {src : RI} {b : List Stmt} {rb : RP} (hs : notSet it = true) (hy : f.ne.lookup y = some i) (hf : f.env.kindOf y ≠ some .free) (hsrc : SvOk C f (.Name y p) it src) (h2 : PsOk C f b rb) :
    StOk C f (.For (.Name y p) it b [] pos) (.for1 i src rb) := by
  intro m σ s P E₀ x h xi
  exact for_st fo hm hs hsrc h2 x (T := fun v m₂ R => onC (decide (i < m₂.length)) (R (m₂.set i (some v))) False) (fun m₂ σ₂ s₂ cv v E Q R x₂ rv hT q => wpAny_assign_Name (x₂.store fo.ok hy hf (of_decide_eq_true (onC_inv hT).1) rv fun s' x' k' _ => q _ s' x' k' (onC_inv hT).2)) h xi
theorem for2_st (fo : FO C f) (hm : Home f) {it : PySem.Expr} {y z : Str} {p q tp : Pos} {k i j : Nat} {src : RI} {b : List Stmt} {rb : RP} (hs : notSet it = true) (hy : f.ne.lookup y = some i) (hf : f.env.kindOf y ≠ some .free) (hz : f.ne.lookup z = some j) (hg : f.env.kindOf z ≠ some .free)
    (hsrc : SvOk C f (.Tuple [.Name y p, .Name z q] k tp) it src) (h2 : PsOk C f b rb) : StOk C f (.For (.Tuple [.Name y p, .Name z q] k tp) it b [] pos) (.for2 i j src rb) := by
  intro m σ s P E₀ x h xi
  refine for_st fo hm hs hsrc h2 x (T := fun v m₂ R => onTup v fun l => on2 l fun a c => onC (decide (i < m₂.length) && decide (j < m₂.length)) (R ((m₂.set i (some a)).set j (some c))) False) (fun m₂ σ₂ s₂ cv v E Q R x₂ rv hT q => ?_) h xi
  obtain ⟨l, rfl, hT⟩ := onTup_inv hT
  obtain ⟨a, c, rfl, hT⟩ := on2_inv hT
  obtain ⟨hb, hR⟩ := onC_inv hT
  obtain ⟨hi, hj⟩ := and2 hb
  replace hi := of_decide_eq_true hi
  replace hj := of_decide_eq_true hj
  exact assign2 x₂ fo x₂.at_.hd hy hf hz hg rv hi hj fun s' x' k' => q _ s' x' k' hR
theorem setl_comp (fo : FO C f) {sc' : Scope} (so : ScOk sc sc') (ag : Agree sc f.env) (cov : ∀ x, sc.names.lookup x = some .cell → ∃ c, f.env.cells.lookup x = some c) {elt it : PySem.Expr} {ifs : List PySem.Expr} {t y : Str} {tp cp p : Pos} {ti i : Nat} {src : RI} {cnd : RO} {re : RE}
    (ht : (NE.of sc').lookup t = some ti) (htl : sc'.names.lookup t = some .local) (hs : ∀ x, foldedSetIterable it f.env x = pure x)
    (hsrc : SvOk C f (.Name t tp) it src) (hel : ∀ Cl, EvOk C (innerFx f sc' Cl) elt re) (hif : ∀ Cl, CdOk C (innerFx f sc' Cl) ifs cnd)
    (hi : f.ne.lookup y = some i) (hk : f.env.kindOf y = some .local) (hw : (p.line == cp.line && !(sc'.names.any fun x => x.1 == y && (x.2 == .local || x.2 == .cell))) = true) :
    StOk C f (.Assign [.Name y p] (.ListComp elt [⟨.Name t tp, it, ifs, 0⟩] sc' cp) pos) (.setl i (.comp (innerMp f.ne sc') src ti cnd re)) := by
  intro m σ s P E₀ x h xi
  have hbk : f.env.blockKind = .function := by unfold Env.blockKind; rw [fo.ok.kind]; rfl
  rw [exec_Assign_Name_used _ _ _ _ (by
    show (pure (f.env.blockKind == .function && f.env.kindOf y == some .local && p.line == cp.line && !(sc'.names.any fun (n, k) => n == y && (k == .local || k == .cell))) : Sem Bool) = _
    rw [hbk, hk]
    simp only [beq_self_eq_true, Bool.true_and]
    exact congrArg pure hw)]
  refine wpAny_bind (wpAny_standAt (wpAny_bind ?_))
  show wpAny _ _ (do let _ ← comprehension (.ListComp elt [⟨.Name t tp, it, ifs, 0⟩] sc' cp) sc' f.env _ (newList []) false (eval it f.env) (some (assign (.Name y p) f.env))) _ _ s
  refine wpAny_bind (wpAny_mono (comp_core (use := some (assign (.Name y p) f.env)) (Qc := fun _ s' => PF f σ s.heap P .next s') fo x.at_.hd so ag cov ht htl hs hsrc hel hif x h (xi.e m) fun D Cl σ' s' mm x' kc q hn un hB hfr ho h0 => ?_) (fun _ _ q => wpAny_pure (wpAny_pure q)) fun _ _ y => y)
  show wpAny _ _ (assign (.Name y p) f.env (.ref D)) _ _ s'
  refine wpAny_assign_Name (x'.store fo.ok hi (by rw [hk]; simp) (of_decide_eq_true (onC_inv q).1) (.ref D) fun s₁ x₁ k₁ _ => ?_)
  obtain ⟨o, es, ep, eo, d, r⟩ := id hn
  have e₁ := k₁.ex Cl o eo un hfr ho
  refine ⟨mm, ⟨o, es, ep, e₁, d, r⟩, fun h' sb => ⟨_, σ', x₁.but fo.ok (k := s₁.toks) un e₁ (.inr fun vs n q => by rw [d] at q; cases q) hB hfr ho sb, ?_, (onC_inv q).2⟩⟩
  exact (kc.own.trans k₁).skipKB (KB.but sb) fun b hb => by rw [List.mem_singleton.mp hb]; exact h0
end
section
variable {f : Fx} {m : M} {σ σ' σ₁ : AS} {s s' : Shared} {h h₁ : Heap} {C : Cx} {A : Around} {sc : Scope}
variable {e e₁ e₂ e₃ : PySem.Expr} {r r₁ r₂ r₃ : RE} {pos : Pos}
theorem Fly.is {e K dx : Addr} {X : List Addr} {fl : Value} (x : Fly h e K dx X fl) : ∃ o vs, h.get? e = some o ∧ o.cls = .ref K ∧ o.data = .fields vs := by
  rcases x with ⟨_, ⟨sl, vs, h1, _⟩, _⟩ | ⟨T, _, _, ⟨sl, vs, h1, _⟩, _⟩ <;> exact ⟨_, _, h1, rfl, rfl⟩
theorem caught (fo : FO C f) (hm : Home f) {K : Addr} {c : Str} {np hp : Pos} {suite : List Stmt} {b₀ : Stmt} {nm : Option Str} {x : Exn} {ev : Value} {E : Value → Shared → Prop} {Q : Flow → Shared → Prop} (hg : isG f.ne f.env.scope c = true) (hK : C.X c = some K) (g : XS f σ h x m σ' ev s) (hx : x.cls = K)
    (q : ∀ e s₁, XG f m σ σ' h x .none e s₁ → codeAny (model f.prog f.w) (f.A.mark (some (.ref e))) (.handlers (.ref e) [.ExceptHandler none nm (b₀ :: suite) hp] f.env) (fun r s₂ => match r with
          | .ok fl => (match nm with
            | none => Q fl s₂
            | some n => wpAny (model f.prog f.w) f.A (do bindName f.env n .none; unbindBehindTheSuite f.env n hp) (fun _ s₃ => Q fl s₃) E s₂)
          | .error x => cameBackBy (model f.prog f.w) f.A f.env E x s₂) s₁) :
    wpAny (model f.prog f.w) f.A (noteFrame ev f.env) (fun _ s₂ => wpAny (model f.prog f.w) f.A (setFlight ev none) (fun _ s₃ => wpAny (model f.prog f.w) f.A (handleBy ev f.env [.ExceptHandler (some (.Name c np)) nm (b₀ :: suite) hp]) Q E s₃) E s₂) E s := by
  obtain ⟨e, fl, rfl, hf, g⟩ := g
  obtain ⟨L, outer, hL, hl⟩ := id hm.at_
  obtain ⟨G, ek⟩ := fo.cx.x c K hK
  refine g.note' hf fo.ok fo.ok.fr hm hL fun s₁ g₁ => g₁.land fo.ok fun s₂ g₂ => ?_
  refine wpAny_handleBy_cons (codeAny_handlers_test (glob_ok g₂.fs fo.ok hg G ?_)) (by intro q; cases q)
  obtain ⟨dx, X, fly, _⟩ := id g₂.ex
  obtain ⟨o, vs, ho, hc, _⟩ := fly.is
  exact ek.mat _ _ _ _ e o g₂.fs.at_.st ho (by rw [hc, hx]) (q e s₂ g₂)
theorem try0_st (fo : FO C f) (hm : Home f) {b : List Stmt} {rb : RP} {c y : Str} {np p ap hp kp : Pos} {k i : Nat} {v : Bool} (hg : isG f.ne f.env.scope c = true) (hy : f.ne.lookup y = some i) (hf : f.env.kindOf y ≠ some .free) (h1 : PsOk C f b rb) :
    StOk C f (.Try b [.ExceptHandler (some (.Name c np)) none [.Assign [.Name y p] (.Constant (.bool v) k kp) ap] hp] [] [] pos) (.try0 rb c i v) := by
  intro m σ s P E₀ x h xi
  obtain ⟨K, hK, hi, h⟩ := oS_inv h
  show wpAny _ _ (do standAt pos; tryStmt false (execs b f.env) [.ExceptHandler (some (.Name c np)) none [.Assign [.Name y p] (.Constant (.bool v) k kp) ap] hp] (execs [] f.env) [] f.env) _ _ s
  refine wpAny_bind (wpAny_standAt (wpAny_tryStmt_except (wpAny_mono (h1 x h (E₀ := fun ev s₁ => wpAny (model f.prog f.w) f.A (noteFrame ev f.env) (fun _ s₂ => wpAny (model f.prog f.w) f.A (setFlight ev none) (fun _ s₃ => wpAny (model f.prog f.w) f.A (handleBy ev f.env [.ExceptHandler (some (.Name c np)) none [.Assign [.Name y p] (.Constant (.bool v) k kp) ap] hp]) (PF f σ s.heap P) E₀ s₃) E₀ s₂) E₀ s₁) fun m₁ σ₁ s₁ y' ev g hP => ?_) (fun fl s₁ q => ?_) fun _ _ y => y)))
  · obtain ⟨hcls, hlen, hPn⟩ := hP
    refine caught fo hm hg hK g hcls fun ea s₂ g₂ => codeAny_handlers_suite (g₂.land fo.ok fun s₃ g₃ => ?_)
    refine wpAny_execs_cons ?_
    rw [exec_Assign_Name _ _ _ _ _ rfl]
    refine wpAny_bind (wpAny_standAt (wpAny_bind (wpAny_Constant_bool (wpAny_bind (wpAny_standAt (wpAny_bind (wpAny_bindName (g₃.fs.store fo.ok hy hf (by rw [hlen]; exact hi) (.bool v) fun s₄ x₄ k₄ _ => wpAny_pure (wpAny_execs_nil ?_)))))))))
    exact ⟨_, σ₁, x₄, g₃.kc.trans k₄, hPn⟩
  · cases fl with
    | next => exact wpAny_execs_nil q
    | cont => exact q
    | brk => exact q
    | ret cv => exact q
theorem XG.store {x : Exn} {ea : Addr} {z : Str} {i : Nat} {M : Model} {E : Value → Shared → Prop} {Q : Unit → Shared → Prop} (g : XG f m σ σ' h x .none ea s) (ok : f.Ok) (h0 : ∀ b ∈ f.own, ∃ o, h.get? b = some o) (hz : f.ne.lookup z = some i) (hk : f.env.kindOf z ≠ some .free) (hi : i < m.length)
    (q : ∀ s', XG f (m.set i (some (.ref ea))) σ σ' h x .none ea s' → Q () s') : wpAny M A (storeName f.env z (.ref ea)) Q E s := by
  obtain ⟨dx, X, fly, hX, hdx, hb⟩ := g.ex
  refine g.fs.store ok hz hk hi (.ref ea) fun s₁ x₁ k₁ _ => q s₁ ⟨x₁, g.kc.trans k₁, dx, X, ?_, hX, hdx, ?_⟩
  · rcases fly with ⟨rfl, ⟨sl, vs, h1, h2⟩, h3⟩ | ⟨T, rfl, hT, ⟨sl, vs, h1, h2⟩, ⟨o, ts, h3, h4, h5⟩⟩
    · exact .inl ⟨rfl, ⟨sl, vs, g.fs.stands ok k₁ h1 rfl, h2⟩, h3⟩
    · exact .inr ⟨T, rfl, hT, ⟨sl, vs, g.fs.stands ok k₁ h1 rfl, h2⟩, ⟨o, ts, g.fs.stands ok k₁ h3 h4, h4, h5⟩⟩
  · obtain ⟨es, n, cv, h1, h2, h3⟩ := hb
    refine ⟨es, n, cv, k₁.ex dx _ h1 (hX dx (.head _)).1 hdx (fun hm => ?_), h2, h3.mono (g.fs.tupKX k₁)⟩
    obtain ⟨o, e⟩ := h0 dx hm
    rw [(hX dx (.head _)).2.1] at e; exact no1 e
theorem try1_st (fo : FO C f) (hm : Home f) {b : List Stmt} {rb : RP} {c z t : Str} {np hp p1 p2 p3 p4 p5 p6 ip : Pos} {k1 k2 i : Nat} {v : Bool} (hg : isG f.ne f.env.scope c = true) (ht : sfB t = true) (hz : f.ne.lookup z = some i) (hk : f.env.kindOf z = some .local) (h1 : PsOk C f b rb) :
    StOk C f (.Try b [.ExceptHandler (some (.Name c np)) (some z) [.If (.Compare (.Attribute (.Name z p1) (Str.ofString "what") p2) [.Eq] [.Constant (.str t) k1 p3] p4) [.Return (some (.Constant (.bool v) k2 p5)) p6] [] ip] hp] [] [] pos) (.try1 rb c i t v) := by
  intro m σ s P E₀ x h xi
  obtain ⟨K, hK, hi, h⟩ := oS_inv h
  have h0 : ∀ b ∈ f.own, ∃ o, s.heap.get? b = some o := fun b hb => let ⟨o, e, _⟩ := x.ownDict b hb; ⟨o, e⟩
  generalize hst : Stmt.If (.Compare (.Attribute (.Name z p1) (Str.ofString "what") p2) [.Eq] [.Constant (.str t) k1 p3] p4) [.Return (some (.Constant (.bool v) k2 p5)) p6] [] ip = st
  show wpAny _ _ (do standAt pos; tryStmt false (execs b f.env) [.ExceptHandler (some (.Name c np)) (some z) [st] hp] (execs [] f.env) [] f.env) _ _ s
  refine wpAny_bind (wpAny_standAt (wpAny_tryStmt_except (wpAny_mono (h1 x h (E₀ := fun ev s₁ => wpAny (model f.prog f.w) f.A (noteFrame ev f.env) (fun _ s₂ => wpAny (model f.prog f.w) f.A (setFlight ev none) (fun _ s₃ => wpAny (model f.prog f.w) f.A (handleBy ev f.env [.ExceptHandler (some (.Name c np)) (some z) [st] hp]) (PF f σ s.heap P) E₀ s₃) E₀ s₂) E₀ s₁) fun m₁ σ₁ s₁ y' ev g hP => ?_) (fun fl s₁ q => ?_) fun _ _ y => y)))
  · obtain ⟨hcls, hlen, w, hw, hT, hF⟩ := hP
    have hi1 : i < m₁.length := by rw [hlen]; exact hi
    refine caught fo hm hg hK g hcls fun ea s₂ g₂ => codeAny_handlers_suite_as (g₂.land fo.ok fun s₃ g₃ => ?_)
    refine g₃.store fo.ok h0 hz (by rw [hk]; simp) hi1 fun s₄ g₄ => wpAny_execs_cons (hidW fun Q₁ E₁ hQ _ => ?_)
    subst hst
    refine wpAny_If (wpAny_isTrue_Compare1 ?_ rfl)
    rw [arm_eval_Attribute, base_ok rfl]
    refine wpAny_bind (g₄.fs.read fo.ok hz (List.getElem?_set_self hi1) fun zv rz => ?_)
    obtain rfl := rz.refInv
    obtain ⟨dx, X, fly, hX, hdx, hb⟩ := id g₄.ex
    rw [hw] at hb
    rw [hcls] at fly
    obtain ⟨_, ek⟩ := fo.cx.x c K hK
    refine wpAny_bind (wpAny_standAt (wpAny_bind (wpAny_holding (ek.attr _ _ _ _ _ _ _ _ g₄.fs.at_.st fly hb fun tk k => wpAny_bind (wpAny_letTemporaryGo (wpAny_pure ?_))))))
    refine wpAny_Constant_str ?_
    have x₅ := g₄.fs.toks fo.ok (k := k + 1)
    have hsw : SF w := by
      obtain ⟨es, n, cv, _, _, r⟩ := hb
      cases r; assumption
    refine wpAny_mono (cmp_ok x₅ fo.ok fo.cx.b (show (f.A.mark (some (.ref ea))).units ≤ 9000 from units_le fo x₅) (.str w tk hsw) (.str t _ (sfB_ok ht)) (Q := fun u σ₆ => u = .bool (w == t) ∧ σ₆ = σ₁) ?_) (fun cv s₆ p => p.elim fun u σ₆ x₆ r₆ k₆ hu => ?_) fun _ _ y => y
    · exact ⟨congrArg V.bool (by show PyData.eqv (.str w) (.str t) = _; simp [PyData.eqv]), rfl⟩
    · obtain ⟨rfl, rfl⟩ := hu
      refine truth_ok x₆ r₆ (Q := fun b => b = (w == t)) rfl fun b k' hb' => ?_
      subst hb'
      have x₇ := x₆.toks fo.ok (k := k')
      have kc := g₄.kc.trans k₆.own
      by_cases e : w = t
      · rw [if_pos (by simpa using e)]
        refine wpAny_execs_cons (wpAny_Return_some (wpAny_Constant_bool (hQ _ _ (name_goes x₇ fo.ok hz hk (by rw [List.length_set]; exact hi1) fun s₈ x₈ k₈ => ?_))))
        exact ⟨.bool v, _, _, x₈, .bool v, kc.trans k₈, hT e⟩
      · rw [if_neg (by simpa using e)]
        refine wpAny_execs_nil (hQ _ _ (wpAny_execs_nil (name_goes x₇ fo.ok hz hk (by rw [List.length_set]; exact hi1) fun s₈ x₈ k₈ => ⟨_, _, x₈, kc.trans k₈, ?_⟩)))
        rw [List.set_set]
        exact hF e
  · cases fl with
    | next => exact wpAny_execs_nil q
    | cont => exact q
    | brk => exact q
    | ret cv => exact q
end
structure Okp (C : Cx) (P : CP) : Prop where
  p : ∀ {f : Fx} {sc : Scope} {ss : List Stmt}, Sur C f sc → Home f → Y (P f.ne sc ss) (PsOk C f ss)
section
variable {C : Cx} {n : Nat} {f : Fx} {sc : Scope} {P : CP}
theorem tIx_inv {ne : NE} {t : PySem.Expr} {i : Nat} (h : tIx ne sc t = some i) : ∃ y p, t = .Name y p ∧ ne.lookup y = some i ∧ sc.names.lookup y ≠ some .free := by
  obtain ⟨y, h1, h2⟩ := obind h
  obtain ⟨p, e⟩ := asName_inv h1
  by_cases q : (sc.names.lookup y == some NameKind.free) = true
  · exact no2 (if_pos q) h2
  · rw [if_neg q] at h2
    exact ⟨_, _, e, h2, fun z => q (beq_iff_eq.mpr z)⟩
theorem Sur.nf (su : Sur C f sc) {y : Str} (h : sc.names.lookup y ≠ some .free) : f.env.kindOf y ≠ some .free := fun q => h (su.ag.f y q)
theorem Sur.nf' (su : Sur C f sc) {y : Str} (h : (!(sc.names.lookup y == some NameKind.free)) = true) : f.env.kindOf y ≠ some .free := su.nf fun q => by rw [q] at h; exact bft h
theorem tryA_inv {b : List Stmt} {y} (h : tryA b = some y) : ∃ p k kp ap, b = [.Assign [.Name y.1 p] (.Constant (.bool y.2) k kp) ap] := by
  refine Y.one (P := fun y => ∃ p k kp ap, b = [.Assign [.Name y.1 p] (.Constant (.bool y.2) k kp) ap]) (fun st h1 => .bind fun a h2 => .one fun t h3 => .bind fun n h4 => .bind fun v h5 => .so ?_) y h
  obtain ⟨ap, e2⟩ := asAssign_inv h2
  obtain ⟨p, e4⟩ := asName_inv h4
  obtain ⟨k, kp, e5⟩ := asBoolC_inv h5
  exact ⟨p, k, kp, ap, by rw [h1, e2, h3, e4, e5]⟩
theorem tryR_inv {b : List Stmt} {y} (h : tryR b = some y) :
    ∃ p1 p2 k1 p3 p4 k2 p5 p6 pos, b = [.If (.Compare (.Attribute (.Name y.1 p1) y.2.1 p2) [.Eq] [.Constant (.str y.2.2.1) k1 p3] p4) [.Return (some (.Constant (.bool y.2.2.2) k2 p5)) p6] [] pos] := by
  refine Y.one (P := fun y => ∃ p1 p2 k1 p3 p4 k2 p5 p6 pos, b = [.If (.Compare (.Attribute (.Name y.1 p1) y.2.1 p2) [.Eq] [.Constant (.str y.2.2.1) k1 p3] p4) [.Return (some (.Constant (.bool y.2.2.2) k2 p5)) p6] [] pos])
    (fun st h1 => .bind fun i h2 => .bind fun c h3 => .bind fun a h4 => .bind fun z h5 => .one fun k h6 => .bind fun t h7 => .one fun st' h8 => .bind fun e h9 => .bind fun e' h10 => .bind fun v h11 => .yes fun hc => .so ?_) y h
  obtain ⟨pos, e2⟩ := asIf_inv h2
  obtain ⟨p4, e3⟩ := asCmp_inv h3
  obtain ⟨p2, e4⟩ := asAttr_inv h4
  obtain ⟨p1, e5⟩ := asName_inv h5
  obtain ⟨k1, p3, e7⟩ := asStrC_inv h7
  obtain ⟨p6, e9⟩ := asRet_inv h9
  obtain ⟨k2, p5, e11⟩ := asBoolC_inv h11
  exact ⟨p1, p2, k1, p3, p4, k2, p5, p6, pos, by rw [h1, e2, e3, e4, e5, h6, e7, h8, e9, h10, e11, eq_of_beq (and2 hc).1, List.isEmpty_iff.mp (and2 hc).2]⟩
theorem exH_eq (h : ExceptHandler) : ∃ p, h = .ExceptHandler (exH h).1 (exH h).2.1 (exH h).2.2 p := by cases h; exact ⟨_, rfl⟩
theorem setl_comp_y (su : Sur C f sc) {y : Str} {p pos cp : Pos} {elt : PySem.Expr} {gens : List Comprehension} {sc' : Scope} {i : Nat} (hc : swapsOk sc y p (.ListComp elt gens sc' cp) = true) (hi : f.ne.lookup y = some i) :
    Y (cE n f.ne sc (.ListComp elt gens sc' cp)) fun a => StOk C f (.Assign [.Name y p] (.ListComp elt gens sc' cp) pos) (.setl i a) := by
  cases n with
  | zero => exact .no
  | succ n =>
    have ih := okn C n
    refine comp_parts (rec := cE n) fun t tp it ifs eg hs so htl => ?_
    subst eg
    have hw : (sc.kind == .function && sc.names.lookup y == some .local && p.line == cp.line && !(sc'.names.any fun x => x.1 == y && (x.2 == .local || x.2 == .cell)) && (dvOf sc sc' elt t it ifs).isNone) = true := hc
    have w := and2 hw
    have w1 := and2 w.1
    have w2 := and2 w1.1
    refine ⟨fun d i hd _ => ?_, fun src j c re hd h1 he h2 h3 h4 => ?_⟩
    · have q := w.2
      rw [hd] at q; exact bft q
    · exact setl_comp su.fo so su.ag su.cov h2 htl (fun y => notSet_fold hs _ y) (iter_y ih su _ h1 fun e => by rw [he] at e; exact bft e) (fun Cl => (ih.e (su.inner so Cl) _ h4).1) (fun Cl => ifs_y ih (su.inner so Cl) _ h3) hi (su.ag.l _ (eq_of_beq (and2 w2.1).2)) (Bool.and_eq_true_iff.mpr ⟨w2.2, w1.2⟩)
theorem asg_y (su : Sur C f sc) {t e : PySem.Expr} {pos : Pos} : Y (cAsg (cE n) f.ne sc t e) (StOk C f (.Assign [t] e pos)) := by
  have ih := okn C n
  cases t <;> first | exact .no | skip
  case Name y p =>
    refine .yes fun hc => .bind fun i hi => .map fun a h1 => ?_
    have sw := (and2 hc).1
    cases hq : asComp e with
    | some c => obtain rfl := asComp_inv hq; exact setl_comp_y su sw hi a h1
    | none =>
      unfold swapsOk at sw
      rw [hq] at sw
      exact setl_st su.fo (by rw [← Bool.not_eq_true']; exact sw) hi (su.nf' (and2 hc).2) (ih.e su _ h1).1
  case Attribute o y p => exact .not fun hc => .bind fun a h1 => .map fun b h2 => seta_st su.fo (nor2 hc).1 (ih.e su _ h2).1 (ih.e su _ h1).1
  case Subscript o i p => exact .not fun hc => .bind fun a h1 => .bind fun b h2 => .map fun c h3 => seti_st su.fo (nor2 hc).1 (ih.e su _ h3).1 (ih.e su _ h1).1 (ih.e su _ h2).1
  case Tuple us k p =>
    refine .ocase (fun _ => .not fun hc => .two fun a b el => .bind fun i h1 => .bind fun j h2 => .map fun v h3 => ?_) fun es hes => .yes fun hc => .bind fun ns h1 => .bind fun is h2 => .map fun l h3 => ?_
    · obtain ⟨y, q, ea, hy, hf⟩ := tIx_inv h1
      obtain ⟨z, q', eb, hz, hg⟩ := tIx_inv h2
      rw [el, show a = _ from ea, show b = _ from eb]
      exact set2_st su.fo (nor2 hc).1 (nor2 hc).2 hy (su.nf hf) hz (su.nf hg) (ih.e su _ h3).1
    · obtain ⟨k', p', rfl⟩ := asTuple_inv hes
      exact sets_st su.fo su.ag ih hc h1 h2 h3 (list_ok ih su _ h3).v
theorem for_y (ihp : Okp C P) (su : Sur C f sc) (hm : Home f) {t it : PySem.Expr} {b : List Stmt} {pos : Pos} (hs : notSet it = true) : Y (cFor (cE n) P f.ne sc t it b) (StOk C f (.For t it b [] pos)) := by
  have ih := okn C n
  refine .ocase (fun _ => .bind fun i h1 => .bind fun src h2 => .not fun he => .map fun rb h3 => ?_) fun ts hts => .two fun a c el => .bind fun i h1 => .bind fun j h2 => .bind fun src h3 => .map fun rb h4 => ?_
  · obtain ⟨y, q, rfl, hy, hf⟩ := tIx_inv h1
    exact for1_st su.fo hm hs hy (su.nf hf) (iter_y ih su _ h2 fun e => absurd e he) (ihp.p su hm _ h3)
  · obtain ⟨k, p, rfl⟩ := asTuple_inv hts
    obtain ⟨y, q, ea, hy, hf⟩ := tIx_inv h1
    obtain ⟨z, q', eb, hz, hg⟩ := tIx_inv h2
    rw [el, show a = _ from ea, show c = _ from eb]
    exact for2_st su.fo hm hs hy (su.nf hf) hz (su.nf hg) (iter_y ih su _ h3 fun _ => ⟨_, _, _, rfl⟩) (ihp.p su hm _ h4)
theorem try_y (ihp : Okp C P) (su : Sur C f sc) (hm : Home f) {b hb : List Stmt} {c : Str} {np hp pos : Pos} {nm : Option Str} (hg : isG f.ne sc c = true) :
    Y (cTry P f.ne sc b c nm hb) (StOk C f (.Try b [.ExceptHandler (some (.Name c np)) nm hb hp] [] [] pos)) :=
  .ocase (fun hn => .bind fun y h1 => .yes fun hc => .bind fun i h2 => .map fun rb h3 => by
      obtain ⟨p, k, kp, ap, rfl⟩ := tryA_inv h1
      rw [hn]
      exact try0_st su.fo hm (su.ag.isG hg) h2 (su.nf' hc) (ihp.p su hm _ h3))
    fun z hz => .bind fun x h1 => .yes fun hc => .bind fun i h2 => .map fun rb h3 => by
      obtain ⟨z', w, t, v⟩ := x
      obtain ⟨p1, p2, k1, p3, p4, k2, p5, p6, pos', rfl⟩ := tryR_inv h1
      have c1 := and2 hc
      have c2 := and2 c1.1
      have c3 := and2 c2.1
      have hw : w = Str.ofString "what" := eq_of_beq c3.2
      rw [hz, show z' = z from eq_of_beq c3.1, hw]
      exact try1_st su.fo hm (su.ag.isG hg) c2.2 h2 (su.ag.l _ (eq_of_beq c1.2)) (ihp.p su hm _ h3)
theorem step_s (ihp : Okp C P) (su : Sur C f sc) (hm : Home f) {st : Stmt} : Y (stepS (cE n) P f.ne sc st) (StOk C f st) := by
  have ih := okn C n
  cases st <;> first | exact .no | skip
  case Return v pos => exact .bind fun e he => .map fun a h1 => by rw [he]; exact ret_st (ih.e su _ h1).1
  case Assign ts e pos => exact .one fun t ht => by rw [ht]; exact asg_y su
  case For t it b o pos => exact .yes fun hc => by rw [List.isEmpty_iff.mp (and2 hc).1]; exact for_y ihp su hm (and2 hc).2
  case While t b o pos => exact .yes fun ho => .bind fun a h1 => .map fun rb h2 => by rw [List.isEmpty_iff.mp ho]; exact whl_st su.fo hm (ih.e su _ h1).2 (ihp.p su hm _ h2)
  case If t b o pos => exact .bind fun a h1 => .bind fun rb h2 => .map fun ro h3 => if_st (ih.e su _ h1).2 (ihp.p su hm _ h2) (ihp.p su hm _ h3)
  case Raise ex cause pos =>
    refine .yes fun hn => .bind fun e he => .bind fun c hc => .yes fun hg => .map fun a h1 => ?_
    obtain ⟨p, q, e2⟩ := callName1_inv hc
    rw [he, Option.isNone_iff_eq_none.mp hn, e2]
    exact rai_st su.fo (su.ag.isG hg) (fun env => (ih.p _ h1).1 env []) (ih.e su _ h1).1
  case Try b hs o g pos =>
    refine .one fun h hh => .bind fun t ht => .bind fun c hc => .yes fun hx => ?_
    obtain ⟨hp, e1⟩ := exH_eq h
    obtain ⟨np, e2⟩ := asName_inv hc
    have c1 := and2 hx
    have c2 := and2 c1.1
    rw [hh, e1, ht, e2, List.isEmpty_iff.mp c2.1, List.isEmpty_iff.mp c2.2]
    exact try_y ihp su hm c1.2
  case Expr e pos => exact .not fun hc => .map fun a h1 => exp_st su.fo (eq_false_of_ne_true hc) (ih.e su _ h1).1
  case Continue pos => exact .so cont_st
theorem seq_y {S : NE → Scope → Stmt → Option RS} (ih : ∀ {f : Fx} {sc : Scope} {st : Stmt}, Sur C f sc → Home f → Y (S f.ne sc st) (StOk C f st)) (su : Sur C f sc) (hm : Home f) : ∀ {ss : List Stmt}, Y (seqS S f.ne sc ss) (PsOk C f ss)
  | [] => .so ps_nil
  | s :: ss => .bind fun a h1 => .map fun l h2 => ps_cons (ih su hm _ h1) (seq_y ih su hm l h2)
theorem oks (C : Cx) : ∀ n, ∀ {f : Fx} {sc : Scope} {st : Stmt}, Sur C f sc → Home f → Y (cS n f.ne sc st) (StOk C f st)
  | 0, _, _, _, _, _ => .no
  | n + 1, _, _, _, su, hm => step_s ⟨fun su hm => seq_y (oks C n) su hm⟩ su hm
theorem okp (C : Cx) (n : Nat) : Okp C (cP n) := ⟨fun su hm => seq_y (oks C n) su hm⟩
end
theorem cells_names (names : List (Str × NameKind)) : ∀ (n : Nat) (acc : List (Str × Addr)), (cellsFrom n names acc).map (·.1) = ((names.filter (·.2 == .cell)).map (·.1)).reverse ++ acc.map (·.1) := by
  induction names with
  | nil => exact fun _ _ => rfl
  | cons a r ih =>
    intro n acc
    obtain ⟨x, k⟩ := a
    unfold cellsFrom
    rw [List.filter_cons]
    cases k == NameKind.cell with
    | true =>
      refine (ih _ _).trans ?_
      show _ = ((x :: _).reverse) ++ _
      rw [List.reverse_cons, List.append_assoc]; rfl
    | false => exact ih _ _
theorem cells_lookup {names : List (Str × NameKind)} {n : Nat} {x : Str} (h : names.lookup x = some .cell) : ∃ c, (cellsFrom n names []).lookup x = some c := by
  have hm : x ∈ (cellsFrom n names []).map (·.1) := by
    rw [cells_names, List.map_nil, List.append_nil, List.mem_reverse]
    exact List.mem_map.mpr ⟨(x, .cell), List.mem_filter.mpr ⟨mem_of_lookup h, rfl⟩, rfl⟩
  obtain ⟨⟨y, c⟩, hy, rfl⟩ := List.mem_map.mp hm
  exact lookup_of_mem hy
theorem fun_of_nodup {α : Type} {x : Str} {c c' : α} {l : List (Str × α)} : (l.map (·.1)).Nodup → (x, c) ∈ l → (x, c') ∈ l → c = c' := by
  induction l with
  | nil => nofun
  | cons a r ih =>
    intro hn h h'
    have nd : a.1 ∉ r.map (·.1) ∧ (r.map (·.1)).Nodup := List.nodup_cons.mp hn
    have off : ∀ {d}, (x, d) ∈ r → (x, d).1 ≠ a.1 := fun q e => nd.1 (e ▸ List.mem_map_of_mem q)
    exact (List.mem_cons.mp h).elim (fun e => (List.mem_cons.mp h').elim (fun e' => (Prod.mk.inj (e.trans e'.symm)).2) fun q => (off q (congrArg (·.1) e)).elim)
      fun q => (List.mem_cons.mp h').elim (fun e' => (off q (congrArg (·.1) e')).elim) (ih nd.2 q)
section
variable {k : Str → Option NameKind}
theorem bindL_off {y : Str} {bs : List (Str × Value)} : ∀ {m : Str → Option Value}, y ∉ bs.map (·.1) → bindL k bs m y = m y := by
  induction bs with
  | nil => exact fun _ => rfl
  | cons a r ih =>
    intro m h
    refine (ih fun q => h (.tail _ q)).trans ?_
    split
    · exact if_neg fun e : y = a.1 => h (by rw [e]; exact .head _)
    · rfl
theorem bindC_off {y : Str} {bs : List (Str × Value)} : ∀ {m : Str → Option Value}, y ∉ bs.map (·.1) → bindC k bs m y = m y := by
  induction bs with
  | nil => exact fun _ => rfl
  | cons a r ih =>
    intro m h
    refine (ih fun q => h (.tail _ q)).trans ?_
    split
    · rfl
    · exact if_neg fun e : y = a.1 => h (by rw [e]; exact .head _)
theorem bindL_get {y : Str} {v : Value} (hy : k y = some .local) {bs : List (Str × Value)} : ∀ {m : Str → Option Value}, (bs.map (·.1)).Nodup → bs.lookup y = some v → bindL k bs m y = some v := by
  induction bs with
  | nil => exact fun _ h => no2 rfl h
  | cons a r ih =>
    intro m hn h
    obtain ⟨n, u⟩ := a
    have nd : n ∉ r.map (·.1) ∧ (r.map (·.1)).Nodup := List.nodup_cons.mp hn
    rw [List.lookup_cons] at h
    by_cases e : y = n
    · subst e
      rw [beq_self_eq_true] at h
      refine (bindL_off nd.1).trans ?_
      rw [if_pos hy]; exact (if_pos rfl).trans h
    · rw [beq_false_of_ne e] at h
      exact ih nd.2 h
theorem bindC_get {y : Str} {v : Value} (hy : k y ≠ some .local) {bs : List (Str × Value)} : ∀ {m : Str → Option Value}, (bs.map (·.1)).Nodup → bs.lookup y = some v → bindC k bs m y = some v := by
  induction bs with
  | nil => exact fun _ h => no2 rfl h
  | cons a r ih =>
    intro m hn h
    obtain ⟨n, u⟩ := a
    have nd : n ∉ r.map (·.1) ∧ (r.map (·.1)).Nodup := List.nodup_cons.mp hn
    rw [List.lookup_cons] at h
    by_cases e : y = n
    · subst e
      rw [beq_self_eq_true] at h
      refine (bindC_off nd.1).trans ?_
      rw [if_neg hy]; exact (if_pos rfl).trans h
    · rw [beq_false_of_ne e] at h
      exact ih nd.2 h
end
noncomputable def initM (ne : NE) (ps : List Str) (vs : List V) : M := ne.map fun x => (ps.zip vs).lookup x.1
structure FunSc (sc : Scope) (ps : List Str) : Prop where
  kind : sc.kind = .function
  gen : sc.isGenerator = false
  co : sc.isCoroutine = false
  names : ∀ x k, (x, k) ∈ sc.names → (x == ("__debug__" : Str)) = false ∧ (k = .local ∨ k = .cell ∨ k = .globalImplicit)
  nd : (sc.names.map (·.1)).Nodup
  pk : ∀ x ∈ ps, sc.names.lookup x = some .local ∨ sc.names.lookup x = some .cell
  pn : ps.Nodup
noncomputable def funScB (sc : Scope) (ps : List Str) : Bool := sc.kind == .function && !sc.isGenerator && !sc.isCoroutine &&
  (sc.names.all fun x => !(x.1 == ("__debug__" : Str)) && (x.2 == .local || x.2 == .cell || x.2 == .globalImplicit)) && decide (sc.names.map (·.1)).Nodup && (ps.all fun x => sc.names.lookup x == some .local || sc.names.lookup x == some .cell) && decide ps.Nodup
theorem funSc_of {sc : Scope} {ps : List Str} (h : funScB sc ps = true) : FunSc sc ps := by
  simp only [funScB, Bool.and_eq_true, beq_iff_eq, Bool.not_eq_true', List.all_eq_true, Bool.or_eq_true, decide_eq_true_eq] at h
  obtain ⟨⟨⟨⟨⟨⟨h1, h2⟩, h3⟩, h4⟩, h5⟩, h6⟩, h7⟩ := h
  exact ⟨h1, h2, h3, fun x k hm => ⟨(h4 _ hm).1, by rcases (h4 _ hm).2 with (h | h) | h; exact .inl h; exact .inr (.inl h); exact .inr (.inr h)⟩, h5, h6, h7⟩
theorem lookup_nd {α : Type} {x : Str} {k : α} {l : List (Str × α)} : (l.map (·.1)).Nodup → (x, k) ∈ l → l.lookup x = some k := by
  induction l with
  | nil => nofun
  | cons a r ih =>
    intro hn h
    have nd : a.1 ∉ r.map (·.1) ∧ (r.map (·.1)).Nodup := List.nodup_cons.mp hn
    rw [List.lookup_cons]
    refine (List.mem_cons.mp h).elim (fun e => ?_) fun h => ?_
    · rw [← e, show (x == (x, k).1) = true from beq_self_eq_true x]
    · have : x ≠ a.1 := fun e => nd.1 (e ▸ List.mem_map.mpr ⟨_, h, rfl⟩)
      rw [beq_false_of_ne this]
      exact ih nd.2 h
theorem zip_val {h : Heap} {ps : List Str} {x : Str} {v : V} : ∀ {cvs : List Value} {vs : List V}, RvL h cvs vs → (ps.zip vs).lookup x = some v → ∃ cv, (ps.zip cvs).lookup x = some cv ∧ Rv h cv v := by
  induction ps with
  | nil => exact fun _ e => no2 rfl e
  | cons p ps ih =>
    refine fun r => r.ind (p := fun cvs vs => ((p :: ps).zip vs).lookup x = some v → ∃ cv, ((p :: ps).zip cvs).lookup x = some cv ∧ Rv h cv v) (fun e => no2 rfl e) fun hv hl _ e => ?_
    rw [List.zip_cons_cons, List.lookup_cons] at e ⊢
    cases q : x == p with
    | true => rw [q] at e; obtain rfl := Option.some.inj e; exact ⟨_, rfl, hv⟩
    | false => rw [q] at e; exact ih hl e
theorem zip_fst {α : Type} {ps : List Str} : ∀ {cvs : List α}, cvs.length = ps.length → (ps.zip cvs).map (·.1) = ps := by
  induction ps with
  | nil => exact fun _ => rfl
  | cons p ps ih => exact fun {cvs} => cvs.casesOn (fun e => (Nat.succ_ne_zero _ e.symm).elim) fun _ _ e => congrArg (p :: ·) (ih (Nat.succ.inj e))
theorem initM_get {sc : Scope} {ps : List Str} {vs : List V} {x : Str} {i : Nat} {v : V} (h : (NE.of sc).lookup x = some i) (hm : (initM (NE.of sc) ps vs)[i]? = some (some v)) : (ps.zip vs).lookup x = some v := by
  have h1 : (NE.of sc)[i]? = some (x, i) := by
    have := NE.get h
    show ((neNames sc).zipIdx)[i]? = _
    rw [List.getElem?_zipIdx, this]; simp
  unfold initM at hm
  rw [List.getElem?_map, h1] at hm
  simpa using hm
theorem Kc.called {Fs X : List Addr} {L : Addr} {σ σ' : AS} {h h₁ h' : Heap} (k : ∀ b o, h.get? b = some o → h₁.get? b = some o) (c : Kc (L :: Fs) X σ σ' h₁ h') (hL : h.get? L = none) (hX : ∀ b ∈ X, h.get? b = none) : Kc Fs [] σ σ' h h' := by
  have nX : ∀ b o, h.get? b = some o → b ∉ X := fun b o e hm => by exact no2 (hX b hm) e
  refine ⟨fun b o e hs hf _ => c.ex b o (k b o e) hs (fun hm => ?_) (nX b o e), fun b o e hf _ => c.sl b o (k b o e) (.tail _ hf) (nX b o e), fun b o e hs => c.nw b o (k b o e) hs, fun b o e => c.pr b o (k b o e)⟩
  rcases List.mem_cons.mp hm with rfl | hm
  · exact no2 hL e
  · exact hf hm
theorem XS.leave {f : Fx} {σ σ' : AS} {h : Heap} {m : M} {x : Exn} {ev : Value} {s : Shared} {E : Value → Shared → Prop} {Q : Unit → Shared → Prop} (g : XS f σ h x m σ' ev s) (ok : f.Ok) (hm : Home f)
    (q : ∀ e s', XG f m σ σ' h x .none e s' → ev = .ref e → Q () s') : wpAny (model f.prog f.w) f.A (leaving f.env ev) Q E s := by
  obtain ⟨e, fl, rfl, hf, g⟩ := g
  obtain ⟨L, outer, hL, hl⟩ := id hm.at_
  unfold leaving
  exact wpAny_bind (g.note' hf ok ok.fr hm hL fun s₁ g₁ => g₁.land ok fun s₂ g₂ => q e s₂ g₂ rfl)
section
variable {prog : Program} {w : World} {hB : Heap} {os0 : OsState} {n : Nat} {C : Cx}
noncomputable abbrev callee (prog : Program) (w : World) (hB : Heap) (os0 : OsState) (A : Around) (l : List Env) (n : Nat) (sc : Scope) (env : Env) : Fx := { prog := prog, w := w, hB := hB, os0 := os0, A := A.deeper env, l := env :: l, env := env, k := n, ne := NE.of sc }
structure Entered (C : Cx) (prog : Program) (w : World) (hB : Heap) (os0 : OsState) (A : Around) (l : List Env) (n : Nat) (sc : Scope) (m : M) (σ : AS) (s : Shared) (env : Env) (s₁ : Shared) : Prop where
  scope : env.scope = sc
  frame : env.frame = some s.heap.objs.size
  su : Sur C (callee prog w hB os0 A l n sc env) sc
  home : Home (callee prog w hB os0 A l n sc env)
  fs : FS (callee prog w hB os0 A l n sc env) m σ s₁
  keep : ∀ b o, s.heap.get? b = some o → s₁.heap.get? b = some o
  back : ∀ σ' s' m', FS (callee prog w hB os0 A l n sc env) m' σ' s' → Mine.At prog w hB os0 A (n + 1) σ' s'
  kcb : ∀ (σ' : AS) (s' : Shared), Kc (frs (env :: l)) (env.locals :: env.cells.map (·.2)) σ σ' s₁.heap s'.heap → Kc (frs l) [] σ σ' s.heap s'.heap
  sub : ∀ b ∈ frs l, b ∈ frs (env :: l)
theorem call_cellsB {prog : Program} {w : World} {A : Around} {s : Shared} {R : Result → Shared → Prop} {a : Addr} {o : Obj} {fd : FuncData} {body : List Stmt} {vals : List Value} {binds : List (Str × Value)}
    (hroom : A.depth < recursionLimit) (ho : s.heap.get? a = some o) (hdata : o.data = .func fd) (hlim : s.heap.NoLimit) (hcd : s.heap.CodeRec fd.code fd.qualname)
    (hbody : fd.body = .stmts body) (hbind : BindsTo s fd ⟨vals, []⟩ binds) (hclo : fd.closure = [])
    (hkind : ∀ x ∈ binds, fd.scope.names.lookup x.1 = some .local ∨ (fd.scope.names.lookup x.1 = some .cell ∧ ((cellsFrom (s.heap.objs.size + 1) fd.scope.names []).lookup x.1).isSome = true))
    (h : ∀ s₁, InCallC s (callEnvC fd s.heap.objs.size a).locals (bindL (callEnvC fd s.heap.objs.size a).kindOf binds fun _ => none) (callEnvC fd s.heap.objs.size a).cells
        (bindC (callEnvC fd s.heap.objs.size a).kindOf binds fun _ => none) s₁ →
      wpAny (model prog w) (A.deeper (callEnvC fd s.heap.objs.size a)) (execs body (callEnvC fd s.heap.objs.size a)) (fun f s' => R (.ok (.ret (match f with | .ret v => v | _ => .none))) s')
        (fun e s' => wpAny (model prog w) (A.deeper (callEnvC fd s.heap.objs.size a)) (leaving (callEnvC fd s.heap.objs.size a) e) (fun _ s'' => R (.error e) s'') (fun e' s'' => R (.error e') s'') s') s₁)
    (hco : fd.scope.isCoroutine = false) (hgen : fd.scope.isGenerator = false) (hk : fd.scope.kind = .function) :
    codeAny (model prog w) A (.call (.ref a) ⟨vals, []⟩) R s := by
  refine codeAny_call_function hroom ho hdata hco hgen hbody hcd (hbind _ _ _ _ ?_)
  rw [hclo]
  refine wpAny_newFunctionEnv_cells hk hkind fun env he s' x => ?_
  subst he
  exact ⟨hlim.keeps x.toInCall.keep, codeAny_func (h s' x)⟩
theorem fun_enter (cx : CxO C prog w hB os0 n) {a : Addr} {o : Obj} {fd : FuncData} {body : List Stmt} {ps : List Str} (ho : hB.get? a = some o) (hdata : o.data = .func fd) (hcd : hB.CodeRec fd.code fd.qualname) (hbody : fd.body = .stmts body) (hclo : fd.closure = [])
    (hglob : fd.globals = mainGlobals) (hbi : fd.builtins = builtinsNs) (hsc : FunSc fd.scope ps) {A : Around} {l : List Env} {σ : AS} {s : Shared} {cvs cvs' : List Value} {vs : List V} (hbind : BindsTo s fd ⟨cvs, []⟩ (ps.zip cvs')) (hlen : vs.length = ps.length)
    (hfr : A.frames = some l) (at_ : Mine.At prog w hB os0 A (n + 1) σ s) (hr : RvL s.heap cvs' vs) {R : Result → Shared → Prop}
    (go : ∀ env s₁, Entered C prog w hB os0 A l n fd.scope (initM (NE.of fd.scope) ps vs) σ s env s₁ →
      wpAny (model prog w) (A.deeper env) (execs body env) (fun fl s' => R (.ok (.ret (match fl with | .ret v => v | _ => .none))) s') (fun e s' => wpAny (model prog w) (A.deeper env) (leaving env e) (fun _ s'' => R (.error e) s'') (fun e' s'' => R (.error e') s'') s') s₁) :
    codeAny (model prog w) A (.call (.ref a) ⟨cvs, []⟩) R s := by
  have hcl : cvs'.length = ps.length := hr.length.trans hlen
  have hL : s.heap.get? s.heap.objs.size = none := get_size _
  obtain ⟨l', hl', ff, fσ⟩ := at_.fr
  obtain rfl := inj2 hfr hl'
  have hdp := at_.dp
  have hun := at_.un
  have hz1 := zip_fst (ps := ps) hcl
  refine call_cellsB (show A.depth < 1000 by omega) (at_.st _ _ ho) hdata (cx.base.lim.keeps at_.st) (hcd.keeps at_.st) hbody hbind hclo (fun x hx => ?_) (fun s₁ ic => ?_) hsc.co hsc.gen hsc.kind
  · have hm : x.1 ∈ ps := by rw [← hz1]; exact List.mem_map.mpr ⟨x, hx, rfl⟩
    rcases hsc.pk _ hm with h | h
    · exact .inl h
    · obtain ⟨c, hc⟩ := cells_lookup (n := s.heap.objs.size + 1) h
      exact .inr ⟨h, by rw [hc]; rfl⟩
  generalize henv : callEnvC fd s.heap.objs.size a = env at ic ⊢
  have e1 : env.scope = fd.scope := by rw [← henv]; rfl
  have e2 : env.locals = s.heap.objs.size := by rw [← henv]; rfl
  have e3 : env.frame = some s.heap.objs.size := by rw [← henv]; rfl
  have e4 : env.cells = cellsFrom (s.heap.objs.size + 1) fd.scope.names [] := by rw [← henv]; rfl
  have e5 : env.globals = mainGlobals := by rw [← henv]; exact hglob
  have e6 : env.builtins = builtinsNs := by rw [← henv]; exact hbi
  have ek : ∀ x, env.kindOf x = fd.scope.names.lookup x := fun x => by unfold Env.kindOf; rw [e1]
  rw [e2] at ic
  have keep := ic.toInCall.keep
  obtain ⟨h₁, tk, rfl⟩ := ic.toInCall.same
  have hlt : ∀ b o, s.heap.get? b = some o → b < s.heap.objs.size := fun b o e => Heap.lt_size e
  have cnew : ∀ x c, (x, c) ∈ env.cells → s.heap.get? c = none := fun x c hm => Heap.get?_none_of_le (Nat.le_of_lt (ic.above x c hm))
  have σnew : ∀ b, s.heap.get? b = none → σ b = none := fun b hb => by
    refine isN fun ao q => ?_
    obtain ⟨_, e, _⟩ := (at_.obj b ao q).1.lt; exact no2 hb e
  have Bnew : ∀ b, s.heap.get? b = none → hB.get? b = none := fun b hb => by
    refine isN fun o q => ?_
    exact no2 hb (at_.st _ _ q)
  have tk1 : TupK s.heap h₁ := fun b o e _ _ => ⟨o.slots, keep b o e⟩
  have hnd : (env.cells.map (·.1)).Nodup := by
    rw [e4, cells_names, List.map_nil, List.append_nil]
    exact List.pairwise_reverse.mpr ((hsc.nd.sublist (List.Sublist.map _ List.filter_sublist)).imp Ne.symm)
  have fok : (callee prog w hB os0 A l n fd.scope env).Ok :=
    ⟨cx.base, by show env.scope.isGenerator = _; rw [e1]; exact hsc.gen, by show env.scope.isCoroutine = _; rw [e1]; exact hsc.co, by show env.scope.kind = _; rw [e1]; exact hsc.kind, e5, e6, by show (A.frames.map (env :: ·)) = _; rw [hfr]; rfl,
      fun x i h => (by
        obtain ⟨k, hm, hk⟩ := NE.mem h
        obtain ⟨h0, h1⟩ := hsc.names x k hm
        have hl := lookup_nd hsc.nd hm
        refine ⟨h0, ?_⟩
        show env.kindOf x = _ ∨ (env.kindOf x = _ ∨ env.kindOf x = _ ∧ _) ∧ ∃ c, env.cells.lookup x = some c
        rw [ek, hl, e4]
        rcases h1 with rfl | rfl | rfl
        · exact .inl rfl
        · exact .inr ⟨.inl rfl, cells_lookup hl⟩
        · rcases hk with h | h | h <;> cases h),
      fun x y i h h' => NE.inj h h', fun x y c h h' => name_of_addr ic.apart h h', fun x c c' h h' => fun_of_nodup hnd h h'⟩
  have hpn : ((ps.zip cvs').map (·.1)).Nodup := by rw [hz1]; exact hsc.pn
  have x₁ : FS (callee prog w hB os0 A l n fd.scope env) (initM (NE.of fd.scope) ps vs) σ { s with heap := h₁, toks := tk } := by
    obtain ⟨oL, es, ep, eL, dL, _⟩ := id ic.toInCall.ns
    refine ⟨⟨fun b o e => keep b o (at_.st b o e), fun b ao e => ⟨(at_.obj b ao e).1.at (fun ob eb => keep _ _ eb) tk1, (at_.obj b ao e).2⟩,
      ⟨env :: l, by show (A.frames.map (env :: ·)) = _; rw [hfr]; rfl, ⟨by rw [e1, hsc.kind]; simp, ⟨_, oL, e3, Bnew _ hL, eL, fun vs q => by rw [dL] at q; cases q⟩, funFrames_of ff fun b hb o e => ⟨o, keep b o e, rfl⟩⟩, fun b hb => ?_⟩, at_.hd, ?_, ?_, at_.gens, at_.os⟩,
      ⟨_, by show h₁.Ns env.locals _; rw [e2]; exact ic.toInCall.ns, fun y i v h1 h2 h3 => ?_⟩, fun y c hy => ?_, by show σ env.locals = none; rw [e2]; exact σnew _ hL, fun y c hy => σnew _ (cnew y c hy), by show hB.get? env.locals = none; rw [e2]; exact Bnew _ hL, fun y c hy => Bnew _ (cnew y c hy)⟩
    · simp only [frs, List.filterMap_cons, e3] at hb
      rcases List.mem_cons.mp hb with rfl | hb
      · exact σnew _ hL
      · exact fσ b hb
    · show A.depth + 1 + 4 * n ≤ 800; omega
    · show A.units + 3 + 60 * n ≤ 6000; omega
    · obtain ⟨cv, hcv, rv⟩ := zip_val hr (initM_get h1 h3)
      exact ⟨cv, bindL_get h2 hpn hcv, rv.mono tk1⟩
    · have hyl := lookup_nd hnd hy
      obtain ⟨oc, ec, dc⟩ := ic.cell y c hyl
      refine ⟨oc, _, ec, dc, fun i u h1 h2 h3 => ?_⟩
      obtain ⟨cv, hcv, rv⟩ := zip_val hr (initM_get h1 h3)
      exact ⟨cv, bindC_get h2 hpn hcv, rv.mono tk1⟩
  have fo : FO C (callee prog w hB os0 A l n fd.scope env) := ⟨fok, cx⟩
  have home : Home (callee prog w hB os0 A l n fd.scope env) := ⟨_, l, e3, rfl⟩
  have su : Sur C (callee prog w hB os0 A l n fd.scope env) fd.scope := ⟨fo, e1 ▸ Agree.refl env, fun x h => by
    show ∃ c, env.cells.lookup x = some c
    rw [e4]; exact cells_lookup h⟩
  have hfrs : frs (env :: l) = s.heap.objs.size :: frs l := by simp [frs, e3]
  have own : ∀ b ∈ env.locals :: env.cells.map (·.2), s.heap.get? b = none := fun b hb => by
    rcases List.mem_cons.mp hb with rfl | hb
    · rw [e2]; exact hL
    · obtain ⟨⟨y, c⟩, hy, rfl⟩ := List.mem_map.mp hb; exact cnew y c hy
  have back : ∀ {σ' : AS} {s' : Shared} {m' : M}, FS (callee prog w hB os0 A l n fd.scope env) m' σ' s' → Mine.At prog w hB os0 A (n + 1) σ' s' := fun {σ' s' m'} x => by
    obtain ⟨l2, hl2, ff2, fσ2⟩ := x.at_.fr
    obtain rfl := inj2 fok.fr hl2
    exact ⟨x.at_.st, x.at_.obj, ⟨l, hfr, ff2.2.2, fun b hb => fσ2 b (by rw [hfrs]; exact .tail _ hb)⟩, at_.hd, at_.dp, at_.un, x.at_.gens, x.at_.os⟩
  have kcb : ∀ {σ' : AS} {s' : Shared}, Kc (frs (env :: l)) (env.locals :: env.cells.map (·.2)) σ σ' h₁ s'.heap → Kc (frs l) [] σ σ' s.heap s'.heap := fun {σ' s'} k => by
    rw [hfrs] at k
    exact Kc.called keep k hL own
  exact go env _ ⟨e1, e3, su, home, x₁, keep, fun σ' s' m' x => back x, fun σ' s' k => kcb k, fun b hb => by rw [hfrs]; exact .tail _ hb⟩
theorem fun_does (cx : CxO C prog w hB os0 n) {a : Addr} {o : Obj} {fd : FuncData} {body : List Stmt} {ps : List Str} {fuel : Nat} {rp : RP} {sp : Spec}
    (ho : hB.get? a = some o) (hdata : o.data = .func fd) (hcd : hB.CodeRec fd.code fd.qualname) (hbody : fd.body = .stmts body) (hclo : fd.closure = []) (hglob : fd.globals = mainGlobals) (hbi : fd.builtins = builtinsNs)
    (hsc : FunSc fd.scope ps) (hbind : ∀ (s : Shared) cvs, hB.StaysIn s.heap → cvs.length = ps.length → BindsTo s fd ⟨cvs, []⟩ (ps.zip cvs)) (hc : cP fuel (NE.of fd.scope) fd.scope body = some rp)
    (hsp : ∀ vs σ Q X, (∀ b o, C.ro b = some o → σ b = none) → sp vs σ Q X → vs.length = ps.length ∧ rsts C rp (initM (NE.of fd.scope) ps vs) σ ⟨fun _ σ' => Q .none σ', Q, fun _ _ => False, fun x _ σ' => X x σ'⟩) :
    Does prog w hB os0 (n + 1) (.ref a) sp := by
  intro A l σ s cvs vs Q X E hfr at_ hr hs hE
  obtain ⟨hlen, hrst⟩ := hsp vs σ Q X (fun b o e => by
    refine isN fun ao q => ?_
    have := cx.b.roN (at_.obj b ao q).2; exact no2 this e) hs
  refine fun_enter cx ho hdata hcd hbody hclo hglob hbi hsc (hbind s cvs at_.st (hr.length.trans hlen)) hlen hfr at_ hr fun env s₁ en => ?_
  refine wpAny_mono ((okp C fuel).p en.su en.home _ hc en.fs hrst (E₀ := fun e s' => wpAny (model prog w) (A.deeper env) (leaving env e) (fun _ s'' => E e s'') (fun e' s'' => E e' s'') s') fun m' σ' s' y ev g hX => ?_) (fun fl s' p => ?_) fun _ _ y => y
  · refine g.leave en.su.fo.ok en.home fun e s'' g2 he => ?_
    subst he
    obtain ⟨dx, X', fly, hX', hdx, hb⟩ := g2.ex
    refine hE y σ' _ s'' ⟨en.back _ _ _ g2.fs, en.kcb _ _ g2.kc, e, dx, X', rfl, fly, fun b hb => ⟨(hX' b hb).1, ?_, (hX' b hb).2.2⟩, fun hm => hdx (en.sub _ hm), hb⟩ hX
    refine isN fun o q => ?_
    have := (hX' b hb).2.1; exact no2 this (en.keep b o q)
  · cases fl with
    | next => obtain ⟨m', σ', x', k', h'⟩ := p; exact ⟨.none, σ', en.back _ _ _ x', .none, en.kcb _ _ k', h'⟩
    | cont => obtain ⟨m', σ', x', k', h'⟩ := p; exact h'.elim
    | brk => exact p.elim
    | ret cv => obtain ⟨v, m', σ', x', rv, k', h'⟩ := p; exact ⟨v, σ', en.back _ _ _ x', rv, en.kcb _ _ k', h'⟩
end
section
variable {prog : Program} {w : World} {hB : Heap} {os0 : OsState} {n : Nat} {C : Cx}
theorem At.lay {A : Around} {σ : AS} {s : Shared} {l : List Env} (x : Mine.At prog w hB os0 A n σ s) (hl : A.frames = some l) {h' : Heap} {a : Addr} {o : AO} (hk : ∀ b o, s.heap.get? b = some o → h'.get? b = some o) (ha : s.heap.get? a = none) (ho : OM prog w h' a o) {t : Nat} :
    Mine.At prog w hB os0 A n (σ.set a o) { s with heap := h', toks := t } ∧ Kc (frs l) [] σ (σ.set a o) s.heap h' := by
  have kc : Kc (frs l) [] σ (σ.set a o) s.heap h' := Kc.of_keep hk fun b o' hb e => by
    rw [AS.set_ne σ o (fun q : b = a => by rw [q, ha] at hb; exact no1 hb)]; exact e
  refine ⟨x.next hl kc (fun b ao e => ?_) rfl rfl, kc⟩
  by_cases eb : b = a
  · subst eb
    rw [AS.set_same] at e; obtain rfl := Option.some.inj e
    refine ⟨ho, ?_⟩
    refine isN fun o' q => ?_
    have := x.st _ _ q; exact no2 ha this
  · rw [AS.set_ne σ o eb] at e
    exact ⟨(x.obj b ao e).1.at (fun ob q => hk _ _ q) (x.tupK kc), (x.obj b ao e).2⟩
theorem At.fresh' {A : Around} {σ : AS} {s : Shared} (x : Mine.At prog w hB os0 A n σ s) {b : Addr} (hb : s.heap.get? b = none) : σ b = none := by
  refine isN fun ao q => ?_
  obtain ⟨_, e, _⟩ := (x.obj b ao q).1.lt; exact no2 hb e
theorem At.into {A A' : Around} {σ : AS} {s : Shared} (x : Mine.At prog w hB os0 A (n + 1) σ s) (hf : A'.frames = A.frames) (hh : A'.handled = A.handled) (hd : A'.depth ≤ A.depth + 4) (hu : A'.units ≤ A.units + 60) : Mine.At prog w hB os0 A' n σ s := by
  have h1 := x.dp
  have h2 := x.un
  exact ⟨x.st, x.obj, by rw [hf]; exact x.fr, hh.trans x.hd, by lia, by lia, x.gens, x.os⟩
theorem At.outof {A A' : Around} {σ σ' : AS} {s s' : Shared} (x : Mine.At prog w hB os0 A' n σ' s') (y : Mine.At prog w hB os0 A (n + 1) σ s) (hf : A'.frames = A.frames) : Mine.At prog w hB os0 A (n + 1) σ' s' :=
  ⟨x.st, x.obj, by rw [← hf]; exact x.fr, y.hd, y.dp, y.un, x.gens, x.os⟩
noncomputable def mkSpec (c : Addr) (spI : Spec) : Spec := fun vs σ Q X => ∀ x dx, σ x = none → σ dx = none → x ≠ dx → spI (.ref x :: vs) ((σ.set dx (.fld [])).set x (.inst c dx)) (fun v σ' => v = .none ∧ Q (.ref x) σ') X
theorem class_does (ck : CxK C hB) {c g : Addr} {spI : Spec} (hm : makesIn C.K c = true) (hi : findIn C.K (.ref c) "__init__" = some (some (.ref g))) (hf : typeIn C.K (.ref g) = some (.type "function")) (d : Does prog w hB os0 n (.ref g) spI) :
    Does prog w hB os0 (n + 1) (.ref c) (mkSpec c spI) := by
  intro A l σ s cvs vs Q X E hfr at_ hr hs hE
  have In : C.K.In s.heap := fun a o e => at_.st _ _ (ck.In a o e)
  have h1 := get_size s.heap
  have e1 : ∀ b o, s.heap.get? b = some o → (s.heap.push emptyDict).get? b = some o := fun b o e => push_keep e
  have e2 : ∀ b o, (s.heap.push emptyDict).get? b = some o → ((s.heap.push emptyDict).push (instObj c s.heap.objs.size)).get? b = some o := fun b o e => push_keep e
  obtain ⟨a1, k1⟩ := at_.lay hfr (a := s.heap.objs.size) (o := .fld []) (t := s.toks) e1 h1 ⟨[], 0, Heap.get?_push_size _ rfl, rfl, fun x => by rfl⟩
  have h2 : (s.heap.push emptyDict).get? (s.heap.objs.size + 1) = none := Heap.get?_none_of_le (by rw [Heap.size_push]; exact Nat.le_refl _)
  obtain ⟨a2, k2⟩ := a1.lay hfr (a := s.heap.objs.size + 1) (o := .inst c s.heap.objs.size) (t := s.toks) e2 h2 (by
    have := Heap.get?_push_size (s.heap.push emptyDict) (o := instObj c s.heap.objs.size) rfl
    rw [Heap.size_push] at this
    exact this)
  have kk := k1.trans k2
  have hs2 := hs (s.heap.objs.size + 1) s.heap.objs.size (at_.fresh' (Heap.get?_none_of_le (Nat.le_succ _))) (at_.fresh' h1) (Nat.succ_ne_self _)
  refine make_core (makes_of In hm) (looks_findIn In hi) (fun self => bind_fn In self hf) (.inl rfl) (codeAny_mono (d (A.under (.builtin "type.__call__" ⟨.ref c :: cvs, []⟩)) l _ { s with heap := (s.heap.push emptyDict).push (instObj c s.heap.objs.size), toks := s.toks } (.ref (s.heap.objs.size + 1) :: cvs) (.ref (s.heap.objs.size + 1) :: vs) _ X E hfr (a2.into rfl rfl ?_ ?_) (.cons (.ref _) (hr.keeps fun b o e => e2 b o (e1 b o e))) hs2 fun y σ' ev s' g hX => ?_) fun r s' z => ?_)
  · have hw : Code.weight (.builtin "type.__call__" ⟨.ref c :: cvs, []⟩) = 1 := by kernel_rfl
    show A.depth + _ ≤ A.depth + 4; rw [hw]; lia
  · have hu : Code.cUnits (.builtin "type.__call__" ⟨.ref c :: cvs, []⟩) = 1 := by kernel_rfl
    show A.units + _ ≤ A.units + 60; rw [hu]; lia
  · obtain ⟨e, dx, X', he, fly, hX', hdx, hb⟩ := g.ex
    refine hE y σ' ev s' ⟨g.at_.outof at_ rfl, kk.trans g.kc, e, dx, X', he, fly, fun b hb' => ⟨(hX' b hb').1, ?_, (hX' b hb').2.2⟩, hdx, hb⟩ hX
    refine isN fun o q => ?_
    have := (hX' b hb').2.1; rw [show ({ s with heap := (s.heap.push emptyDict).push (instObj c s.heap.objs.size), toks := s.toks } : Shared).heap.get? b = some o from e2 b o (e1 b o q)] at this; exact no3 this
  · cases r with
    | error e => exact z
    | ok f =>
      cases f with
      | ret cv =>
        obtain ⟨v, σ', b1, b2, b3, rfl, b5⟩ := z
        cases b2
        exact ⟨rfl, .ref _, σ', b1.outof at_ rfl, .ref _, kk.trans b3, b5⟩
      | next => exact z.elim
      | brk => exact z.elim
      | cont => exact z.elim
end
section
open PySem.Builtin PySem.Builtin.ObjectAttr
abbrev excBm (T : Addr) : List Value := [.ref T, .type "Exception", .type "BaseException", .type "object"]
abbrev excNew : String := "Exception.__new__"
abbrev excFs (t : Addr) : Array Value := #[.ref t, .none, .none, .none, .bool false, .none]
section
variable {nm q : Str} {K T N : Addr} {bs : List Value} {sn : List Str} {sub : List Value} {col : Option Bool} {k0 k1 k2 k3 k5 : Option Value}
variable {prog : Program} {w : World} {A : Around} {R : Result → Shared → Prop} {h : Heap} {g : Array GenState} {d : Drawn} {t : Nat} {os : OsState}
theorem exc_new {rest : List Value} (hC : h.get? K = some (excClassObj nm q K N bs (excBm T) true sn sub false col none k0 k1 k2 k3 k5 excNew)) (hrest : rest.length ≤ sizeLine)
    (hq : R (.ok (.ret (.ref (h.objs.size + 1)))) ⟨(h.push { cls := .type "tuple", data := .seq rest.toArray }).push { cls := .ref K, data := .fields (excFs h.objs.size) }, g, d, t, os⟩) :
    codeAny (model prog w) A (.builtin excNew ⟨.ref K :: rest, []⟩) R ⟨h, g, d, t, os⟩ := by
  have F := PySem.F.excBase_Exception
  have hends := F.ends
  have hcB : (Value.ref K :: excBm T).contains (.type "Exception") = true := by simp [excBm]
  have hcA : (Value.ref K :: excBm T).contains (.type "AttributeError") = false := by simp [excBm]
  have hcN : (Value.ref K :: excBm T).contains (.type "NameError") = false := by simp [excBm]
  refine codeAny_builtinAt F.entry ?_
  unfold Builtin.«BaseException.__new__»
  refine PySem.wpAt_bind ?_
  show PySem.wpAt _ _ _ (stack >>= _) _ _ _
  refine PySem.wpAt_bind (PySem.wpAt_stack fun p below => PySem.wpAt_of_wpAny ?_)
  wp_walk
  refine PySem.wpAt_of_wpAny ?_
  rw [F.owner]
  repeat (first | with_reducible refine wpAny_madeHere_exc F.canon hC ?_ | with_reducible refine wpAny_loadPart_at hC ?_ | (with_reducible refine wpAny_isSubtype_exc hC ?_; first | rw [hcB] | rw [hcA] | rw [hcN]) | wp_step)
  show R _ _
  rw [Heap.size_push]
  exact hq
theorem exc_check {rest : List Value} {Q : Unit → Shared → Prop} {M : Model} {E : Value → Shared → Prop} (hC : h.get? K = some (excClassObj nm q K N bs (excBm T) true sn sub false col none k0 k1 k2 k3 k5 excNew))
    (hq : Q () ⟨h, g, d, t, os⟩) : wpAny M A (checkBuiltinCall excNew ⟨.ref K :: rest, []⟩) Q E ⟨h, g, d, t, os⟩ := by
  have F := PySem.F.excBase_Exception
  have hcont : (Value.ref K :: excBm T).contains (.type "Exception") = true := by simp [excBm]
  have hstar := F.noStar
  simp only [checkBuiltinCall, F.newKind, F.newSplit, F.newRow]
  repeat (first | refine wpAny_loadPart_at hC ?_ | (refine wpAny_isSubtype_exc hC ?_; rw [hcont]) | refine wpAny_staticBase_exc hC ?_ | refine wpAny_madeBy_exc hC ?_ | simp only [bne_self_eq_false, Bool.false_eq_true, if_false] | wp_step)
  exact hq
theorem exc_make {F : Frag} (In : F.In h) {cv : Value} {gI : Addr} (hC : h.get? K = some (excClassObj nm q K N bs (excBm T) true sn sub false col none k0 k1 k2 k3 k5 excNew))
    (hi : findIn F (.ref K) "__init__" = some (some (.ref gI))) (hf : typeIn F (.ref gI) = some (.type "function"))
    (hq : codeAny (model prog w) (A.under (.builtin "type.__call__" ⟨[.ref K, cv], []⟩)) (.call (.ref gI) ⟨[.ref (h.objs.size + 1), cv], []⟩) (InitBack (h.objs.size + 1) R)
      ⟨(h.push { cls := .type "tuple", data := .seq [cv].toArray }).push { cls := .ref K, data := .fields (excFs h.objs.size) }, g, d, t, os⟩) :
    codeAny (model prog w) A (.call (.ref K) ⟨[cv], []⟩) R ⟨h, g, d, t, os⟩ := by
  have f1 := tc_lookup
  have f2 := tc_bind (.ref K)
  have hT : (⟨h, g, d, t, os⟩ : Shared).TypeIs (.ref K) "type" := ⟨_, hC, rfl⟩
  have hF := PySem.F.excBase_Exception
  refine codeAny_of_tree ?_
  show wpAny _ _ (callAny (.ref K) _) _ _ _
  repeat (any_goals (first | assumption | with_reducible refine wpAny_loadPart_at hC ?_ | wp_step))
  refine ⟨rfl, ?_⟩
  refine codeAny_call_builtin_at (Code.quiet_builtin _ (by decide +kernel)) entry_typeCall (wpAny_check_type_call_sub hC ?_)
  repeat (first | with_reducible refine wpAny_loadPart_at hC ?_ | with_reducible refine wpAny_madeBy_exc hC ?_ | wp_step)
  refine codeAny_call_builtin_code (Code.quiet_builtin _ hF.quiet) (exc_check hC ?_)
  refine exc_new hC (show 1 ≤ 16777216 by lia) ?_
  show wpAny _ _ _ _ _ _
  have k2 : ∀ b o, h.get? b = some o → ((h.push { cls := .type "tuple", data := .seq [cv].toArray }).push { cls := .ref K, data := .fields (excFs h.objs.size) }).get? b = some o := fun b o e => push_keep (push_keep e)
  have hC₁ := k2 _ _ hC
  have In₁ : F.In ((h.push { cls := .type "tuple", data := .seq [cv].toArray }).push { cls := .ref K, data := .fields (excFs h.objs.size) }) := In.keeps k2
  have hget : ((h.push { cls := .type "tuple", data := .seq [cv].toArray }).push { cls := .ref K, data := .fields (excFs h.objs.size) }).get? (h.objs.size + 1) = some { cls := .ref K, data := .fields (excFs h.objs.size) } := by heap_get
  have hcC : (Value.ref K :: excBm T).contains (.ref K) = true := by simp
  unfold isInstance
  repeat (first | with_reducible refine wpAny_loadPart_at hget ?_ | (with_reducible refine wpAny_isSubtype_exc hC₁ ?_; rw [hcC]) | wp_step)
  refine wpAny_isSubtype_exc hC₁ ?_
  rw [hcC]
  repeat (first | with_reducible refine wpAny_loadPart_at hget ?_ | wp_step)
  show wpAny _ _ (typeLookup (.ref K) _) _ _ _
  refine (looks_findIn In₁ hi).here ?_
  refine wpAny_holding (wpAny_bind ((bind_fn In₁ (.ref (h.objs.size + 1)) hf).here ?_))
  show wpAny _ _ (call (.ref gI) [.ref (h.objs.size + 1), cv] >>= _) _ _ _
  refine wpAny_bind (wpAny_call (codeAny_mono hq fun r s' z => ?_))
  rcases r with e | (v | _ | _ | _) <;> first | exact z | exact z.elim | skip
  obtain ⟨rfl, z⟩ := z
  exact wpAny_pure (wpAny_pure z)
theorem exc_refuse (x : Addr) : refuseLoop (.ref x) "__setattr__" [.type "Exception", .type "BaseException", .type "object"] = pure () := by kernel_rfl
theorem exc_osa {F : Frag} {s : Shared} {x : Addr} {ox : Obj} {od : Option Obj} {name : Str} {tk : Tok} {v : Value} {cd : ClassData} (In : F.In s.heap) (I : InstAt s.heap x ox K od) (hc : clsIn F K = some cd) (hm : cd.mro = .ref K :: excBm T) (ht : findIn F (.ref K) name = some none)
    (h : wpAny (model prog w) A.in1 (storeInOwnDict (.ref x) (.ref K) (.str name tk) name v false)
      (fun fin s' => match fin with | .done f => R (.ok f) s' | .again c' => c'.quiet = true ∧ codeAny (model prog w) A c' R s') (fun e s' => R (.error e) s') s) :
    codeAny (model prog w) A (.call (.builtin "object.__setattr__") ⟨[.ref x, .str name tk, v], []⟩) R s := by
  have SF := PySem.F.store_object
  have ne : cd.mro.isEmpty = false := by rw [hm]; rfl
  have sub : Looks (model prog w) s.heap (isInstance (.ref x) (.type "object")) true := I.type.andThen (looks_mroIn In (by unfold mroIn; rw [hc, Option.bind_some, if_neg (by rw [ne]; decide), hm]; simp [excBm]))
  refine codeAny_call_builtin SF.slot.plain SF.entry (@check_slot (model prog w) _ _ s "object.__setattr__" "object" "__setattr__" (.ref x) [.str name tk, v] [] _ SF.kind SF.split sub (SF.args (.ref x) (.str name tk) v) ?_)
  have hmro : Looks (model prog w) s.heap (mroOf (.ref K)) cd.mro := (looks_clsIn In hc).andThen .now
  rw [osa_eq, refuse_eq]
  refine wpAny_bind (wpAny_bind (I.type.here (wpAny_bind (hmro.here ?_))))
  rw [hm, refuseLoop_ref, refuseLoop_ref, exc_refuse]
  refine wpAny_pure (wpAny_bind (I.type.here (wpAny_bind ((looks_findIn In ht).here (wpAny_bind (wpAny_pure ?_))))))
  exact h
end
section
variable {prog : Program} {w : World} {s s' : Shared} {A : Around} {E : Value → Shared → Prop} {K T : Addr} {cd : ClassData} {F : Frag}
theorem store_dict {d : Addr} {es : List DictEntry} {n : Nat} {name : Str} {tk : Tok} {v : Value} {Q : PySem.Fin → Shared → Prop} (h1 : s.heap.get? d = some (dictOf es n)) (hs : (getL name es).isSome = true) (hl : es.length ≤ 1000)
    (q : ∀ h', Heap.SameBut d s.heap h' → h'.get? d = some (dictOf (putL name (PyData.keyHash w.params name) (.str name s.toks) v es) (putN name es n)) → Q (.done (.ret .none)) { s with heap := h', toks := s.toks + 1 }) :
    wpAny (model prog w) A (storeInDict d (.str name tk) name v) Q E s := by
  unfold storeInDict
  refine wpAny_bind (wpAny_pure (wpAny_bind ?_))
  unfold nsSet
  refine wpAny_bind (wpAny_bind (wpAny_askSetting (wpAny_pure (wpAny_bind (wpAny_mkText (wpAny_bind (wpAny_loadPart h1 ?_)))))))
  dsimp only
  have cc : (!es.toArray.any (·.key.isStr name) && es.toArray.any (·.refKey)) = false := by
    simp only [List.any_toArray]
    unfold getL at hs
    split at hs
    · rename_i en he
      rw [List.any_eq_true.mpr ⟨en, List.mem_of_find?_eq_some he, List.find?_some he⟩]; rfl
    · split at hs
      · exact bft hs
      · rename_i z; rw [Bool.not_eq_true] at z; rw [z, Bool.and_false]
  rw [aRefKeyMayBeTheName_at, cc]
  have hsb := Heap.SameBut.update s.heap d (Obj.putName name (PyData.keyHash w.params name) (.str name s.toks) v)
  have hself := Heap.get?_update_self (h := s.heap) (a := d) (Obj.putName name (PyData.keyHash w.params name) (.str name s.toks) v) h1 (by rw [putName_dict]; rfl)
  rw [putName_dict] at hself
  refine wpAny_updatePart h1 ?_
  refine wpAny_bind (wpAny_lookBehind hself (by
    refine pastItsLine_dict ?_
    simp only [List.size_toArray, putL_length, sizeLine_eq]
    split <;> lia) ?_)
  exact wpAny_pure (q _ hsb hself)
variable {Q : Unit → Shared → Prop}
theorem exc_set {x : Addr} {vs : Array Value} {name : Str} {v : Value} (In : F.In s.heap) (hx : s.heap.get? x = some { cls := .ref K, data := .fields vs }) (hc : clsIn F K = some cd) (hm : cd.mro = .ref K :: excBm T) (hd : cd.hasDict = true) (ht : findIn F (.ref K) name = some none)
    (hsa : findIn F (.ref K) "__setattr__" = some (some (.builtin "object.__setattr__")))
    (h : ∀ h' es n tk, h'.get? s.heap.objs.size = some (dictOf es n) → es.length = 1 → (∀ y, getL y es = if y = name then some (some v) else some none) → h'.get? x = some { cls := .ref K, dict := some s.heap.objs.size, data := .fields vs } → (∀ b o, b ≠ x → s.heap.get? b = some o → h'.get? b = some o) → Q () { s with heap := h', toks := tk }) :
    wpAny (model prog w) A (setAttr (.ref x) name v) Q E s := by
  have I : InstAt s.heap x { cls := .ref K, data := .fields vs } K none := ⟨hx, rfl, rfl, trivial⟩
  refine set_plain In I hsa (exc_osa (od := none) In (T := T) ⟨hx, rfl, rfl, trivial⟩ hc hm ht ?_)
  unfold storeInOwnDict
  refine wpAny_bind (wpAny_pure ?_)
  show wpAny _ _ (instanceDict x true >>= _) _ _ _
  unfold instanceDict
  refine wpAny_bind (wpAny_bind (wpAny_loadPart hx (wpAny_bind ((show Looks (model prog w) ({ s with toks := s.toks + 1 } : Shared).heap (classData K) cd from looks_clsIn In hc).here ?_))))
  rw [hd]
  have hne : x ≠ s.heap.objs.size := Nat.ne_of_lt (Heap.lt_size hx)
  have e1 := Heap.get?_update_self (h := s.heap.push emptyDict) (a := x) (fun o => { o with dict := some s.heap.objs.size }) (push_keep hx) rfl
  have e2 : ((s.heap.push emptyDict).update x fun o => { o with dict := some s.heap.objs.size }).get? s.heap.objs.size = some (dictOf [] 0) :=
    (Heap.get?_update_other _ _ hne).trans (Heap.get?_push_size _ rfl)
  refine wpAny_bind (wpAny_alloc (wpAny_bind (wpAny_update (push_keep hx) (wpAny_pure ?_))))
  refine store_dict (s := { s with heap := (s.heap.push emptyDict).update x fun o => { o with dict := some s.heap.objs.size }, toks := s.toks + 1 }) e2 rfl (Nat.zero_le _) fun h' sb e3 => ?_
  refine h h' _ _ _ e3 rfl (fun y => ?_) ((sb.2 x hne).trans e1) fun b o hb e => ?_
  · rw [getL_putL y [] rfl]; rfl
  · rw [sb.2 b (fun q : b = s.heap.objs.size => by rw [q, get_size] at e; exact no1 e), Heap.get?_update_other _ _ (Ne.symm hb)]
    exact push_keep e
theorem exc_set2 {x dx : Addr} {vs : Array Value} {name : Str} {v : Value} {es : List DictEntry} {n : Nat} (In : F.In s.heap) (hx : s.heap.get? x = some { cls := .ref K, dict := some dx, data := .fields vs }) (h1 : s.heap.get? dx = some (dictOf es n)) (hs : (getL name es).isSome = true) (hl : es.length ≤ 1000)
    (hc : clsIn F K = some cd) (hm : cd.mro = .ref K :: excBm T) (hd : cd.hasDict = true) (ht : findIn F (.ref K) name = some none) (hsa : findIn F (.ref K) "__setattr__" = some (some (.builtin "object.__setattr__")))
    (h : ∀ h' tk hsh key, h'.get? dx = some (dictOf (putL name hsh (.str name key) v es) (putN name es n)) → Heap.SameBut dx s.heap h' → Q () { s with heap := h', toks := tk }) :
    wpAny (model prog w) A (setAttr (.ref x) name v) Q E s := by
  have I : InstAt s.heap x { cls := .ref K, dict := some dx, data := .fields vs } K (some (dictOf es n)) := ⟨hx, rfl, rfl, h1⟩
  refine set_plain In I hsa (exc_osa (od := some (dictOf es n)) In (T := T) ⟨hx, rfl, rfl, h1⟩ hc hm ht ?_)
  unfold storeInOwnDict
  refine wpAny_bind (wpAny_pure ?_)
  show wpAny _ _ (instanceDict x true >>= _) _ _ _
  unfold instanceDict
  refine wpAny_bind (wpAny_bind (wpAny_loadPart hx (wpAny_bind ((show Looks (model prog w) ({ s with toks := s.toks + 1 } : Shared).heap (classData K) cd from looks_clsIn In hc).here ?_))))
  rw [hd]
  refine wpAny_pure (a := some dx) ?_
  exact store_dict (s := { s with toks := s.toks + 1 }) h1 hs hl fun h' sb e3 => h h' _ _ _ e3 sb
end
end
section
variable {nm q : Str} {K T N : Addr} {bs : List Value} {sn : List Str} {sub : List Value} {col : Option Bool} {k0 k1 k2 k3 k5 : Option Value}
variable {prog : Program} {w : World} {A : Around} {E : Value → Shared → Prop} {s : Shared}
theorem exc_method {name : Str} {L : Addr} {mm : Str → Option Value} {pl : Sem Bool} {Q : Value × List Value → Shared → Prop} (hn : s.heap.Ns L mm) (e : name = Str.ofString "__init__") (h : Q (.builtin "Exception.__init__", []) { s with toks := s.toks + 1 }) :
    wpAny (model prog w) A (getMethod (.type "Exception") name pl) Q E s := by
  subst e
  exact method_type (K := []) (h₀ := {}) (L := L) (m := mm) ⟨hn, fun b o e => (nomatch e), Nat.zero_le _⟩ (fun a o e => (nomatch e)) (by kernel_rfl) (by decide +kernel) (v := .builtin "Exception.__init__") (by kernel_rfl) rfl h
theorem exc_check_init {M : Model} {e : Addr} {oe : Obj} {rest : List Value} {Q : Unit → Shared → Prop} {h : Heap} {g : Array GenState} {d : Drawn} {t : Nat} {os : OsState}
    (hC : h.get? K = some (excClassObj nm q K N bs (excBm T) true sn sub false col none k0 k1 k2 k3 k5 excNew)) (he : h.get? e = some oe) (hcls : oe.cls = .ref K) (hq : Q () ⟨h, g, d, t, os⟩) :
    wpAny M A (checkBuiltinCall "Exception.__init__" ⟨.ref e :: rest, []⟩) Q E ⟨h, g, d, t, os⟩ := by
  have F := PySem.F.excBase_Exception
  have hcB : (Value.ref K :: excBm T).contains (.type "Exception") = true := by simp [excBm]
  have hshort := F.noStar
  simp only [checkBuiltinCall, F.initKind, F.initSplit, F.initRow]
  repeat (first | (with_reducible refine wpAny_loadPart_at he ?_; rw [hcls]) | with_reducible refine wpAny_loadPart_at hC ?_ | (with_reducible refine wpAny_isSubtype_exc hC ?_; rw [hcB]) | wp_step)
  refine wpAny_onRaise ?_
  rw [show ∀ (a b : String) (n : Nat), Bind.check ⟨.positional, "*", "Exception", .self, [⟨"args", .varPos, false⟩]⟩ a b n (List.map (fun x => x.fst) ({ pos := Value.ref e :: rest } : Args).kw) = pure () from
    fun a b n => check_star_args _ _ _ _ _ _]
  exact wpAny_pure hq
theorem exc_init {e t₀ : Addr} {v : Value} {Q : Value → Shared → Prop} (hC : s.heap.get? K = some (excClassObj nm q K N bs (excBm T) true sn sub false col none k0 k1 k2 k3 k5 excNew))
    (he : s.heap.get? e = some { cls := .ref K, data := .fields (excFs t₀) })
    (hq : Q .none { s with heap := (s.heap.push { cls := .type "tuple", data := .seq [v].toArray }).update e (Obj.mapFields (·.setIfInBounds 0 (.ref s.heap.objs.size))) }) :
    wpAny (model prog w) A (call (.builtin "Exception.__init__") [.ref e, v]) Q E s := by
  have F := PySem.F.excBase_Exception
  obtain ⟨h, g, d, t, os⟩ := s
  refine wpAny_call (codeAny_call_builtin F.init.plain F.initEntry (exc_check_init hC he rfl ?_))
  have he' := push_keep (o := { cls := .type "tuple", data := .seq [v].toArray }) he
  unfold excFs at he he'
  wp_walk
  exact hq
structure InitText (C : Cx) (hB : Heap) (fd : FuncData) : Prop where
  sc : FunSc fd.scope [Str.ofString "self", Str.ofString "what", Str.ofString "at"]
  self : (NE.of fd.scope).lookup (Str.ofString "self") = some 0
  what : (NE.of fd.scope).lookup (Str.ofString "what") = some 1
  at_ : (NE.of fd.scope).lookup (Str.ofString "at") = some 2
  len : (NE.of fd.scope).length = 3
  g : isG (NE.of fd.scope) fd.scope (Str.ofString "Exception") = true
  blt : Blt hB (Str.ofString "Exception") (.type "Exception")
  body : ∃ p1 p2 p3 p4 p5 p6 p7 p8 p9 p10 p11 p12 p13 p14, (p2.endLine == p5.line) = true ∧ fd.body = .stmts [.Expr (.Call (.Attribute (.Name (Str.ofString "Exception") p1) (Str.ofString "__init__") p2) [.Name (Str.ofString "self") p3, .Name (Str.ofString "what") p4] [] p5) p6,
    .Assign [.Attribute (.Name (Str.ofString "self") p7) (Str.ofString "what") p8] (.Name (Str.ofString "what") p9) p10, .Assign [.Attribute (.Name (Str.ofString "self") p11) (Str.ofString "at") p12] (.Name (Str.ofString "at") p13) p14]
structure ExcIn (F : Frag) (K T gI : Addr) (cd : ClassData) : Prop where
  cls : clsIn F K = some cd
  mro : cd.mro = .ref K :: excBm T
  dict : cd.hasDict = true
  init : findIn F (.ref K) "__init__" = some (some (.ref gI))
  fn : typeIn F (.ref gI) = some (.type "function")
  what : findIn F (.ref K) (Str.ofString "what") = some none
  at_ : findIn F (.ref K) (Str.ofString "at") = some none
  sa : findIn F (.ref K) "__setattr__" = some (some (.builtin "object.__setattr__"))
  ga : findIn F (.ref K) "__getattribute__" = some (some (.builtin "BaseException.__getattribute__"))
  gt : findIn F (.ref K) "__getattr__" = some none
  keep : keepIn F (.ref K) = true
section
variable {f : Fx} {σ : AS} {C : Cx} {cd : ClassData} {gI : Addr}
theorem FS.reads {x : Str} {i : Nat} {v : V} {m : M} {pos : Pos} {Q : Value → Shared → Prop} {M : Model} (h : FS f m σ s) (ok : f.Ok) (hx : f.ne.lookup x = some i) (hm : m[i]? = some (some v)) (q : ∀ cv, Rv s.heap cv v → Q cv s) : wpAny M A (eval (.Name x pos) f.env) Q E s := h.read ok hx hm q
theorem Kc.butX {Fs : List Addr} {e : Addr} {σ : AS} {h h' : Heap} (k : ∀ b o, b ≠ e → h.get? b = some o → h'.get? b = some o) (p : ∃ o, h'.get? e = some o) : Kc Fs [e] σ σ h h' :=
  ⟨fun b o e' _ _ hX => k b o (fun q => hX (q ▸ .head _)) e', fun b o e' _ hX => ⟨o.slots, k b o (fun q => hX (q ▸ .head _)) e'⟩, fun _ _ _ e => e, fun b o e' => by
    by_cases q : b = e
    · rw [q]; exact p
    · exact ⟨o, k b o q e'⟩⟩
theorem exc_body (fo : FO C f) (K_ : Addr) {fd : FuncData} (it : InitText C f.hB fd) (hne : f.ne = NE.of fd.scope) (hsc : f.env.scope = fd.scope) {e t₀ : Addr} {t : Str} {body : List Stmt} (hb : fd.body = .stmts body)
    (hC : f.hB.get? K = some (excClassObj nm q K N bs (excBm T) true sn sub false col none k0 k1 k2 k3 k5 excNew)) (ei : ExcIn C.K K T gI cd)
    (x : FS f [some (.ref e), some (.str t), some .none] σ s) (he : s.heap.get? e = some { cls := .ref K, data := .fields (excFs t₀) }) (hσ : σ e = none) (hBe : f.hB.get? e = none) (hfr : e ∉ frs f.l) (hown : e ∉ f.own)
    {Q : Flow → Shared → Prop} (h : ∀ s' dx, FS f [some (.ref e), some (.str t), some .none] σ s' → Kc (frs f.l) [e] σ σ s.heap s'.heap → Fly s'.heap e K dx [e] .none → s.heap.get? dx = none → Bears s'.heap dx (.str t) → Q .next s') :
    wpAny (model f.prog f.w) f.A (execs body f.env) Q E s := by
  obtain ⟨p1, p2, p3, p4, p5, p6, p7, p8, p9, p10, p11, p12, p13, p14, hline, hbody⟩ := it.body
  rw [hb] at hbody
  injection hbody with hbody
  subst hbody
  have h0 : f.ne.lookup (Str.ofString "self") = some 0 := by rw [hne]; exact it.self
  have h1 : f.ne.lookup (Str.ofString "what") = some 1 := by rw [hne]; exact it.what
  have h2 : f.ne.lookup (Str.ofString "at") = some 2 := by rw [hne]; exact it.at_
  have hg : isG f.ne f.env.scope (Str.ofString "Exception") = true := by rw [hne, hsc]; exact it.g
  have hp : ∀ pos, (backTo pos (starEach [.Name (Str.ofString "self") p3, .Name (Str.ofString "what") p4] f.env)).any (·.1) = false := fun _ => rfl
  have hform : methodCallForm ([PySem.Expr.Name (Str.ofString "self") p3, .Name (Str.ofString "what") p4].length + ([] : List Keyword).length) (backTo p5 (starEach [.Name (Str.ofString "self") p3, .Name (Str.ofString "what") p4] f.env)) (backToKw p5 (keywordEach [] f.env)) = true := rfl
  have hpos : methodCallPos true (.Name (Str.ofString "Exception") p1) f.env p2 p5 = pure p5 := by unfold methodCallPos; simp [hline]
  have hne' : ∀ {s' : Shared} {h' : Heap} {k : Nat} {o : Obj} {vs : Array Value}, FS f [some (.ref e), some (.str t), some .none] σ s' → (∀ b o, b ≠ e → s'.heap.get? b = some o → h'.get? b = some o) → s'.heap.get? e = some o → o.data = .fields vs → (∃ o, h'.get? e = some o) → FS f [some (.ref e), some (.str t), some .none] σ { s' with heap := h', toks := k } := fun {s' h' k o vs} y kk e1 e2 e3 =>
    (y.fields fo.ok (Kc.butX kk e3) (fun b hb => by rw [List.mem_singleton.mp hb]; exact ⟨o, vs, e1, e2⟩) fun b hb => by rw [List.mem_singleton.mp hb]; exact hBe).toks fo.ok
  refine wpAny_execs_cons (wpAny_Expr_any ?_ (noPrint fo.ok) (noSwap rfl _ _))
  rw [arm_eval_Call, base_ok rfl]
  refine wpAny_bind (blt_ok x fo.ok hg it.blt (wpAny_bind (wpAny_standAt ?_)))
  unfold methodCall
  rw [hform]
  obtain ⟨mm, hn, _⟩ := x.lo
  refine wpAny_bind (wpAny_holding (exc_method hn rfl (wpAny_bind (wpAny_of_eq hpos (Calls.callWith_builtin (hp _) (splice_evalArgs (hp _) ?_))))))
  have x₁ := x.toks fo.ok (k := s.toks + 1)
  refine wpAny_items_cons (x₁.reads fo.ok h0 rfl fun cv rv => ?_) rfl
  obtain rfl := rv.refInv
  refine wpAny_items_cons (x₁.reads fo.ok h1 rfl fun cw rw₁ => Calls.spliced_nil ?_) rfl
  have hlt := Heap.lt_size he
  have k₂ : ∀ b o, b ≠ e → s.heap.get? b = some o → ((s.heap.push { cls := .type "tuple", data := .seq [cw].toArray }).update e (Obj.mapFields (·.setIfInBounds 0 (.ref s.heap.objs.size)))).get? b = some o := fun b o hb e' => by
    rw [Heap.get?_update_other _ _ (Ne.symm hb)]; exact push_keep e'
  have e₂ : ((s.heap.push { cls := .type "tuple", data := .seq [cw].toArray }).update e (Obj.mapFields (·.setIfInBounds 0 (.ref s.heap.objs.size)))).get? e = some { cls := .ref K, data := .fields (excFs s.heap.objs.size) } :=
    Heap.get?_update_self _ (push_keep he) rfl
  refine exc_init (x₁.at_.st _ _ hC) he ?_
  have x₂ := hne' (k := s.toks + 1) x₁ k₂ he rfl ⟨_, e₂⟩
  have In₂ : C.K.In ((s.heap.push { cls := .type "tuple", data := .seq [cw].toArray }).update e (Obj.mapFields (·.setIfInBounds 0 (.ref s.heap.objs.size)))) := x₂.In fo.cx.k
  refine wpAny_execs_cons (plainObj_wpAny_Assign_Attribute (x₂.reads fo.ok h1 rfl fun cv rv => x₂.reads fo.ok h0 rfl fun ov ro => ?_) rfl)
  obtain rfl := ro.refInv
  obtain ⟨tk, rfl, hS⟩ := rv.strInv
  refine exc_set In₂ e₂ ei.cls ei.mro ei.dict ei.what ei.sa fun h₃ es n tk₃ d₃ hl₃ g₃ e₃ k₃ => ?_
  generalize hdx : ((s.heap.push { cls := .type "tuple", data := .seq [cw].toArray }).update e (Obj.mapFields (·.setIfInBounds 0 (.ref s.heap.objs.size)))).objs.size = dx at *
  have f₂ : ((s.heap.push { cls := .type "tuple", data := .seq [cw].toArray }).update e (Obj.mapFields (·.setIfInBounds 0 (.ref s.heap.objs.size)))).get? dx = none := by rw [← hdx]; exact get_size _
  have x₃ := hne' (k := tk₃) x₂ k₃ e₂ rfl ⟨_, e₃⟩
  have In₃ : C.K.In h₃ := x₃.In fo.cx.k
  have hdne : dx ≠ e := fun q => by rw [q, e₂] at f₂; exact no3 f₂
  refine wpAny_execs_cons (plainObj_wpAny_Assign_Attribute (x₃.reads fo.ok h2 rfl fun cv rv => x₃.reads fo.ok h0 rfl fun ov ro => ?_) rfl)
  obtain rfl := ro.refInv
  cases rv
  have gs : ∀ y, (getL y es).isSome = true := fun y => by rw [g₃ y]; split <;> rfl
  refine exc_set2 In₃ e₃ d₃ (gs _) (by lia) ei.cls ei.mro ei.dict ei.at_ ei.sa fun h₄ tk₄ hsh key d₄ sb => wpAny_execs_nil ?_
  obtain ⟨nB, nF, nO⟩ := x₂.apart fo.ok f₂
  have fd : s.heap.get? dx = none := by
    refine isN fun o q => ?_
    exact no2 f₂ (k₂ dx o hdne q)
  have k₄ : ∀ b o, b ≠ dx → h₃.get? b = some o → h₄.get? b = some o := fun b o hb e' => by rw [sb.2 b hb]; exact e'
  have x₄ := x₃.but fo.ok (k := tk₄) (h' := h₄) (x₂.fresh f₂) d₃ (.inl (by simp)) nB nF nO sb
  have e₄ := k₄ e _ (Ne.symm hdne) e₃
  refine h _ dx x₄ (Kc.butX (fun b o hb e' => k₄ b o (fun q => by rw [q, fd] at e'; exact no1 e') (k₃ b o hb (k₂ b o hb e'))) ⟨_, e₄⟩) (.inl ⟨rfl, ⟨_, _, e₄, rfl⟩, rfl⟩) fd ⟨_, _, .str t tk, d₄, ?_, .str t tk hS⟩
  rw [getL_putL _ es (gs _), g₃]
  rfl
end
end
section
open PySem.Builtin PySem.Builtin.ObjectAttr
variable {prog : Program} {w : World} {A : Around} {E : Value → Shared → Prop} {s : Shared} {K T gI : Addr} {cd : ClassData} {F : Frag}
theorem exc_attr {e dx : Addr} {sl : Array (Option Value)} {vs : Array Value} {es : List DictEntry} {n : Nat} {cv : Value} {Q : Value → Shared → Prop} (In : F.In s.heap) (ei : ExcIn F K T gI cd) (hx : s.heap.get? e = some ⟨.ref K, some dx, .fields vs, sl⟩) (hd : s.heap.get? dx = some (dictOf es n))
    (hg : getL (Str.ofString "what") es = some (some cv)) (hh : handedIn cv = true) (q : ∀ k, Q cv { s with toks := k }) : wpAny (model prog w) A (getAttr (.ref e) (Str.ofString "what") true) Q E s := by
  have I : InstAt s.heap e ⟨.ref K, some dx, .fields vs, sl⟩ K (some (dictOf es n)) := ⟨hx, rfl, rfl, hd⟩
  have hdict : hasDictIn F K = true := by unfold hasDictIn; rw [ei.cls]; exact ei.dict
  have hf := findObj_own (od := dictOf es n) hdict ei.what rfl (by rw [lookIn_dict]; exact hg)
  have L3 := looks_find (M := model prog w) In I hf
  have L0 := I.type (M := model prog w)
  have L1 := looks_findIn (M := model prog w) In ei.ga
  have L2 := looks_findIn (M := model prog w) In ei.gt
  have hmro : Looks (model prog w) s.heap (isInstance (.ref e) (.type "BaseException")) true := I.type.andThen (looks_mroIn In (by unfold mroIn; rw [ei.cls, Option.bind_some, if_neg (by rw [ei.mro]; simp), ei.mro]; simp [excBm]))
  have G := PySem.F.excAttr_ValueError.ga
  obtain ⟨h, g, d, t, os⟩ := s
  unfold getAttr getAttrBy
  refine wpAny_bind (wpAny_mkText (wpAny_holding (wpAny_bind (L0.at (wpAny_bind (L1.at ?_))))))
  dsimp only
  have hx2 : (Value.builtin "BaseException.__getattribute__" == Value.builtin "object.__getattribute__") = false := by decide +kernel
  rw [hx2, Bool.and_false, if_neg (by decide)]
  unfold getAttrByItsOwn hookBefore
  refine wpAny_bind ?_
  rw [if_pos (show onTheHeap (Value.ref K) = true from rfl)]
  refine L2.at (wpAny_bind (wpAny_attempt (wpAny_holding ?_)))
  unfold callGetattribute
  rw [if_neg (show ¬ ((true && onTheHeap (Value.builtin "BaseException.__getattribute__")) = true) from by decide)]
  unfold boundAndCalled
  rw [G.bind]
  refine wpAny_bind (wpAny_pure (wpAny_call (codeAny_call_builtin G.plain PySem.F.entry_bexc_ga (@check_slot (model prog w) _ _ _ "BaseException.__getattribute__" "BaseException" "__getattribute__" (.ref e) [.str (Str.ofString "what") t] [] _ (by decide +kernel) (by decide +kernel) (hmro.keeps fun _ _ e => e) (PySem.F.args_bexc_ga _ _) ?_))))
  unfold Builtin.«object.__getattribute__»
  refine wpAny_bind (wpAny_pure (wpAny_bind (wpAny_pure (wpAny_bind (L0.at (wpAny_bind (L3.at ?_)))))))
  refine wpAny_pure ?_
  show wpAny _ _ (handedOut cv) _ _ _
  rw [handedOut_of hh]
  exact wpAny_pure (q _)
variable {nm q : Str} {N : Addr} {bs : List Value} {sn : List Str} {sub : List Value} {col : Option Bool} {k0 k1 k2 k3 k5 : Option Value}
theorem exc_raise {env : Env} {x : Sem Value} {Q : Flow → Shared → Prop} (hh : A.handled = none)
    (h : wpAny (model prog w) A x (fun v s₁ => ∃ e dx, v = .ref e ∧ s₁.heap.get? K = some (excClassObj nm q K N bs (excBm T) true sn sub false col none k0 k1 k2 k3 k5 excNew) ∧ Fly s₁.heap e K dx [e] .none ∧ E (.ref e) s₁) E s) :
    wpAny (model prog w) A (raiseStmt env (some x) none) Q E s := by
  have hcB : (Value.ref K :: excBm T).contains (.type "BaseException") = true := by simp [excBm]
  unfold raiseStmt
  refine wpAny_bind (wpAny_mono h (fun v s₁ h₁ => ?_) fun _ _ x => x)
  obtain ⟨e, dx, rfl, hC, fly, hE⟩ := h₁
  obtain ⟨hp, g, d, tk, os⟩ := s₁
  rcases fly with ⟨_, ⟨sl, vs, he, h1⟩, _⟩ | ⟨T', q, _⟩
  · repeat (first | with_reducible refine wpAny_loadPart_at he ?_ | with_reducible refine wpAny_loadPart_at hC ?_ | (with_reducible refine wpAny_isSubtype_exc hC ?_; rw [hcB]) | wp_step)
    rw [h1]
    refine wpAny_pure ?_
    rw [if_neg (by decide)]
    exact wpAny_pure (wpAny_raiseNew_none hh hE)
  · cases q
end
section
variable {nm q : Str} {K T N : Addr} {bs : List Value} {sn : List Str} {sub : List Value} {col : Option Bool} {k0 k1 k2 k3 k5 : Option Value}
variable {prog : Program} {w : World} {hB : Heap} {os0 : OsState} {n : Nat} {C : Cx} {gI : Addr} {cd : ClassData} {o : Obj} {fd : FuncData}
theorem At.grow {A : Around} {σ : AS} {s : Shared} {l : List Env} (x : Mine.At prog w hB os0 A n σ s) (hl : A.frames = some l) {h' : Heap} (hk : ∀ b o, s.heap.get? b = some o → h'.get? b = some o) {t : Nat} : Mine.At prog w hB os0 A n σ { s with heap := h', toks := t } := by
  have kc : Kc (frs l) [] σ σ s.heap h' := Kc.of_keep hk fun _ _ _ e => e
  exact x.next hl kc (fun b ao e => ⟨(x.obj b ao e).1.at (fun ob q => hk _ _ q) (x.tupK kc), (x.obj b ao e).2⟩) rfl rfl
theorem exc_ok (cx : CxO C prog w hB os0 n) (hk : C.K.lookup K = some (excClassObj nm q K N bs (excBm T) true sn sub false col none k0 k1 k2 k3 k5 excNew)) (ei : ExcIn C.K K T gI cd) (it : InitText C hB fd)
    (hi : ∀ a b c : V, initM (NE.of fd.scope) [Str.ofString "self", Str.ofString "what", Str.ofString "at"] [a, b, c] = [some a, some b, some c])
    (ho : hB.get? gI = some o) (hdata : o.data = .func fd) (hcd : hB.CodeRec fd.code fd.qualname) (hclo : fd.closure = []) (hglob : fd.globals = mainGlobals) (hbi : fd.builtins = builtinsNs)
    (hbind : ∀ (s : Shared) (a b : Value), hB.StaysIn s.heap → BindsTo s fd ⟨[a, b], []⟩ ([Str.ofString "self", Str.ofString "what", Str.ofString "at"].zip [a, b, .none])) : ExcOk prog w hB os0 (n + 2) K where
  kept := fun M h hs => keeps_K ei.keep h fun a o e => hs _ _ (cx.k.In a o e)
  make := fun A l σ s cv t Q E hfr at_ rv h => by
    obtain ⟨hh, gg, d, tt, os⟩ := s
    have hC := at_.st _ _ (cx.k.In _ _ hk)
    have In : C.K.In hh := fun a o e => at_.st _ _ (cx.k.In a o e)
    have kp : ∀ b o, hh.get? b = some o → ((hh.push { cls := .type "tuple", data := .seq [cv].toArray }).push { cls := .ref K, data := .fields (excFs hh.objs.size) }).get? b = some o := fun b o e => push_keep (push_keep e)
    have he : ((hh.push { cls := .type "tuple", data := .seq [cv].toArray }).push { cls := .ref K, data := .fields (excFs hh.objs.size) }).get? (hh.objs.size + 1) = some { cls := .ref K, data := .fields (excFs hh.objs.size) } := by heap_get
    have hn : hh.get? (hh.objs.size + 1) = none := Heap.get?_none_of_le (Nat.le_succ _)
    have hw : Code.weight (.builtin "type.__call__" ⟨[.ref K, cv], []⟩) = 1 := by kernel_rfl
    have hu : Code.cUnits (.builtin "type.__call__" ⟨[.ref K, cv], []⟩) = 1 := by kernel_rfl
    have a2 : Mine.At prog w hB os0 (A.under (.builtin "type.__call__" ⟨[.ref K, cv], []⟩)) (n + 1) σ ⟨(hh.push { cls := .type "tuple", data := .seq [cv].toArray }).push { cls := .ref K, data := .fields (excFs hh.objs.size) }, gg, d, tt, os⟩ :=
      (at_.grow hfr kp (t := tt)).into rfl rfl (by show A.depth + _ ≤ A.depth + 4; rw [hw]; lia) (by show A.units + _ ≤ A.units + 60; rw [hu]; lia)
    obtain ⟨_, _, _, _, _, _, _, _, _, _, _, _, _, _, _, hbody⟩ := id it.body
    refine wpAny_call (exc_make In hC ei.init ei.fn ?_)
    have hfr2 : (A.under (.builtin "type.__call__" ⟨[.ref K, cv], []⟩)).frames = some l := hfr
    refine fun_enter cx ho hdata hcd hbody hclo hglob hbi it.sc (hbind _ _ _ a2.st) (vs := [.ref (hh.objs.size + 1), .str t, .none]) rfl hfr2 a2 (.cons (.ref _) (.cons (rv.keeps kp) (.cons .none .nil))) fun env s₁ en => ?_
    have he1 := en.keep _ _ he
    have fs := en.fs
    rw [hi] at fs
    obtain ⟨l', hl', ff, fσ⟩ := fs.at_.fr
    obtain rfl := inj2 en.su.fo.ok.fr hl'
    have hfe : hh.objs.size + 1 ∉ frs (env :: l) := fun hm => by
      obtain ⟨_, o', e', hn'⟩ := ff.mem hm
      obtain rfl := inj2 he1 e'; exact hn' _ rfl
    have hoe : hh.objs.size + 1 ∉ (callee prog w hB os0 (A.under (.builtin "type.__call__" ⟨[.ref K, cv], []⟩)) l n fd.scope env).own := fun hm => by
      obtain ⟨o', e', hn'⟩ := fs.ownDict _ hm
      obtain rfl := inj2 he1 e'; exact hn' _ rfl
    refine wpAny_mono (exc_body (f := callee prog w hB os0 (A.under (.builtin "type.__call__" ⟨[.ref K, cv], []⟩)) l n fd.scope env) en.su.fo K it rfl ?_ hbody (cx.k.In _ _ hk) ei fs he1 (at_.fresh' hn) ?_ hfe hoe (Q := fun fl s' => fl = .next ∧ Q (.ref (hh.objs.size + 1)) s') (E := fun _ _ => False) fun s' dx x' kc fly fdx hbb => ⟨rfl, ?_⟩) (fun fl s' hq => ?_) fun _ _ y => y.elim
    · exact en.scope
    · refine isN fun o' z => ?_
      have := at_.st _ _ z; exact no2 hn this
    · obtain ⟨L, hL, hL'⟩ : ∃ L, env.frame = some L ∧ hh.get? L = none := ⟨_, en.frame, Heap.get?_none_of_le (by show hh.objs.size ≤ ((hh.push _).push _).objs.size; rw [Heap.size_push, Heap.size_push]; lia)⟩
      have hfrs : frs (env :: l) = L :: frs l := by simp only [frs, List.filterMap_cons, hL]
      have kk : Kc (frs l) [] σ σ hh s'.heap := by
        refine Kc.called (fun b o e => en.keep _ _ (kp b o e)) (hfrs ▸ kc) hL' fun b hb => by rw [List.mem_singleton.mp hb]; exact hn
      refine h _ dx s' ((en.back _ _ _ x').outof at_ rfl) kk fly (fun b hb => ?_) hbb
      have fr : ∀ b, hh.get? b = none → hh.get? b = none ∧ σ b = none ∧ hB.get? b = none := fun b hb => ⟨hb, at_.fresh' hb, by
        refine isN fun o' z => ?_
        have := at_.st _ _ z; exact no2 hb this⟩
      rcases List.mem_cons.mp hb with rfl | hb
      · refine fr _ ?_
        refine isN fun o' z => ?_
        rw [en.keep _ _ (kp _ _ z)] at fdx; exact no3 fdx
      · rw [List.mem_singleton.mp hb]; exact fr _ hn
    · obtain ⟨rfl, hq⟩ := hq
      exact ⟨rfl, hq⟩
  raise := fun A env x Q E s hh h => exc_raise hh (wpAny_mono h (fun v s₁ ⟨e, dx, hv, fly, hs, hE⟩ => ⟨e, dx, hv, hs _ _ (cx.k.In _ _ hk), fly, hE⟩) fun _ _ y => y)
  mat := fun A Q E s e o hs he hc hq => by
    obtain ⟨hp, g, d, t, os⟩ := s
    exact wpAny_excMatches_sub_self (hs _ _ (cx.k.In _ _ hk)) he hc (by simp [excBm]) hq
  attr := fun A Q E s e dx X t hs fly hb q => by
    obtain ⟨es, n', cv, hd, hg, r⟩ := hb
    obtain ⟨tk, rfl, _⟩ := r.strInv
    have In : C.K.In s.heap := fun a o e => hs _ _ (cx.k.In a o e)
    rcases fly with ⟨_, ⟨sl, vs, he, _⟩, _⟩ | ⟨_, _, _, ⟨sl, vs, he, _⟩, _⟩
    · exact exc_attr In ei he hd hg rfl fun k => q tk k
    · exact exc_attr In ei he hd hg rfl fun k => q tk k
end
end Mine
open PySem PySem.W PyProof.Rows
namespace Mine
theorem said0 : PySem.W.Fast.tw9446332074065402090 PySem.Challenge.rw_on0172_01 = true := by kernel_rfl
theorem said : OpenLaw.wellSaid PySem.Challenge.rw_on0172_01 = true := (congrFun PySem.W.Fast.te9446332074065402090 _).trans said0
noncomputable def stAt (i : Nat) : Stmt := PySem.Challenge.pw_on0172_01.main.body[i]!
noncomputable def clsBody : Stmt → List Stmt
  | .ClassDef _ _ _ body _ _ _ _ _ _ _ => body
  | _ => []
noncomputable def mAt (i j : Nat) : Stmt := (clsBody (stAt i))[j]!
noncomputable def fnD (st : Stmt) (qual pm : String) (tk : Nat) (code : Addr) (d : Value) : FuncData := match st with
  | .FunctionDef name args body _ _ _ scope _ _ _ => { name, qualname := qual, params := args, body := .stmts body, scope, globals := mainGlobals, closure := [], defaults := d, kwdefaults := .none, doc := .none, pyModule := .str pm tk, code := .ref code, builtins := builtinsNs }
  | _ => default
noncomputable def fnO (st : Stmt) (qual pm : String) (tk : Nat) (code : Addr) (d : Value) : Obj := { cls := .type "function", data := .func (fnD st qual pm tk code d) }
noncomputable def sh (P : Params) (s : Str) : Int := if s.cps.isEmpty then 0 else reduceHash (P.strHash s.cps)
noncomputable def KF (P : Params) : Frag := [
  (86, fnO (stAt 15) "is_number" "grammarmill.codes" 348 85 (.none)),
  (93, fnO (stAt 16) "is_true" "grammarmill.codes" 348 92 (.none)),
  (100, fnO (stAt 17) "bounded" "grammarmill.codes" 348 99 (.none)),
  (107, fnO (stAt 18) "added" "grammarmill.codes" 348 106 (.none)),
  (114, fnO (stAt 19) "compared" "grammarmill.codes" 348 113 (.none)),
  (121, fnO (stAt 20) "part_count" "grammarmill.codes" 348 120 (.none)),
  (128, fnO (stAt 21) "are_equal" "grammarmill.codes" 348 127 (.none)),
  (135, fnO (stAt 22) "two_worth" "grammarmill.codes" 348 134 (.none)),
  (142, fnO (stAt 23) "one_worth" "grammarmill.codes" 348 141 (.none)),
  (149, fnO (stAt 24) "goals_behind" "grammarmill.codes" 348 148 (.none)),
  (156, fnO (stAt 25) "taken_and_put" "grammarmill.codes" 348 155 (.none)),
  (163, fnO (stAt 26) "is_pair" "grammarmill.codes" 348 162 (.none)),
  (168, fnO (stAt 27) "check_code" "grammarmill.codes" 348 167 (.none)),
  (173, fnO (stAt 28) "most_depth" "grammarmill.codes" 348 172 (.none)),
  (180, fnO (stAt 29) "show_code" "grammarmill.codes" 348 179 (.none)),
  (187, fnO (stAt 32) "need" "grammarmill.machine" 494 186 (.none)),
  (194, fnO (stAt 33) "need_list" "grammarmill.machine" 494 193 (.none)),
  (201, fnO (stAt 34) "need_row" "grammarmill.machine" 494 200 (.none)),
  (208, fnO (stAt 35) "need_number" "grammarmill.machine" 494 207 (.none)),
  (215, fnO (stAt 36) "number_of" "grammarmill.machine" 494 214 (.none)),
  (222, fnO (stAt 37) "text_of" "grammarmill.machine" 494 221 (.none)),
  (229, fnO (stAt 38) "glued" "grammarmill.machine" 494 228 (.none)),
  (236, fnO (stAt 39) "turned" "grammarmill.machine" 494 235 (.none)),
  (243, fnO (stAt 40) "item_of" "grammarmill.machine" 494 242 (.none)),
  (250, fnO (stAt 41) "cut_of" "grammarmill.machine" 494 249 (.none)),
  (257, fnO (stAt 42) "end_of" "grammarmill.machine" 494 256 (.none)),
  (264, fnO (stAt 43) "call_of_one" "grammarmill.machine" 494 263 (.none)),
  (271, fnO (stAt 44) "applied" "grammarmill.machine" 494 270 (.none)),
  (278, fnO (stAt 45) "value_at" "grammarmill.machine" 494 277 (.none)),
  (299, fnO (mAt 47 0) "Frame.__init__" "grammarmill.machine" 494 298 (.none)),
  (306, fnO (mAt 47 1) "Frame.count" "grammarmill.machine" 494 305 (.none)),
  (313, fnO (mAt 47 2) "Frame.push" "grammarmill.machine" 494 312 (.none)),
  (320, fnO (mAt 47 3) "Frame.pop" "grammarmill.machine" 494 319 (.none)),
  (327, fnO (mAt 47 4) "Frame.pop_some" "grammarmill.machine" 494 326 (.none)),
  (356, fnO (mAt 48 0) "Machine.__init__" "grammarmill.machine" 494 355 (.ref 349)),
  (363, fnO (mAt 48 1) "Machine.run" "grammarmill.machine" 494 362 (.none)),
  (370, fnO (mAt 48 2) "Machine.jumped" "grammarmill.machine" 494 369 (.none)),
  (377, fnO (mAt 48 3) "Machine.step" "grammarmill.machine" 494 376 (.none)),
  (384, fnO (mAt 48 4) "Machine.store" "grammarmill.machine" 494 383 (.none)),
  (39, fnO (mAt 6 0) "ToolError.__init__" "grammarmill.source" 276 38 (.ref 32)),
  (424, fnO (stAt 50) "_law_pen" "law_on0172_01" 812 423 (.none)),
  (431, fnO (stAt 51) "_law_draw" "law_on0172_01" 812 430 (.none)),
  (436, fnO (stAt 52) "_law_value" "law_on0172_01" 812 435 (.none)),
  (443, fnO (stAt 53) "_law_piece" "law_on0172_01" 812 442 (.none)),
  (450, fnO (stAt 54) "_law_any" "law_on0172_01" 812 449 (.none)),
  (457, fnO (stAt 55) "_law_stands" "law_on0172_01" 812 456 (.none)),
  (462, fnO (stAt 56) "_law_depths" "law_on0172_01" 812 461 (.none)),
  (467, fnO (stAt 57) "_law_run_right" "law_on0172_01" 812 466 (.none)),
  (49, ⟨.type "type", none, .cls { name := "ToolError", bases := [.type "Exception"], mro := [.ref 49, .type "Exception", .type "BaseException", .type "object"], ns := 48, qualname := "ToolError", subclasses := [.ref 62, .ref 74] }, #[some (.ref 25), none, some (.str "ToolError" 278), some (.str "ToolError" 286), some (.builtin "Exception.__new__"), some (.bool true)]⟩),
  (62, ⟨.type "type", none, .cls { name := "ActionError", bases := [.ref 49], mro := [.ref 62, .ref 49, .type "Exception", .type "BaseException", .type "object"], ns := 61, qualname := "ActionError", subclasses := [] }, #[some (.ref 53), none, some (.str "ActionError" 316), some (.str "ActionError" 324), some (.builtin "Exception.__new__"), some (.bool true)]⟩),
  (74, ⟨.type "type", none, .cls { name := "MachineError", bases := [.ref 49], mro := [.ref 74, .ref 49, .type "Exception", .type "BaseException", .type "object"], ns := 73, qualname := "MachineError", subclasses := [] }, #[some (.ref 65), none, some (.str "MachineError" 332), some (.str "MachineError" 340), some (.builtin "Exception.__new__"), some (.bool true)]⟩),
  (337, ⟨.type "type", none, .cls { name := "Frame", bases := [.type "object"], mro := [.ref 337, .type "object"], ns := 336, qualname := "Frame", subclasses := [] }, #[none, none, some (.str "Frame" 619), some (.str "Frame" 627), some (.builtin "object.__new__"), some (.bool true)]⟩),
  (413, ⟨.type "type", none, .cls { name := "Machine", bases := [.type "object"], mro := [.ref 413, .type "object"], ns := 412, qualname := "Machine", subclasses := [] }, #[none, none, some (.str "Machine" 698), some (.str "Machine" 706), some (.builtin "object.__new__"), some (.bool true)]⟩),
  (48, ⟨.type "dict", none, .dict #[⟨sh P "__module__", .str "__module__" 285, .str "grammarmill.source" 276⟩, ⟨sh P "__firstlineno__", .str "__firstlineno__" 289, .int 9 288⟩, ⟨sh P "__init__", .str "__init__" 298, .ref 39⟩, ⟨sh P "told", .str "told" 305, .ref 46⟩, ⟨sh P "__static_attributes__", .str "__static_attributes__" 308, .ref 47⟩, ⟨sh P "__weakref__", .str "__weakref__" 310, .ref 50⟩, ⟨sh P "__doc__", .str "__doc__" 311, .none⟩] 3, #[]⟩),
  (61, ⟨.type "dict", none, .dict #[⟨sh P "__module__", .str "__module__" 323, .str "grammarmill.source" 276⟩, ⟨sh P "__firstlineno__", .str "__firstlineno__" 327, .int 18 326⟩, ⟨sh P "__static_attributes__", .str "__static_attributes__" 328, .ref 60⟩, ⟨sh P "__doc__", .str "__doc__" 329, .none⟩] 2, #[]⟩),
  (73, ⟨.type "dict", none, .dict #[⟨sh P "__module__", .str "__module__" 339, .str "grammarmill.source" 276⟩, ⟨sh P "__firstlineno__", .str "__firstlineno__" 343, .int 20 342⟩, ⟨sh P "__static_attributes__", .str "__static_attributes__" 344, .ref 72⟩, ⟨sh P "__doc__", .str "__doc__" 345, .none⟩] 2, #[]⟩),
  (336, ⟨.type "dict", none, .dict #[⟨sh P "__module__", .str "__module__" 626, .str "grammarmill.machine" 494⟩, ⟨sh P "__firstlineno__", .str "__firstlineno__" 630, .int 249 629⟩, ⟨sh P "__init__", .str "__init__" 642, .ref 299⟩, ⟨sh P "count", .str "count" 649, .ref 306⟩, ⟨sh P "push", .str "push" 657, .ref 313⟩, ⟨sh P "pop", .str "pop" 664, .ref 320⟩, ⟨sh P "pop_some", .str "pop_some" 673, .ref 327⟩, ⟨sh P "tell", .str "tell" 681, .ref 334⟩, ⟨sh P "__static_attributes__", .str "__static_attributes__" 690, .ref 335⟩, ⟨sh P "__dict__", .str "__dict__" 692, .ref 338⟩, ⟨sh P "__weakref__", .str "__weakref__" 694, .ref 339⟩, ⟨sh P "__doc__", .str "__doc__" 695, .none⟩] 4, #[]⟩),
  (412, ⟨.type "dict", none, .dict #[⟨sh P "__module__", .str "__module__" 705, .str "grammarmill.machine" 494⟩, ⟨sh P "__firstlineno__", .str "__firstlineno__" 709, .int 282 708⟩, ⟨sh P "__init__", .str "__init__" 718, .ref 356⟩, ⟨sh P "run", .str "run" 734, .ref 363⟩, ⟨sh P "jumped", .str "jumped" 745, .ref 370⟩, ⟨sh P "step", .str "step" 756, .ref 377⟩, ⟨sh P "store", .str "store" 766, .ref 384⟩, ⟨sh P "evaluate", .str "evaluate" 778, .ref 391⟩, ⟨sh P "statements", .str "statements" 787, .ref 398⟩, ⟨sh P "statement", .str "statement" 796, .ref 405⟩, ⟨sh P "value", .str "value" 802, .ref 410⟩, ⟨sh P "__static_attributes__", .str "__static_attributes__" 804, .ref 411⟩, ⟨sh P "__dict__", .str "__dict__" 806, .ref 414⟩, ⟨sh P "__weakref__", .str "__weakref__" 808, .ref 415⟩, ⟨sh P "__doc__", .str "__doc__" 809, .none⟩] 4, #[]⟩),
  (1, ⟨.type "dict", none, .dict #[⟨sh P "builtins", .str "builtins" 162, .ref 4⟩, ⟨sh P "__main__", .str "__main__" 163, .ref 5⟩] 2, #[]⟩),
  (32, ⟨.type "tuple", none, .seq #[.none] 0, #[]⟩),
  (349, ⟨.type "tuple", none, .seq #[.int 2000 710] 0, #[]⟩),
  (22, ⟨.type "tuple", none, .seq #[.str "yyerrok" 194, .str "yyclearin" 195, .str "YYERROR" 196, .str "YYABORT" 197, .str "YYACCEPT" 198] 0, #[]⟩),
  (77, ⟨.type "tuple", none, .seq #[.str "YYERROR" 350, .str "YYABORT" 351, .str "YYACCEPT" 352] 0, #[]⟩),
  (78, ⟨.type "tuple", none, .seq #[.str "==" 354, .str "!=" 355, .str "<" 356, .str "<=" 357, .str ">" 358, .str ">=" 359] 0, #[]⟩),
  (79, ⟨.type "tuple", none, .seq #[.str "jump" 361, .str "unless" 362, .str "when" 363] 0, #[]⟩),
  (23, ⟨.type "dict", none, .dict #[⟨sh P "||", .str "||" 200, .int 1 201⟩, ⟨sh P "&&", .str "&&" 202, .int 2 203⟩, ⟨sh P "==", .str "==" 204, .int 3 205⟩, ⟨sh P "!=", .str "!=" 206, .int 3 207⟩, ⟨sh P "<", .str "<" 208, .int 3 209⟩, ⟨sh P "<=", .str "<=" 210, .int 3 211⟩, ⟨sh P ">", .str ">" 212, .int 3 213⟩, ⟨sh P ">=", .str ">=" 214, .int 3 215⟩, ⟨sh P "+", .str "+" 216, .int 4 217⟩, ⟨sh P "-", .str "-" 218, .int 4 219⟩, ⟨sh P "*", .str "*" 220, .int 5 221⟩, ⟨sh P "/", .str "/" 222, .int 5 223⟩, ⟨sh P "%", .str "%" 224, .int 5 225⟩] 13, #[]⟩),
  (24, ⟨.type "dict", none, .dict #[⟨sh P "len", .str "len" 240, .int 1 241⟩, ⟨sh P "item", .str "item" 242, .int 2 243⟩, ⟨sh P "push", .str "push" 244, .int 2 245⟩, ⟨sh P "head", .str "head" 246, .int 1 247⟩, ⟨sh P "rest", .str "rest" 248, .int 1 249⟩, ⟨sh P "last", .str "last" 250, .int 1 251⟩, ⟨sh P "back", .str "back" 252, .int 1 253⟩, ⟨sh P "text", .str "text" 254, .int 1 255⟩, ⟨sh P "number", .str "number" 256, .int 1 257⟩, ⟨sh P "cut", .str "cut" 258, .int 3 259⟩, ⟨sh P "glue", .str "glue" 260, .int 2 261⟩] 11, #[]⟩)]
noncomputable def kAs : List Addr := [86, 93, 100, 107, 114, 121, 128, 135, 142, 149, 156, 163, 168, 173, 180, 187, 194, 201, 208, 215, 222, 229, 236, 243, 250, 257, 264, 271, 278, 299, 306, 313, 320, 327, 356, 363, 370, 377, 384, 39, 424, 431, 436, 443, 450, 457, 462, 467, 49, 62, 74, 337, 413, 48, 61, 73, 336, 412, 1, 32, 349, 22, 77, 78, 79, 23, 24]
noncomputable def kGs : List (Str × Value) := [((Str.ofString "WORDS", (Value.ref 22 : Value)) : Str × Value), ((Str.ofString "LEVELS", (Value.ref 23 : Value)) : Str × Value), ((Str.ofString "FUNCTIONS", (Value.ref 24 : Value)) : Str × Value), ((Str.ofString "MOST_BITS", (Value.int 512 274 : Value)) : Str × Value), ((Str.ofString "ActionError", (Value.ref 62 : Value)) : Str × Value), ((Str.ofString "MachineError", (Value.ref 74 : Value)) : Str × Value), ((Str.ofString "LEAVING", (Value.ref 77 : Value)) : Str × Value), ((Str.ofString "COMPARISONS", (Value.ref 78 : Value)) : Str × Value), ((Str.ofString "JUMPS", (Value.ref 79 : Value)) : Str × Value), ((Str.ofString "MOST_SIZE", (Value.int 2000 365 : Value)) : Str × Value), ((Str.ofString "MOST_PARTS", (Value.int 300 367 : Value)) : Str × Value), ((Str.ofString "MOST_FIGURES", (Value.int 160 496 : Value)) : Str × Value), ((Str.ofString "Frame", (Value.ref 337 : Value)) : Str × Value), ((Str.ofString "Machine", (Value.ref 413 : Value)) : Str × Value), ((Str.ofString "is_number", (Value.ref 86 : Value)) : Str × Value), ((Str.ofString "is_true", (Value.ref 93 : Value)) : Str × Value), ((Str.ofString "bounded", (Value.ref 100 : Value)) : Str × Value), ((Str.ofString "added", (Value.ref 107 : Value)) : Str × Value), ((Str.ofString "compared", (Value.ref 114 : Value)) : Str × Value), ((Str.ofString "part_count", (Value.ref 121 : Value)) : Str × Value), ((Str.ofString "are_equal", (Value.ref 128 : Value)) : Str × Value), ((Str.ofString "two_worth", (Value.ref 135 : Value)) : Str × Value), ((Str.ofString "one_worth", (Value.ref 142 : Value)) : Str × Value), ((Str.ofString "goals_behind", (Value.ref 149 : Value)) : Str × Value), ((Str.ofString "taken_and_put", (Value.ref 156 : Value)) : Str × Value), ((Str.ofString "is_pair", (Value.ref 163 : Value)) : Str × Value), ((Str.ofString "check_code", (Value.ref 168 : Value)) : Str × Value), ((Str.ofString "most_depth", (Value.ref 173 : Value)) : Str × Value), ((Str.ofString "show_code", (Value.ref 180 : Value)) : Str × Value), ((Str.ofString "need", (Value.ref 187 : Value)) : Str × Value), ((Str.ofString "need_list", (Value.ref 194 : Value)) : Str × Value), ((Str.ofString "need_row", (Value.ref 201 : Value)) : Str × Value), ((Str.ofString "need_number", (Value.ref 208 : Value)) : Str × Value), ((Str.ofString "number_of", (Value.ref 215 : Value)) : Str × Value), ((Str.ofString "text_of", (Value.ref 222 : Value)) : Str × Value), ((Str.ofString "glued", (Value.ref 229 : Value)) : Str × Value), ((Str.ofString "turned", (Value.ref 236 : Value)) : Str × Value), ((Str.ofString "item_of", (Value.ref 243 : Value)) : Str × Value), ((Str.ofString "cut_of", (Value.ref 250 : Value)) : Str × Value), ((Str.ofString "end_of", (Value.ref 257 : Value)) : Str × Value), ((Str.ofString "call_of_one", (Value.ref 264 : Value)) : Str × Value), ((Str.ofString "applied", (Value.ref 271 : Value)) : Str × Value), ((Str.ofString "value_at", (Value.ref 278 : Value)) : Str × Value), ((Str.ofString "_law_pen", (Value.ref 424 : Value)) : Str × Value), ((Str.ofString "_law_draw", (Value.ref 431 : Value)) : Str × Value), ((Str.ofString "_law_value", (Value.ref 436 : Value)) : Str × Value), ((Str.ofString "_law_piece", (Value.ref 443 : Value)) : Str × Value), ((Str.ofString "_law_any", (Value.ref 450 : Value)) : Str × Value), ((Str.ofString "_law_stands", (Value.ref 457 : Value)) : Str × Value), ((Str.ofString "_law_depths", (Value.ref 462 : Value)) : Str × Value), ((Str.ofString "_law_run_right", (Value.ref 467 : Value)) : Str × Value)]
noncomputable def kBs : List (Str × Value) := [((Str.ofString "Exception", (Value.type "Exception" : Value)) : Str × Value), ((Str.ofString "len", (Value.builtin "len" : Value)) : Str × Value), ((Str.ofString "int", (Value.type "int" : Value)) : Str × Value), ((Str.ofString "str", (Value.type "str" : Value)) : Str × Value), ((Str.ofString "repr", (Value.builtin "repr" : Value)) : Str × Value), ((Str.ofString "abs", (Value.builtin "abs" : Value)) : Str × Value), ((Str.ofString "max", (Value.builtin "max" : Value)) : Str × Value), ((Str.ofString "list", (Value.type "list" : Value)) : Str × Value), ((Str.ofString "sorted", (Value.builtin "sorted" : Value)) : Str × Value), ((Str.ofString "tuple", (Value.type "tuple" : Value)) : Str × Value), ((Str.ofString "ord", (Value.builtin "ord" : Value)) : Str × Value), ((Str.ofString "isinstance", (Value.builtin "isinstance" : Value)) : Str × Value), ((Str.ofString "range", (Value.type "range" : Value)) : Str × Value), ((Str.ofString "enumerate", (Value.type "enumerate" : Value)) : Str × Value)]
noncomputable def kCs : List (Addr × Str) := [((85, Str.ofString "is_number") : Addr × Str), ((92, Str.ofString "is_true") : Addr × Str), ((99, Str.ofString "bounded") : Addr × Str), ((106, Str.ofString "added") : Addr × Str), ((113, Str.ofString "compared") : Addr × Str), ((120, Str.ofString "part_count") : Addr × Str), ((127, Str.ofString "are_equal") : Addr × Str), ((134, Str.ofString "two_worth") : Addr × Str), ((141, Str.ofString "one_worth") : Addr × Str), ((148, Str.ofString "goals_behind") : Addr × Str), ((155, Str.ofString "taken_and_put") : Addr × Str), ((162, Str.ofString "is_pair") : Addr × Str), ((167, Str.ofString "check_code") : Addr × Str), ((172, Str.ofString "most_depth") : Addr × Str), ((179, Str.ofString "show_code") : Addr × Str), ((186, Str.ofString "need") : Addr × Str), ((193, Str.ofString "need_list") : Addr × Str), ((200, Str.ofString "need_row") : Addr × Str), ((207, Str.ofString "need_number") : Addr × Str), ((214, Str.ofString "number_of") : Addr × Str), ((221, Str.ofString "text_of") : Addr × Str), ((228, Str.ofString "glued") : Addr × Str), ((235, Str.ofString "turned") : Addr × Str), ((242, Str.ofString "item_of") : Addr × Str), ((249, Str.ofString "cut_of") : Addr × Str), ((256, Str.ofString "end_of") : Addr × Str), ((263, Str.ofString "call_of_one") : Addr × Str), ((270, Str.ofString "applied") : Addr × Str), ((277, Str.ofString "value_at") : Addr × Str), ((298, Str.ofString "Frame.__init__") : Addr × Str), ((305, Str.ofString "Frame.count") : Addr × Str), ((312, Str.ofString "Frame.push") : Addr × Str), ((319, Str.ofString "Frame.pop") : Addr × Str), ((326, Str.ofString "Frame.pop_some") : Addr × Str), ((355, Str.ofString "Machine.__init__") : Addr × Str), ((362, Str.ofString "Machine.run") : Addr × Str), ((369, Str.ofString "Machine.jumped") : Addr × Str), ((376, Str.ofString "Machine.step") : Addr × Str), ((383, Str.ofString "Machine.store") : Addr × Str), ((38, Str.ofString "ToolError.__init__") : Addr × Str), ((423, Str.ofString "_law_pen") : Addr × Str), ((430, Str.ofString "_law_draw") : Addr × Str), ((435, Str.ofString "_law_value") : Addr × Str), ((442, Str.ofString "_law_piece") : Addr × Str), ((449, Str.ofString "_law_any") : Addr × Str), ((456, Str.ofString "_law_stands") : Addr × Str), ((461, Str.ofString "_law_depths") : Addr × Str), ((466, Str.ofString "_law_run_right") : Addr × Str)]
noncomputable def kSees (s : Shared) := (kAs.map s.heap.get?, kGs.map (fun x => s.heap.nsMap mainGlobals x.1), kBs.map (fun x => (s.heap.nsMap mainGlobals x.1, s.heap.nsMap builtinsNs x.1)),
  (kCs.all fun x => s.heap.codeRecOk (.ref x.1) x.2) && s.heap.isNs mainGlobals && s.heap.isNs builtinsNs && decide (s.heap.objs.size = 473))
noncomputable def kSaid (w : World) := ((KF w.params).map fun p => some p.2, kGs.map (fun x => some x.2), kBs.map (fun x => ((none : Option Value), some x.2)), true)
def runT (stp : SharedT → Thread → Option (SharedT × Thread)) (ok : Thread → Bool) : Nat → SharedT → Thread → Option SharedT
  | 0, _, _ => none
  | n + 1, s, t => match through t with
    | true => some s
    | false => match ok t with
      | false => none
      | true => match stp s t with
        | some (s', t') => runT stp ok n s' t'
        | none => none
theorem runT_spec {tb : String → Option Builtin} {p : Program} {w : World} {n₀ : Nat} {ann : Option Value} {n : Nat} : ∀ {s s' : SharedT} {t : Thread},
    runT (stepT (denote tb) p w) (stepOk n₀ ann) n s t = some s' → topRun tb p w n₀ ann n s.abs t = some s'.abs := by
  induction n with
  | zero => exact fun h => (Option.some_ne_none _ h.symm).elim
  | succ n ih =>
    intro s s' t h
    unfold runT at h
    unfold topRun
    cases ht : through t with
    | true => rw [ht] at h; exact congrArg (fun s => some (SharedT.abs s)) (Option.some.inj h)
    | false =>
      rw [ht] at h
      cases hk : stepOk n₀ ann t with
      | false => rw [hk] at h; exact (Option.some_ne_none _ h.symm).elim
      | true =>
        rw [hk] at h
        cases hs : stepT (denote tb) p w s t with
        | none => rw [hs] at h; exact (Option.some_ne_none _ h.symm).elim
        | some r => rw [hs] at h; rw [stepT_spec hs]; exact ih h
noncomputable def law_stmt : Stmt := PySem.Challenge.pw_on0172_01.main.body[58]!
noncomputable def vw : Program := { PySem.Challenge.pw_on0172_01 with main := { PySem.Challenge.pw_on0172_01.main with body := [law_stmt] } }
def loose : List Str := List.map Str.ofString ["_wall", "WORDS", "LEVELS", "FUNCTIONS", "MOST_BITS", "ToolError", "ActionError", "MachineError", "LEAVING", "COMPARISONS", "JUMPS", "MOST_SIZE", "MOST_PARTS", "is_number", "is_true", "bounded", "added", "compared", "part_count", "are_equal", "two_worth", "one_worth", "goals_behind", "taken_and_put", "is_pair", "check_code", "most_depth", "show_code", "MOST_FIGURES", "need", "need_list", "need_row", "need_number", "number_of", "text_of", "glued", "turned", "item_of", "cut_of", "end_of", "call_of_one", "applied", "value_at", "controlled", "Frame", "Machine", "_law_pen", "_law_draw", "_law_value", "_law_piece", "_law_any", "_law_stands", "_law_depths", "_law_run_right"]
noncomputable def bootT (P : Params) : BT := ((List.range 11).zip [boot_o_0 P, boot_o_1 P, boot_o_2 P, boot_o_3 P, boot_o_4 P, boot_o_5 P, boot_o_6 P, boot_o_7 P, boot_o_8 P, boot_o_9 P, boot_o_10 P]).foldl (fun t x => t.ins x.1 x.2) .nil
theorem boot_is (P : Params) : absHeap (bootT P) 11 {} = boot_heap P := by kernel_rfl
noncomputable def looks (P : Params) (s : Shared) := (staticsOk (importedModules PySem.Challenge.pw_on0172_01.main.body) (boot_heap P) s.heap && namesBound PySem.Challenge.pw_on0172_01 s.heap && gensDone s && laidKept (boot_heap P) s.heap,
  PySem.W.Fast.tw4187177175401517315 vw loose (PySem.W.Fast.tw5923862056798008813 PySem.Challenge.pw_on0172_01.main.body) (fun _ => true) true s)
theorem run0 (w : World) : (fun os => (runT (PySem.W.Fast.tw10156331382660048174 (PySem.W.Fast.tw11892475500146522536 PySem.W.Fast.tw14364793385576792824) PySem.Challenge.pw_on0172_01 (w.withFollow "special-get-raises" false)) (PySem.W.Fast.tw6613529449190102663 11 (some (.ref 6))) 4000
   { tree := bootT (w.withFollow "special-get-raises" false).params, n := 11, life := { }, gens := #[], drawn := boot_drawn, toks := boot_toks, os := os }
   (topStub PySem.Challenge.pw_on0172_01)).map (fun s => (looks (w.withFollow "special-get-raises" false).params s.abs, kSees s.abs))) = fun _ => 
          some ((true, openGood vw loose), kSaid (w.withFollow "special-get-raises" false)) := by kernel_rfl
theorem run1 (w : World) : (fun os => (runT (PySem.W.Fast.tw10156331382660048174 (PySem.W.Fast.tw11892475500146522536 PySem.W.Fast.tw14364793385576792824) PySem.Challenge.pw_on0172_01 (w.withFollow "special-get-raises" true)) (PySem.W.Fast.tw6613529449190102663 11 (some (.ref 6))) 4000
   { tree := bootT (w.withFollow "special-get-raises" true).params, n := 11, life := { }, gens := #[], drawn := boot_drawn, toks := boot_toks, os := os }
   (topStub PySem.Challenge.pw_on0172_01)).map (fun s => (looks (w.withFollow "special-get-raises" true).params s.abs, kSees s.abs))) = fun _ => 
          some ((true, openGood vw loose), kSaid (w.withFollow "special-get-raises" true)) := by kernel_rfl
theorem boot_size (P : Params) : ((boot_heap P).isNs mainGlobals, (boot_heap P).objs.size, (boot_heap P).nsMap mainGlobals (Str.ofString "__annotations__")) = (true, 11, some (.ref 6)) := by kernel_rfl
theorem top_of {w : World} {s₀ : Shared} (hh : s₀.heap = boot_heap w.params) (hg : s₀.gens = #[]) (hd : s₀.drawn = boot_drawn) (ht : s₀.toks = boot_toks)
    (hrun : (fun os => (runT (PySem.W.Fast.tw10156331382660048174 (PySem.W.Fast.tw11892475500146522536 PySem.W.Fast.tw14364793385576792824) PySem.Challenge.pw_on0172_01 w) (PySem.W.Fast.tw6613529449190102663 11 (some (.ref 6))) 4000
      { tree := bootT w.params, n := 11, life := { }, gens := #[], drawn := boot_drawn, toks := boot_toks, os := os } (topStub PySem.Challenge.pw_on0172_01)).map (fun s => (looks w.params s.abs, kSees s.abs))) = fun _ =>
          some ((true, openGood vw loose), kSaid w)) :
    (topFrom treeTable PySem.Challenge.pw_on0172_01 w 4000 s₀).map (fun s => (openSeen vw loose (importedModules PySem.Challenge.pw_on0172_01.main.body) (fun _ => true) true s, kSees s)) = some (openGood vw loose, kSaid w) := by
  obtain ⟨h, gens, d, t, os⟩ := s₀
  dsimp only at hh hg hd ht
  subst hh hg hd ht
  rw [← PySem.W.Fast.te10156331382660048174, ← PySem.W.Fast.te11892475500146522536, ← PySem.W.Fast.te14364793385576792824, ← PySem.W.Fast.te6613529449190102663] at hrun
  obtain ⟨s', h1, h2⟩ := Option.map_eq_some_iff.mp (congrFun hrun os)
  have h3 := runT_spec h1
  have h4 : SharedT.abs { tree := bootT w.params, n := 11, life := { }, gens := #[], drawn := boot_drawn, toks := boot_toks, os := os } = ⟨boot_heap w.params, #[], boot_drawn, boot_toks, os⟩ := by
    unfold SharedT.abs; dsimp only; rw [boot_is]
  rw [h4] at h3
  obtain ⟨h5, h6⟩ := Prod.mk.inj h2
  obtain ⟨h7, h8⟩ := Prod.mk.inj h5
  obtain ⟨z1, z2⟩ := Prod.mk.inj (boot_size w.params)
  obtain ⟨z2, z3⟩ := Prod.mk.inj z2
  unfold topFrom
  dsimp only
  rw [z1, z2, z3, h3]
  show ((match staticsOk (importedModules PySem.Challenge.pw_on0172_01.main.body) (boot_heap w.params) s'.abs.heap && namesBound PySem.Challenge.pw_on0172_01 s'.abs.heap && gensDone s'.abs && laidKept (boot_heap w.params) s'.abs.heap with | true => some s'.abs | false => none) : Option Shared).map _ = _
  rw [h7]
  rw [← PySem.W.Fast.te4187177175401517315, ← PySem.W.Fast.te5923862056798008813] at h8
  exact congrArg some (Prod.ext h8 h6)
theorem left : LeftO PySem.Challenge.pw_on0172_01 vw loose (fun _ => true) kSees kSaid 4000 :=
  LeftO.of_split "special-get-raises" fun w => by
    obtain ⟨s₀, e, e'⟩ := Option.map_eq_some_iff.mp (boot_open (p := PySem.Challenge.pw_on0172_01) (N := 4000) (by kernel_rfl) (by kernel_rfl) (fun s => by rfl) w)
    obtain ⟨e1, e2⟩ := Prod.mk.inj e'
    obtain ⟨e2, e3⟩ := Prod.mk.inj e2
    obtain ⟨e3, e4⟩ := Prod.mk.inj e3
    rw [e]
    exact congrArg some (Prod.ext (top_of (w := w.withFollow "special-get-raises" false) e1 e2 e3 e4 (run0 w)) (top_of (w := w.withFollow "special-get-raises" true) e1 e2 e3 e4 (run1 w)))
structure KYP (w : World) (h : Heap) : Prop where
  In : (KF w.params).In h
  g : ∃ mg, h.Ns mainGlobals mg ∧ (∀ x ∈ kGs, mg x.1 = some x.2) ∧ ∀ x ∈ kBs, mg x.1 = none
  b : ∃ mb, h.Ns builtinsNs mb ∧ ∀ x ∈ kBs, mb x.1 = some x.2
  c : ∀ x ∈ kCs, h.CodeRec (.ref x.1) x.2
theorem KYP.keeps (w : World) (h h' : Heap) (y : KYP w h) (k : ∀ b o, h.get? b = some o → h'.get? b = some o) : KYP w h' := by
  obtain ⟨mg, g1, g2⟩ := y.g
  obtain ⟨mb, b1, b2⟩ := y.b
  exact ⟨y.In.keeps k, ⟨mg, g1.keeps k, g2⟩, ⟨mb, b1.keeps k, b2⟩, fun x hx => (y.c x hx).keeps k⟩
theorem kAs_is (P : Params) : kAs = (KF P).map (·.1) := by kernel_rfl
theorem map_at {α β : Type} {l : List α} {f g : α → β} (h : l.map f = l.map g) : ∀ x ∈ l, f x = g x := by
  induction l with
  | nil => intro x hx; cases hx
  | cons a r ih =>
    intro x hx
    rw [List.map_cons, List.map_cons] at h
    obtain ⟨h1, h2⟩ := List.cons.inj h
    rcases List.mem_cons.mp hx with rfl | hx
    · exact h1
    · exact ih h2 x hx
theorem KYP.of (w : World) (s : Shared) (h : kSees s = kSaid w) : KYP w s.heap := by
  obtain ⟨h1, h⟩ := Prod.mk.inj h
  obtain ⟨h2, h⟩ := Prod.mk.inj h
  obtain ⟨h3, h4⟩ := Prod.mk.inj h
  rw [Bool.and_eq_true, Bool.and_eq_true, Bool.and_eq_true] at h4
  obtain ⟨⟨⟨h4, h5⟩, h6⟩, _⟩ := h4
  exact ⟨InK.of kAs_is w s h1, ⟨_, .of_isNs h5, map_at h2, fun x hx => (Prod.mk.inj (map_at h3 x hx)).1⟩, ⟨_, .of_isNs h6, fun x hx => (Prod.mk.inj (map_at h3 x hx)).2⟩, fun x hx => .of_ok (List.all_eq_true.mp h4 x hx)⟩
theorem law_some : (defOf vw (Str.ofString "law")).isSome = true := by kernel_rfl
noncomputable def lawD : DefRec := ((defOf vw (Str.ofString "law")).get law_some).1
theorem law_def : defOf vw PySem.Challenge.rw_on0172_01.row.name = some (lawD, []) := by kernel_rfl
theorem head (call : WalkO vw loose (fun _ _ => True) KYP PySem.Challenge.rw_on0172_01.row.toRowW lawD [] fun f vs => PySem.call f vs) : PySem.Challenge.rw_on0172_01.Holds :=
  holds_law said fun said => holds_open (r := PySem.Challenge.rw_on0172_01.row) (q := vw) (loose := loose) (Xt := fun _ => true) (XP := fun _ _ => True) (Yf := kSees) (Ya := kSaid) (YP := KYP) (d := lawD) (kwd := []) (N := 4000)
    left KYP.of KYP.keeps (fun _ _ => trivial) (fun _ _ _ _ _ => trivial) law_def (by kernel_rfl) (by kernel_rfl) (fun _ _ => recFacts_nil rfl) (by kernel_rfl) said (by decide +kernel) ⟨rfl, rfl, rfl, rfl, rfl, by decide +kernel⟩
    ⟨[.list []], by decide +kernel, by decide +kernel⟩ call
noncomputable abbrev pw : Program := PySem.Challenge.pw_on0172_01
noncomputable def isDef : Stmt → Bool
  | .FunctionDef .. => true
  | _ => false
noncomputable def stBody : Stmt → List Stmt
  | .FunctionDef _ _ body _ _ _ _ _ _ _ => body
  | _ => []
noncomputable def stScope : Stmt → Scope
  | .FunctionDef _ _ _ _ _ _ scope _ _ _ => scope
  | _ => default
theorem fnD_is {st : Stmt} (h : isDef st = true) {qual pm : String} {tk : Nat} {code : Addr} {d : Value} :
    (fnD st qual pm tk code d).body = .stmts (stBody st) ∧ (fnD st qual pm tk code d).scope = stScope st ∧ (fnD st qual pm tk code d).closure = [] ∧ (fnD st qual pm tk code d).globals = mainGlobals ∧
    (fnD st qual pm tk code d).builtins = builtinsNs ∧ (fnD st qual pm tk code d).code = .ref code ∧ (fnD st qual pm tk code d).qualname = qual := by
  cases st <;> first | exact ⟨rfl, rfl, rfl, rfl, rfl, rfl, rfl⟩ | exact bft h
theorem kept_of {C : Cx} {hB : Heap} (ck : CxK C hB) {a : Addr} (h : keepIn C.K (.ref a) = true) : Kept hB (.ref a) := fun M h' hs => keeps_K h h' fun a o e => hs _ _ (ck.In a o e)
theorem does_ofB {w : World} {hB : Heap} {os0 : OsState} {n : Nat} {C : Cx} (cx : CxO C pw w hB os0 n) (y : KYP w hB) {a c : Addr} {st : Stmt} {qual pm : String} {tk : Nat} {d : Value} {ps : List Str} {rp : RP} {sp : Spec}
    (ha : (KF w.params).lookup a = some (fnO st qual pm tk c d)) (hc : (c, Str.ofString qual) ∈ kCs) (hd : isDef st = true) (hs : funScB (stScope st) ps = true)
    (hb : ∀ (s : Shared) (cvs : List Value), hB.StaysIn s.heap → cvs.length = ps.length → BindsTo s (fnD st qual pm tk c d) ⟨cvs, []⟩ (ps.zip cvs)) (hcp : cP 100 (NE.of (stScope st)) (stScope st) (stBody st) = some rp)
    (hsp : ∀ vs σ Q X, (∀ b o, C.ro b = some o → σ b = none) → sp vs σ Q X → vs.length = ps.length ∧ rsts C rp (initM (NE.of (stScope st)) ps vs) σ ⟨fun _ σ' => Q .none σ', Q, fun _ _ => False, fun x _ σ' => X x σ'⟩) :
    Does pw w hB os0 (n + 1) (.ref a) sp := by
  obtain ⟨h1, h2, h3, h4, h5, h6, h7⟩ := fnD_is hd (qual := qual) (pm := pm) (tk := tk) (code := c) (d := d)
  rw [← h2] at hs hcp hsp
  exact fun_does cx (y.In _ _ ha) rfl (by rw [h6, h7]; exact y.c _ hc) h1 h3 h4 h5 (funSc_of hs) hb hcp hsp
theorem does_of {w : World} {hB : Heap} {os0 : OsState} {n : Nat} {C : Cx} (cx : CxO C pw w hB os0 n) (y : KYP w hB) {a c : Addr} {st : Stmt} {qual pm : String} {tk : Nat} {d : Value} {ps : List Str} {rp : RP} {sp : Spec}
    (ha : (KF w.params).lookup a = some (fnO st qual pm tk c d)) (hc : (c, Str.ofString qual) ∈ kCs) (hd : isDef st = true) (hs : funScB (stScope st) ps = true)
    (hb : ∀ cvs : List Value, cvs.length = ps.length → bindArgs (fnD st qual pm tk c d) ⟨cvs, []⟩ = pure (ps.zip cvs)) (hcp : cP 100 (NE.of (stScope st)) (stScope st) (stBody st) = some rp)
    (hsp : ∀ vs σ Q X, (∀ b o, C.ro b = some o → σ b = none) → sp vs σ Q X → vs.length = ps.length ∧ rsts C rp (initM (NE.of (stScope st)) ps vs) σ ⟨fun _ σ' => Q .none σ', Q, fun _ _ => False, fun x _ σ' => X x σ'⟩) :
    Does pw w hB os0 (n + 1) (.ref a) sp :=
  does_ofB cx y ha hc hd hs (fun s cvs _ h => .of_eq (hb cvs h)) hcp hsp
noncomputable def levels : List (Str × V) := [(Str.ofString "||", .int 1), (Str.ofString "&&", .int 2), (Str.ofString "==", .int 3), (Str.ofString "!=", .int 3), (Str.ofString "<", .int 3), (Str.ofString "<=", .int 3), (Str.ofString ">", .int 3), (Str.ofString ">=", .int 3), (Str.ofString "+", .int 4), (Str.ofString "-", .int 4), (Str.ofString "*", .int 5), (Str.ofString "/", .int 5), (Str.ofString "%", .int 5)]
noncomputable def functions : List (Str × V) := [(Str.ofString "len", .int 1), (Str.ofString "item", .int 2), (Str.ofString "push", .int 2), (Str.ofString "head", .int 1), (Str.ofString "rest", .int 1), (Str.ofString "last", .int 1), (Str.ofString "back", .int 1), (Str.ofString "text", .int 1), (Str.ofString "number", .int 1), (Str.ofString "cut", .int 3), (Str.ofString "glue", .int 2)]
noncomputable def kG : List (Str × V) := [(Str.ofString "WORDS", .tup [.str (Str.ofString "yyerrok"), .str (Str.ofString "yyclearin"), .str (Str.ofString "YYERROR"), .str (Str.ofString "YYABORT"), .str (Str.ofString "YYACCEPT")]), (Str.ofString "LEVELS", .ref 23), (Str.ofString "FUNCTIONS", .ref 24), (Str.ofString "MOST_BITS", .int 512), (Str.ofString "LEAVING", .tup [.str (Str.ofString "YYERROR"), .str (Str.ofString "YYABORT"), .str (Str.ofString "YYACCEPT")]),
  (Str.ofString "COMPARISONS", .tup [.str (Str.ofString "=="), .str (Str.ofString "!="), .str (Str.ofString "<"), .str (Str.ofString "<="), .str (Str.ofString ">"), .str (Str.ofString ">=")]), (Str.ofString "JUMPS", .tup [.str (Str.ofString "jump"), .str (Str.ofString "unless"), .str (Str.ofString "when")]), (Str.ofString "MOST_SIZE", .int 2000), (Str.ofString "MOST_PARTS", .int 300), (Str.ofString "MOST_FIGURES", .int 160)]
noncomputable def frameFields : List Str := ["values", "names", "control", "own", "stack", "steps", "most", "is_left"].map Str.ofString
noncomputable def kFl (c : Addr) (x : Str) : Bool := (c == 337 && frameFields.contains x) || (c == 413 && x == Str.ofString "most")
noncomputable def kRo (la : Addr) (ns : List Int) (a : Addr) : Option AO := if a = 23 then some (.ds levels) else if a = 24 then some (.ds functions) else if a = la then some (.list (ns.map .int)) else none
noncomputable def kC (w : World) (la : Addr) (ns : List Int) (fns : List (Str × Spec)) (mes : List ((Addr × Str) × Spec)) (xs : List (Str × Addr)) : Cx where
  G x := kG.lookup x
  S x := fns.lookup x
  Me c y := mes.lookup (c, y)
  X x := xs.lookup x
  ro := kRo la ns
  F := kFl
  K := KF w.params
structure Bed (w : World) (hB : Heap) (la : Addr) (ns : List Int) : Prop where
  y : KYP w hB
  base : Base pw hB
  scr : OM pw w hB la (.list (ns.map .int))
  nm : (la == sysModules) = false
section
variable {w : World} {hB : Heap} {la : Addr} {ns : List Int}
theorem KYP.glob (y : KYP w hB) {x : Str} {v : Value} (h : kGs.contains (x, v) = true) : Glob hB x v := y.g.elim fun mg q => ⟨mg, q.1, q.2.1 _ (List.contains_iff_mem.mp h)⟩
theorem KYP.blt (y : KYP w hB) {x : Str} {v : Value} (h : kBs.contains (x, v) = true) : Blt hB x v := y.g.elim fun mg q => y.b.elim fun mb r => ⟨mg, mb, q.1, q.2.2 _ (List.contains_iff_mem.mp h), r.1, r.2 _ (List.contains_iff_mem.mp h)⟩
theorem bkif {c : Bool} {a k : BK} {o : Option BK} {P : Prop} (h : (if c then some a else o) = some k) (h1 : c = true → a = k → P) (h2 : o = some k → P) : P := by
  cases c
  · exact h2 h
  · exact h1 rfl (Option.some.inj h)
theorem KYP.bk (y : KYP w hB) {x : Str} {k : BK} (h : bkind x = some k) : Blt hB x (bkVal k) := by
  have one : ∀ {s : Str} {a : BK}, kBs.contains (s, bkVal a) = true → (x == s) = true → a = k → Blt hB x (bkVal k) := fun h1 h2 h3 => by rw [eq_of_beq h2, ← h3]; exact y.blt h1
  exact bkif h (one (by kernel_rfl)) fun h => bkif h (one (by kernel_rfl)) fun h => bkif h (one (by kernel_rfl)) fun h => bkif h (one (by kernel_rfl)) fun h => bkif h (one (by kernel_rfl)) fun h =>
    bkif h (one (by kernel_rfl)) fun h => bkif h (one (by kernel_rfl)) fun h => bkif h (one (by kernel_rfl)) fun h => bkif h (one (by kernel_rfl)) fun h => bkif h (one (by kernel_rfl)) nofun
theorem mem_lk {α β : Type} [BEq α] [LawfulBEq α] {x : α} {v : β} {l : List (α × β)} : l.lookup x = some v → (x, v) ∈ l := by
  induction l with
  | nil => exact fun h => no1 h
  | cons a r ih =>
    intro h
    rw [List.lookup_cons] at h
    cases e : x == a.1 with
    | true =>
      rw [e] at h
      rw [eq_of_beq e, ← Option.some.inj h]; exact .head _
    | false => rw [e] at h; exact .tail _ (ih h)
theorem KYP.con (y : KYP w hB) : ∀ x ∈ kG, ∃ cv, kGs.contains (x.1, cv) = true ∧ Rv hB cv x.2 := by
  have a {p : Str × V → Prop} {x : Str × V} {l : List (Str × V)} (h1 : p x) (h2 : ∀ z ∈ l, p z) : ∀ z ∈ x :: l, p z := List.forall_mem_cons.mpr ⟨h1, h2⟩
  exact a ⟨.ref 22, by kernel_rfl, (.tup (n := 0) (y.In 22 ⟨.type "tuple", none, .seq #[.str (Str.ofString "yyerrok") 194, .str (Str.ofString "yyclearin") 195, .str (Str.ofString "YYERROR") 196, .str (Str.ofString "YYABORT") 197, .str (Str.ofString "YYACCEPT") 198] 0, #[]⟩ (by kernel_rfl)) rfl rfl (.cons (.str _ _ (sfB_ok (by kernel_rfl))) (.cons (.str _ _ (sfB_ok (by kernel_rfl))) (.cons (.str _ _ (sfB_ok (by kernel_rfl))) (.cons (.str _ _ (sfB_ok (by kernel_rfl))) (.cons (.str _ _ (sfB_ok (by kernel_rfl))) .nil))))) (by decide +kernel))⟩ (a ⟨.ref 23, by kernel_rfl, .ref _⟩ (a ⟨.ref 24, by kernel_rfl, .ref _⟩ (a ⟨.int 512 274, by kernel_rfl, .int _ _⟩ (a ⟨.ref 77, by kernel_rfl, (.tup (n := 0) (y.In 77 ⟨.type "tuple", none, .seq #[.str (Str.ofString "YYERROR") 350, .str (Str.ofString "YYABORT") 351, .str (Str.ofString "YYACCEPT") 352] 0, #[]⟩ (by kernel_rfl)) rfl rfl (.cons (.str _ _ (sfB_ok (by kernel_rfl))) (.cons (.str _ _ (sfB_ok (by kernel_rfl))) (.cons (.str _ _ (sfB_ok (by kernel_rfl))) .nil))) (by decide +kernel))⟩
    (a ⟨.ref 78, by kernel_rfl, (.tup (n := 0) (y.In 78 ⟨.type "tuple", none, .seq #[.str (Str.ofString "==") 354, .str (Str.ofString "!=") 355, .str (Str.ofString "<") 356, .str (Str.ofString "<=") 357, .str (Str.ofString ">") 358, .str (Str.ofString ">=") 359] 0, #[]⟩ (by kernel_rfl)) rfl rfl (.cons (.str _ _ (sfB_ok (by kernel_rfl))) (.cons (.str _ _ (sfB_ok (by kernel_rfl))) (.cons (.str _ _ (sfB_ok (by kernel_rfl))) (.cons (.str _ _ (sfB_ok (by kernel_rfl))) (.cons (.str _ _ (sfB_ok (by kernel_rfl))) (.cons (.str _ _ (sfB_ok (by kernel_rfl))) .nil)))))) (by decide +kernel))⟩ (a ⟨.ref 79, by kernel_rfl, (.tup (n := 0) (y.In 79 ⟨.type "tuple", none, .seq #[.str (Str.ofString "jump") 361, .str (Str.ofString "unless") 362, .str (Str.ofString "when") 363] 0, #[]⟩ (by kernel_rfl)) rfl rfl (.cons (.str _ _ (sfB_ok (by kernel_rfl))) (.cons (.str _ _ (sfB_ok (by kernel_rfl))) (.cons (.str _ _ (sfB_ok (by kernel_rfl))) .nil))) (by decide +kernel))⟩ (a ⟨.int 2000 365, by kernel_rfl, .int _ _⟩ (a ⟨.int 300 367, by kernel_rfl, .int _ _⟩ (a ⟨.int 160 496, by kernel_rfl, .int _ _⟩ nofun)))))))))
noncomputable def entO (P : Params) (l : List (Str × Tok × Int × Tok)) (ep : Nat) : Obj := ⟨.type "dict", none, .dict (l.map fun x => ⟨sh P x.1, .str x.1 x.2.1, .int x.2.2.1 x.2.2.2⟩).toArray ep, #[]⟩
theorem ro_dict {h : Heap} {a : Addr} {l : List (Str × Tok × Int × Tok)} {ep : Nat} (hg : h.get? a = some (entO w.params l ep)) (hn : (l.map (·.1)).Nodup) : OM pw w h a (.ds (l.map fun x => (x.1, .int x.2.2.1))) := by
  refine ⟨l.map fun x => (x.1, .int x.2.2.1 x.2.2.2), ⟨_, _, _, hg, ⟨rfl, rfl, rfl⟩, rfl, fun e he => ?_, ?_, by rw [List.map_map]; exact hn⟩, ?_⟩
  · obtain ⟨x, _, rfl⟩ := List.mem_map.mp (List.mem_toArray.mp he)
    exact ⟨x.1, strKind_self _ _ _ _, rfl⟩
  · clear hg hn
    show Pairs _ (l.map _).toArray.toList _
    rw [List.toList_toArray]
    induction l with
    | nil => exact .nil
    | cons x r ih => exact .cons (strKind_self _ _ _ _) rfl ih
  · clear hg hn
    induction l with
    | nil => exact .nil
    | cons x r ih => exact .cons (.int _ _) ih
noncomputable def levL : List (Str × Tok × Int × Tok) := [(Str.ofString "||", 200, 1, 201), (Str.ofString "&&", 202, 2, 203), (Str.ofString "==", 204, 3, 205), (Str.ofString "!=", 206, 3, 207), (Str.ofString "<", 208, 3, 209), (Str.ofString "<=", 210, 3, 211), (Str.ofString ">", 212, 3, 213), (Str.ofString ">=", 214, 3, 215), (Str.ofString "+", 216, 4, 217), (Str.ofString "-", 218, 4, 219), (Str.ofString "*", 220, 5, 221), (Str.ofString "/", 222, 5, 223), (Str.ofString "%", 224, 5, 225)]
noncomputable def funL : List (Str × Tok × Int × Tok) := [(Str.ofString "len", 240, 1, 241), (Str.ofString "item", 242, 2, 243), (Str.ofString "push", 244, 2, 245), (Str.ofString "head", 246, 1, 247), (Str.ofString "rest", 248, 1, 249), (Str.ofString "last", 250, 1, 251), (Str.ofString "back", 252, 1, 253), (Str.ofString "text", 254, 1, 255), (Str.ofString "number", 256, 1, 257), (Str.ofString "cut", 258, 3, 259), (Str.ofString "glue", 260, 2, 261)]
theorem KYP.lev (y : KYP w hB) : OM pw w hB 23 (.ds levels) := ro_dict (l := levL) (ep := 13) (y.In 23 _ (by kernel_rfl)) (by decide +kernel)
theorem KYP.fun (y : KYP w hB) : OM pw w hB 24 (.ds functions) := ro_dict (l := funL) (ep := 11) (y.In 24 _ (by kernel_rfl)) (by decide +kernel)
theorem Bed.cxB (bd : Bed w hB la ns) {fns : List (Str × Spec)} {mes : List ((Addr × Str) × Spec)} {xs : List (Str × Addr)} : CxB (kC w la ns fns mes xs) pw w hB where
  G x v h := by
    obtain ⟨cv, h1, h2⟩ := bd.y.con _ (mem_of_lookup h)
    obtain ⟨mg, a, b⟩ := bd.y.glob h1
    exact ⟨cv, mg, a, b, h2⟩
  ro a o h := by
    have h : (if a = 23 then some (.ds levels) else if a = 24 then some (.ds functions) else if a = la then some (.list (ns.map .int)) else none) = some o := h
    by_cases h1 : a = 23
    · obtain rfl := inj2 (if_pos h1) h; subst h1; exact ⟨bd.y.lev, by kernel_rfl⟩
    rw [if_neg h1] at h
    by_cases h2 : a = 24
    · obtain rfl := inj2 (if_pos h2) h; subst h2; exact ⟨bd.y.fun, by kernel_rfl⟩
    rw [if_neg h2] at h
    by_cases h3 : a = la
    · obtain rfl := inj2 (if_pos h3) h; subst h3; exact ⟨bd.scr, bd.nm⟩
    exact no2 (if_neg h3) h
theorem frame_cls : ClsIn (KF w.params) 337 := ⟨by kernel_rfl, by kernel_rfl, by kernel_rfl, by kernel_rfl, by kernel_rfl⟩
theorem machine_cls : ClsIn (KF w.params) 413 := ⟨by kernel_rfl, by kernel_rfl, by kernel_rfl, by kernel_rfl, by kernel_rfl⟩
theorem Bed.cxK (bd : Bed w hB la ns) {fns : List (Str × Spec)} {mes : List ((Addr × Str) × Spec)} {xs : List (Str × Addr)} : CxK (kC w la ns fns mes xs) hB where
  In := bd.y.In
  F c x h := by
    have h : (c == 337 && frameFields.contains x || c == 413 && x == Str.ofString "most") = true := h
    rcases Bool.or_eq_true_iff.mp h with h | h
    · obtain ⟨h1, h2⟩ := and2 h
      obtain rfl := eq_of_beq h1
      refine ⟨frame_cls, ?_⟩
      have all : (frameFields.all fun x => findIn (KF w.params) (.ref 337) x == some none) = true := by kernel_rfl
      exact eq_of_beq (List.all_eq_true.mp all x (List.contains_iff_mem.mp h2))
    · obtain ⟨h1, h2⟩ := and2 h
      obtain rfl := eq_of_beq h1
      obtain rfl := eq_of_beq h2
      exact ⟨machine_cls, by kernel_rfl⟩
theorem cx_of {os0 : OsState} {n : Nat} (bd : Bed w hB la ns) {fns : List (Str × Spec)} {mes : List ((Addr × Str) × Spec)} {xs : List (Str × Addr)}
    (hs : ∀ x ∈ fns, ∃ a, kGs.contains (x.1, .ref a) = true ∧ keepIn (KF w.params) (.ref a) = true ∧ Does pw w hB os0 n (.ref a) x.2)
    (hm : ∀ x ∈ mes, ClsIn (KF w.params) x.1.1 ∧ ∃ g, findIn (KF w.params) (.ref x.1.1) x.1.2 = some (some (.ref g)) ∧ isFn (KF w.params) (.ref g) = true ∧ keepIn (KF w.params) (.ref g) = true ∧ Does pw w hB os0 n (.ref g) x.2)
    (hx : ∀ x ∈ xs, kGs.contains (x.1, .ref x.2) = true ∧ ExcOk pw w hB os0 n x.2) : CxO (kC w la ns fns mes xs) pw w hB os0 n where
  b := bd.cxB
  k := bd.cxK
  base := bd.base
  bi x k h := bd.y.bk h
  isi := bd.y.blt (by kernel_rfl)
  tint := bd.y.blt (by kernel_rfl)
  tstr := bd.y.blt (by kernel_rfl)
  ttup := bd.y.blt (by kernel_rfl)
  rng := bd.y.blt (by kernel_rfl)
  enm := bd.y.blt (by kernel_rfl)
  s x sp h := by
    obtain ⟨a, h1, h2, h3⟩ := hs _ (mem_lk (l := fns) h)
    exact ⟨_, bd.y.glob h1, kept_of bd.cxK (C := kC w la ns fns mes xs) h2, h3⟩
  me c y sp h := by
    obtain ⟨h0, g, h1, h2, h3, h4⟩ := hm _ (mem_lk (x := (c, y)) (l := mes) h)
    exact ⟨h0, g, h1, h2, kept_of bd.cxK (C := kC w la ns fns mes xs) h3, h4⟩
  x c K h := by
    obtain ⟨h1, h2⟩ := hx _ (mem_lk (l := xs) h)
    exact ⟨bd.y.glob h1, h2⟩
end
theorem len1 {α : Type} {l : List α} (h : l.length = 1) : ∃ a, l = [a] := List.length_eq_one_iff.mp h
theorem len2 {α : Type} {l : List α} (h : l.length = 2) : ∃ a b, l = [a, b] := by
  cases l with
  | nil => cases h
  | cons a r => obtain ⟨b, rfl⟩ := len1 (Nat.succ.inj h); exact ⟨a, b, rfl⟩
theorem len3 {α : Type} {l : List α} (h : l.length = 3) : ∃ a b c, l = [a, b, c] := by
  cases l with
  | nil => cases h
  | cons a r => obtain ⟨b, c, rfl⟩ := len2 (Nat.succ.inj h); exact ⟨a, b, c, rfl⟩
theorem len4 {α : Type} {l : List α} (h : l.length = 4) : ∃ a b c d, l = [a, b, c, d] := by
  cases l with
  | nil => cases h
  | cons a r => obtain ⟨b, c, d, rfl⟩ := len3 (Nat.succ.inj h); exact ⟨a, b, c, d, rfl⟩
theorem len5 {α : Type} {l : List α} (h : l.length = 5) : ∃ a b c d e, l = [a, b, c, d, e] := by
  cases l with
  | nil => cases h
  | cons a r => obtain ⟨b, c, d, e, rfl⟩ := len4 (Nat.succ.inj h); exact ⟨a, b, c, d, e, rfl⟩
theorem len6 {α : Type} {l : List α} (h : l.length = 6) : ∃ a b c d e f, l = [a, b, c, d, e, f] := by
  cases l with
  | nil => cases h
  | cons a r => obtain ⟨b, c, d, e, f, rfl⟩ := len5 (Nat.succ.inj h); exact ⟨a, b, c, d, e, f, rfl⟩
section
variable {w : World} {hB : Heap} {os0 : OsState} {n : Nat} {la : Addr} {ns : List Int}
noncomputable abbrev initD : FuncData := fnD (mAt 6 0) "ToolError.__init__" "grammarmill.source" 276 38 (.ref 32)
theorem init_text (bd : Bed w hB la ns) {C : Cx} : InitText C hB initD where
  sc := funSc_of (by kernel_rfl)
  self := by kernel_rfl
  what := by kernel_rfl
  at_ := by kernel_rfl
  len := by kernel_rfl
  g := by kernel_rfl
  blt := bd.y.blt (by kernel_rfl)
  body := ⟨_, _, _, _, _, _, _, _, _, _, _, _, _, _, rfl, rfl⟩
theorem init_binds (bd : Bed w hB la ns) (s : Shared) (a b : Value) (hs : hB.StaysIn s.heap) : BindsTo s initD ⟨[a, b], []⟩ ([Str.ofString "self", Str.ofString "what", Str.ofString "at"].zip [a, b, .none]) :=
  .of_defaults (T := 32) (o := ⟨.type "tuple", none, .seq #[.none] 0, #[]⟩) (items := #[.none]) (n := 0) (by kernel_rfl) (hs _ _ (bd.y.In _ _ (by kernel_rfl))) rfl rfl rfl
theorem exc_ActionError (bd : Bed w hB la ns) {C : Cx} (hK : C.K = KF w.params) (cx : CxO C pw w hB os0 n) : ExcOk pw w hB os0 (n + 2) 62 := by
  refine exc_ok (nm := Str.ofString "ActionError") (q := Str.ofString "ActionError") (T := 49) (gI := 39) (fd := initD) (cd := (clsIn (KF w.params) 62).get (by kernel_rfl)) (o := fnO (mAt 6 0) "ToolError.__init__" "grammarmill.source" 276 38 (.ref 32))
    (N := 61) (bs := [.ref 49]) (sn := []) (sub := []) (col := none) (k0 := some (.ref 53)) (k1 := none) (k2 := some (.str (Str.ofString "ActionError") 316)) (k3 := some (.str (Str.ofString "ActionError") 324)) (k5 := some (.bool true)) cx ?_ ?_ (init_text bd)
    (fun a b c => by kernel_rfl) (bd.y.In _ _ (by kernel_rfl)) rfl (bd.y.c (38, Str.ofString "ToolError.__init__") (List.contains_iff_mem.mp (by kernel_rfl))) rfl rfl rfl (init_binds bd)
  · rw [hK]; kernel_rfl
  · rw [hK]; exact ⟨by kernel_rfl, by kernel_rfl, by kernel_rfl, by kernel_rfl, by kernel_rfl, by kernel_rfl, by kernel_rfl, by kernel_rfl, by kernel_rfl, by kernel_rfl, by kernel_rfl⟩
theorem exc_MachineError (bd : Bed w hB la ns) {C : Cx} (hK : C.K = KF w.params) (cx : CxO C pw w hB os0 n) : ExcOk pw w hB os0 (n + 2) 74 := by
  refine exc_ok (nm := Str.ofString "MachineError") (q := Str.ofString "MachineError") (T := 49) (gI := 39) (fd := initD) (cd := (clsIn (KF w.params) 74).get (by kernel_rfl)) (o := fnO (mAt 6 0) "ToolError.__init__" "grammarmill.source" 276 38 (.ref 32))
    (N := 73) (bs := [.ref 49]) (sn := []) (sub := []) (col := none) (k0 := some (.ref 65)) (k1 := none) (k2 := some (.str (Str.ofString "MachineError") 332)) (k3 := some (.str (Str.ofString "MachineError") 340)) (k5 := some (.bool true)) cx ?_ ?_ (init_text bd)
    (fun a b c => by kernel_rfl) (bd.y.In _ _ (by kernel_rfl)) rfl (bd.y.c (38, Str.ofString "ToolError.__init__") (List.contains_iff_mem.mp (by kernel_rfl))) rfl rfl rfl (init_binds bd)
  · rw [hK]; kernel_rfl
  · rw [hK]; exact ⟨by kernel_rfl, by kernel_rfl, by kernel_rfl, by kernel_rfl, by kernel_rfl, by kernel_rfl, by kernel_rfl, by kernel_rfl, by kernel_rfl, by kernel_rfl, by kernel_rfl⟩
end
section
variable {w : World} {hB : Heap} {os0 : OsState} {n : Nat} {C : Cx} {la : Addr} {ns : List Int}
noncomputable def rp_is_number : RP := (.cons (.ret (.isi (.loc 0) ["int"])) .nil)
theorem cp_is_number : cP 100 (NE.of (stScope (stAt 15))) (stScope (stAt 15)) (stBody (stAt 15)) = some rp_is_number := by kernel_rfl
theorem in_is_number (cx : CxO C pw w hB os0 n) (y : KYP w hB) {sp : Spec} (h : ∀ vs σ Q X, (∀ b o, C.ro b = some o → σ b = none) → sp vs σ Q X → ∃ v0, vs = [v0] ∧ rsts C rp_is_number [some v0] σ ⟨fun _ σ' => Q .none σ', Q, fun _ _ => False, fun x _ σ' => X x σ'⟩) : Does pw w hB os0 (n + 1) (.ref 86) sp :=
  does_of cx y (c := 85) (st := stAt 15) (qual := "is_number") (pm := "grammarmill.codes") (tk := 348) (d := .none) (ps := [Str.ofString "value"]) (by kernel_rfl) (List.contains_iff_mem.mp (by kernel_rfl)) (by kernel_rfl) (by kernel_rfl)
    (fun cvs h => by obtain ⟨c0, rfl⟩ := len1 h; kernel_rfl) cp_is_number fun vs σ Q X ro hs => by
      obtain ⟨v0, rfl, h⟩ := h vs σ Q X ro hs
      exact ⟨rfl, h⟩
noncomputable def rp_is_true : RP := (.cons (.ret (.and (.cons (.cmp .IsNot (.loc 0) (.cst .none)) (.cons (.cmp .NotEq (.loc 0) (.cst (.int 0))) (.cons (.cmp .NotEq (.loc 0) (.cst (.str ""))) (.cons (.cmp .NotEq (.loc 0) (.tup .nil)) .nil)))))) .nil)
theorem cp_is_true : cP 100 (NE.of (stScope (stAt 16))) (stScope (stAt 16)) (stBody (stAt 16)) = some rp_is_true := by kernel_rfl
theorem in_is_true (cx : CxO C pw w hB os0 n) (y : KYP w hB) {sp : Spec} (h : ∀ vs σ Q X, (∀ b o, C.ro b = some o → σ b = none) → sp vs σ Q X → ∃ v0, vs = [v0] ∧ rsts C rp_is_true [some v0] σ ⟨fun _ σ' => Q .none σ', Q, fun _ _ => False, fun x _ σ' => X x σ'⟩) : Does pw w hB os0 (n + 1) (.ref 93) sp :=
  does_of cx y (c := 92) (st := stAt 16) (qual := "is_true") (pm := "grammarmill.codes") (tk := 348) (d := .none) (ps := [Str.ofString "value"]) (by kernel_rfl) (List.contains_iff_mem.mp (by kernel_rfl)) (by kernel_rfl) (by kernel_rfl)
    (fun cvs h => by obtain ⟨c0, rfl⟩ := len1 h; kernel_rfl) cp_is_true fun vs σ Q X ro hs => by
      obtain ⟨v0, rfl, h⟩ := h vs σ Q X ro hs
      exact ⟨rfl, h⟩
noncomputable def rp_bounded : RP := (.cons (.ife (.call "is_number" (.cons (.loc 0) .nil)) (.cons (.ife (.cmp .Gt (.met (.loc 0) "bit_length" .nil) (.glb "MOST_BITS")) (.cons (.rai "MachineError" (.cst (.str "a number that is too great"))) .nil) .nil) .nil) (.cons (.ife (.and (.cons (.cmp .IsNot (.loc 0) (.cst .none)) (.cons (.cmp .Gt (.bi .len (.cons (.loc 0) .nil)) (.glb "MOST_SIZE")) .nil))) (.cons (.rai "MachineError" (.cst (.str "a text or a list that is too long"))) .nil) .nil) .nil)) (.cons (.ret (.loc 0)) .nil))
theorem cp_bounded : cP 100 (NE.of (stScope (stAt 17))) (stScope (stAt 17)) (stBody (stAt 17)) = some rp_bounded := by kernel_rfl
theorem in_bounded (cx : CxO C pw w hB os0 n) (y : KYP w hB) {sp : Spec} (h : ∀ vs σ Q X, (∀ b o, C.ro b = some o → σ b = none) → sp vs σ Q X → ∃ v0, vs = [v0] ∧ rsts C rp_bounded [some v0] σ ⟨fun _ σ' => Q .none σ', Q, fun _ _ => False, fun x _ σ' => X x σ'⟩) : Does pw w hB os0 (n + 1) (.ref 100) sp :=
  does_of cx y (c := 99) (st := stAt 17) (qual := "bounded") (pm := "grammarmill.codes") (tk := 348) (d := .none) (ps := [Str.ofString "value"]) (by kernel_rfl) (List.contains_iff_mem.mp (by kernel_rfl)) (by kernel_rfl) (by kernel_rfl)
    (fun cvs h => by obtain ⟨c0, rfl⟩ := len1 h; kernel_rfl) cp_bounded fun vs σ Q X ro hs => by
      obtain ⟨v0, rfl, h⟩ := h vs σ Q X ro hs
      exact ⟨rfl, h⟩
noncomputable def rp_added : RP := (.cons (.setl 2 (.or (.cons (.and (.cons (.call "is_number" (.cons (.loc 0) .nil)) (.cons (.call "is_number" (.cons (.loc 1) .nil)) .nil))) (.cons (.and (.cons (.isi (.loc 0) ["str"]) (.cons (.isi (.loc 1) ["str"]) .nil))) .nil)))) (.cons (.ife (.or (.cons (.loc 2) (.cons (.and (.cons (.isi (.loc 0) ["tuple"]) (.cons (.isi (.loc 1) ["tuple"]) .nil))) .nil))) (.cons (.ret (.bin .Add (.loc 0) (.loc 1))) .nil) .nil) (.cons (.rai "MachineError" (.cst (.str "these cannot be added"))) .nil)))
theorem cp_added : cP 100 (NE.of (stScope (stAt 18))) (stScope (stAt 18)) (stBody (stAt 18)) = some rp_added := by kernel_rfl
theorem in_added (cx : CxO C pw w hB os0 n) (y : KYP w hB) {sp : Spec} (h : ∀ vs σ Q X, (∀ b o, C.ro b = some o → σ b = none) → sp vs σ Q X → ∃ v0 v1, vs = [v0, v1] ∧ rsts C rp_added [some v0, some v1, none] σ ⟨fun _ σ' => Q .none σ', Q, fun _ _ => False, fun x _ σ' => X x σ'⟩) : Does pw w hB os0 (n + 1) (.ref 107) sp :=
  does_of cx y (c := 106) (st := stAt 18) (qual := "added") (pm := "grammarmill.codes") (tk := 348) (d := .none) (ps := [Str.ofString "left", Str.ofString "right"]) (by kernel_rfl) (List.contains_iff_mem.mp (by kernel_rfl)) (by kernel_rfl) (by kernel_rfl)
    (fun cvs h => by obtain ⟨c0, c1, rfl⟩ := len2 h; kernel_rfl) cp_added fun vs σ Q X ro hs => by
      obtain ⟨v0, v1, rfl, h⟩ := h vs σ Q X ro hs
      exact ⟨rfl, h⟩
noncomputable def rp_compared : RP := (.cons (.setl 3 (.or (.cons (.and (.cons (.call "is_number" (.cons (.loc 1) .nil)) (.cons (.call "is_number" (.cons (.loc 2) .nil)) .nil))) (.cons (.and (.cons (.isi (.loc 1) ["str"]) (.cons (.isi (.loc 2) ["str"]) .nil))) .nil)))) (.cons (.ife (.not (.loc 3)) (.cons (.rai "MachineError" (.cst (.str "these cannot be compared"))) .nil) .nil) (.cons (.ife (.cmp .Eq (.loc 0) (.cst (.str "<"))) (.cons (.ret (.bi .int (.cons (.cmp .Lt (.loc 1) (.loc 2)) .nil))) .nil) .nil) (.cons (.ife (.cmp .Eq (.loc 0) (.cst (.str "<="))) (.cons (.ret (.bi .int (.cons (.cmp .LtE (.loc 1) (.loc 2)) .nil))) .nil) .nil) (.cons (.ife (.cmp .Eq (.loc 0) (.cst (.str ">"))) (.cons (.ret (.bi .int (.cons (.cmp .Gt (.loc 1) (.loc 2)) .nil))) .nil) .nil) (.cons (.ret (.bi .int (.cons (.cmp .GtE (.loc 1) (.loc 2)) .nil))) .nil))))))
theorem cp_compared : cP 100 (NE.of (stScope (stAt 19))) (stScope (stAt 19)) (stBody (stAt 19)) = some rp_compared := by kernel_rfl
theorem in_compared (cx : CxO C pw w hB os0 n) (y : KYP w hB) {sp : Spec} (h : ∀ vs σ Q X, (∀ b o, C.ro b = some o → σ b = none) → sp vs σ Q X → ∃ v0 v1 v2, vs = [v0, v1, v2] ∧ rsts C rp_compared [some v0, some v1, some v2, none] σ ⟨fun _ σ' => Q .none σ', Q, fun _ _ => False, fun x _ σ' => X x σ'⟩) : Does pw w hB os0 (n + 1) (.ref 114) sp :=
  does_of cx y (c := 113) (st := stAt 19) (qual := "compared") (pm := "grammarmill.codes") (tk := 348) (d := .none) (ps := [Str.ofString "sign", Str.ofString "left", Str.ofString "right"]) (by kernel_rfl) (List.contains_iff_mem.mp (by kernel_rfl)) (by kernel_rfl) (by kernel_rfl)
    (fun cvs h => by obtain ⟨c0, c1, c2, rfl⟩ := len3 h; kernel_rfl) cp_compared fun vs σ Q X ro hs => by
      obtain ⟨v0, v1, v2, rfl, h⟩ := h vs σ Q X ro hs
      exact ⟨rfl, h⟩
noncomputable def rp_part_count : RP := (.cons (.sets [1, 2] (.cons (.lst (.cons (.loc 0) .nil)) (.cons (.cst (.int 0)) .nil))) (.cons (.whl (.and (.cons (.cmp .NotEq (.loc 1) (.lst .nil)) (.cons (.cmp .LtE (.loc 2) (.glb "MOST_PARTS")) .nil))) (.cons (.setl 3 (.met (.loc 1) "pop" .nil)) (.cons (.setl 2 (.bin .Add (.loc 2) (.cst (.int 1)))) (.cons (.ife (.isi (.loc 3) ["tuple"]) (.cons (.exp (.met (.loc 1) "extend" (.cons (.bi .list (.cons (.loc 3) .nil)) .nil))) .nil) .nil) .nil)))) (.cons (.ret (.loc 2)) .nil)))
theorem cp_part_count : cP 100 (NE.of (stScope (stAt 20))) (stScope (stAt 20)) (stBody (stAt 20)) = some rp_part_count := by kernel_rfl
theorem in_part_count (cx : CxO C pw w hB os0 n) (y : KYP w hB) {sp : Spec} (h : ∀ vs σ Q X, (∀ b o, C.ro b = some o → σ b = none) → sp vs σ Q X → ∃ v0, vs = [v0] ∧ rsts C rp_part_count [some v0, none, none, none] σ ⟨fun _ σ' => Q .none σ', Q, fun _ _ => False, fun x _ σ' => X x σ'⟩) : Does pw w hB os0 (n + 1) (.ref 121) sp :=
  does_of cx y (c := 120) (st := stAt 20) (qual := "part_count") (pm := "grammarmill.codes") (tk := 348) (d := .none) (ps := [Str.ofString "value"]) (by kernel_rfl) (List.contains_iff_mem.mp (by kernel_rfl)) (by kernel_rfl) (by kernel_rfl)
    (fun cvs h => by obtain ⟨c0, rfl⟩ := len1 h; kernel_rfl) cp_part_count fun vs σ Q X ro hs => by
      obtain ⟨v0, rfl, h⟩ := h vs σ Q X ro hs
      exact ⟨rfl, h⟩
noncomputable def rp_are_equal : RP := (.cons (.ife (.or (.cons (.cmp .Gt (.call "part_count" (.cons (.loc 0) .nil)) (.glb "MOST_PARTS")) (.cons (.cmp .Gt (.call "part_count" (.cons (.loc 1) .nil)) (.glb "MOST_PARTS")) .nil))) (.cons (.rai "MachineError" (.cst (.str "lists that are too great to be compared"))) .nil) .nil) (.cons (.ret (.cmp .Eq (.loc 0) (.loc 1))) .nil))
theorem cp_are_equal : cP 100 (NE.of (stScope (stAt 21))) (stScope (stAt 21)) (stBody (stAt 21)) = some rp_are_equal := by kernel_rfl
theorem in_are_equal (cx : CxO C pw w hB os0 n) (y : KYP w hB) {sp : Spec} (h : ∀ vs σ Q X, (∀ b o, C.ro b = some o → σ b = none) → sp vs σ Q X → ∃ v0 v1, vs = [v0, v1] ∧ rsts C rp_are_equal [some v0, some v1] σ ⟨fun _ σ' => Q .none σ', Q, fun _ _ => False, fun x _ σ' => X x σ'⟩) : Does pw w hB os0 (n + 1) (.ref 128) sp :=
  does_of cx y (c := 127) (st := stAt 21) (qual := "are_equal") (pm := "grammarmill.codes") (tk := 348) (d := .none) (ps := [Str.ofString "left", Str.ofString "right"]) (by kernel_rfl) (List.contains_iff_mem.mp (by kernel_rfl)) (by kernel_rfl) (by kernel_rfl)
    (fun cvs h => by obtain ⟨c0, c1, rfl⟩ := len2 h; kernel_rfl) cp_are_equal fun vs σ Q X ro hs => by
      obtain ⟨v0, v1, rfl, h⟩ := h vs σ Q X ro hs
      exact ⟨rfl, h⟩
noncomputable def rp_two_worth : RP := (.cons (.ife (.cmp .Eq (.loc 0) (.cst (.str "=="))) (.cons (.ret (.bi .int (.cons (.call "are_equal" (.cons (.loc 1) (.cons (.loc 2) .nil))) .nil))) .nil) .nil) (.cons (.ife (.cmp .Eq (.loc 0) (.cst (.str "!="))) (.cons (.ret (.bi .int (.cons (.not (.call "are_equal" (.cons (.loc 1) (.cons (.loc 2) .nil)))) .nil))) .nil) .nil) (.cons (.ife (.cmp .In (.loc 0) (.glb "COMPARISONS")) (.cons (.ret (.call "compared" (.cons (.loc 0) (.cons (.loc 1) (.cons (.loc 2) .nil))))) .nil) .nil) (.cons (.ife (.cmp .Eq (.loc 0) (.cst (.str "+"))) (.cons (.ret (.call "bounded" (.cons (.call "added" (.cons (.loc 1) (.cons (.loc 2) .nil))) .nil))) .nil) .nil) (.cons (.ife (.or (.cons (.not (.call "is_number" (.cons (.loc 1) .nil))) (.cons (.not (.call "is_number" (.cons (.loc 2) .nil))) .nil))) (.cons (.rai "MachineError" (.bin .Add (.cst (.str "only numbers can be reckoned with ")) (.loc 0))) .nil) .nil) (.cons (.ife (.cmp .Eq (.loc 0) (.cst (.str "-"))) (.cons (.ret (.call "bounded" (.cons (.bin .Sub (.loc 1) (.loc 2)) .nil))) .nil) .nil) (.cons (.ife (.cmp .Eq (.loc 0) (.cst (.str "*"))) (.cons (.ret (.call "bounded" (.cons (.bin .Mult (.loc 1) (.loc 2)) .nil))) .nil) .nil) (.cons (.ife (.cmp .Eq (.loc 2) (.cst (.int 0))) (.cons (.rai "MachineError" (.cst (.str "divided by 0"))) .nil) .nil) (.cons (.ret (.ife (.cmp .Eq (.loc 0) (.cst (.str "/"))) (.bin .FloorDiv (.loc 1) (.loc 2)) (.bin .Mod (.loc 1) (.loc 2)))) .nil)))))))))
theorem cp_two_worth : cP 100 (NE.of (stScope (stAt 22))) (stScope (stAt 22)) (stBody (stAt 22)) = some rp_two_worth := by kernel_rfl
theorem in_two_worth (cx : CxO C pw w hB os0 n) (y : KYP w hB) {sp : Spec} (h : ∀ vs σ Q X, (∀ b o, C.ro b = some o → σ b = none) → sp vs σ Q X → ∃ v0 v1 v2, vs = [v0, v1, v2] ∧ rsts C rp_two_worth [some v0, some v1, some v2] σ ⟨fun _ σ' => Q .none σ', Q, fun _ _ => False, fun x _ σ' => X x σ'⟩) : Does pw w hB os0 (n + 1) (.ref 135) sp :=
  does_of cx y (c := 134) (st := stAt 22) (qual := "two_worth") (pm := "grammarmill.codes") (tk := 348) (d := .none) (ps := [Str.ofString "sign", Str.ofString "left", Str.ofString "right"]) (by kernel_rfl) (List.contains_iff_mem.mp (by kernel_rfl)) (by kernel_rfl) (by kernel_rfl)
    (fun cvs h => by obtain ⟨c0, c1, c2, rfl⟩ := len3 h; kernel_rfl) cp_two_worth fun vs σ Q X ro hs => by
      obtain ⟨v0, v1, v2, rfl, h⟩ := h vs σ Q X ro hs
      exact ⟨rfl, h⟩
noncomputable def rp_one_worth : RP := (.cons (.ife (.cmp .Eq (.loc 0) (.cst (.str "!"))) (.cons (.ret (.bi .int (.cons (.not (.call "is_true" (.cons (.loc 1) .nil))) .nil))) .nil) .nil) (.cons (.ife (.not (.call "is_number" (.cons (.loc 1) .nil))) (.cons (.rai "MachineError" (.cst (.str "only numbers can be turned about"))) .nil) .nil) (.cons (.ret (.neg (.loc 1))) .nil)))
theorem cp_one_worth : cP 100 (NE.of (stScope (stAt 23))) (stScope (stAt 23)) (stBody (stAt 23)) = some rp_one_worth := by kernel_rfl
theorem in_one_worth (cx : CxO C pw w hB os0 n) (y : KYP w hB) {sp : Spec} (h : ∀ vs σ Q X, (∀ b o, C.ro b = some o → σ b = none) → sp vs σ Q X → ∃ v0 v1, vs = [v0, v1] ∧ rsts C rp_one_worth [some v0, some v1] σ ⟨fun _ σ' => Q .none σ', Q, fun _ _ => False, fun x _ σ' => X x σ'⟩) : Does pw w hB os0 (n + 1) (.ref 142) sp :=
  does_of cx y (c := 141) (st := stAt 23) (qual := "one_worth") (pm := "grammarmill.codes") (tk := 348) (d := .none) (ps := [Str.ofString "sign", Str.ofString "value"]) (by kernel_rfl) (List.contains_iff_mem.mp (by kernel_rfl)) (by kernel_rfl) (by kernel_rfl)
    (fun cvs h => by obtain ⟨c0, c1, rfl⟩ := len2 h; kernel_rfl) cp_one_worth fun vs σ Q X ro hs => by
      obtain ⟨v0, v1, rfl, h⟩ := h vs σ Q X ro hs
      exact ⟨rfl, h⟩
noncomputable def rp_goals_behind : RP := (.cons (.set2 2 3 (.sub (.loc 0) (.loc 1))) (.cons (.ife (.cmp .Eq (.loc 2) (.cst (.str "jump"))) (.cons (.ret (.lst (.cons (.loc 3) .nil))) .nil) .nil) (.cons (.ife (.and (.cons (.cmp .Eq (.loc 2) (.cst (.str "word"))) (.cons (.cmp .In (.loc 3) (.glb "LEAVING")) .nil))) (.cons (.ret (.lst .nil)) .nil) .nil) (.cons (.ife (.cmp .In (.loc 2) (.glb "JUMPS")) (.cons (.ret (.lst (.cons (.bin .Add (.loc 1) (.cst (.int 1))) (.cons (.loc 3) .nil)))) .nil) .nil) (.cons (.ret (.lst (.cons (.bin .Add (.loc 1) (.cst (.int 1))) .nil))) .nil)))))
theorem cp_goals_behind : cP 100 (NE.of (stScope (stAt 24))) (stScope (stAt 24)) (stBody (stAt 24)) = some rp_goals_behind := by kernel_rfl
theorem in_goals_behind (cx : CxO C pw w hB os0 n) (y : KYP w hB) {sp : Spec} (h : ∀ vs σ Q X, (∀ b o, C.ro b = some o → σ b = none) → sp vs σ Q X → ∃ v0 v1, vs = [v0, v1] ∧ rsts C rp_goals_behind [some v0, some v1, none, none] σ ⟨fun _ σ' => Q .none σ', Q, fun _ _ => False, fun x _ σ' => X x σ'⟩) : Does pw w hB os0 (n + 1) (.ref 149) sp :=
  does_of cx y (c := 148) (st := stAt 24) (qual := "goals_behind") (pm := "grammarmill.codes") (tk := 348) (d := .none) (ps := [Str.ofString "code", Str.ofString "at"]) (by kernel_rfl) (List.contains_iff_mem.mp (by kernel_rfl)) (by kernel_rfl) (by kernel_rfl)
    (fun cvs h => by obtain ⟨c0, c1, rfl⟩ := len2 h; kernel_rfl) cp_goals_behind fun vs σ Q X ro hs => by
      obtain ⟨v0, v1, rfl, h⟩ := h vs σ Q X ro hs
      exact ⟨rfl, h⟩
noncomputable def rp_taken_and_put : RP := (.cons (.ife (.cmp .In (.loc 0) (.tup (.cons (.cst (.str "push")) (.cons (.cst (.str "arg")) (.cons (.cst (.str "own")) (.cons (.cst (.str "get")) .nil)))))) (.cons (.ret (.tup (.cons (.cst (.int 0)) (.cons (.cst (.int 1)) .nil)))) .nil) .nil) (.cons (.ife (.cmp .In (.loc 0) (.tup (.cons (.cst (.str "set")) (.cons (.cst (.str "put")) (.cons (.cst (.str "drop")) (.cons (.cst (.str "unless")) (.cons (.cst (.str "when")) .nil))))))) (.cons (.ret (.tup (.cons (.cst (.int 1)) (.cons (.cst (.int 0)) .nil)))) .nil) .nil) (.cons (.ife (.cmp .Eq (.loc 0) (.cst (.str "two"))) (.cons (.ret (.tup (.cons (.cst (.int 2)) (.cons (.cst (.int 1)) .nil)))) .nil) .nil) (.cons (.ife (.cmp .In (.loc 0) (.tup (.cons (.cst (.str "one")) (.cons (.cst (.str "truth")) .nil)))) (.cons (.ret (.tup (.cons (.cst (.int 1)) (.cons (.cst (.int 1)) .nil)))) .nil) .nil) (.cons (.ife (.cmp .Eq (.loc 0) (.cst (.str "list"))) (.cons (.ret (.tup (.cons (.loc 1) (.cons (.cst (.int 1)) .nil)))) .nil) .nil) (.cons (.ife (.cmp .Eq (.loc 0) (.cst (.str "apply"))) (.cons (.ret (.tup (.cons (.sub (.glb "FUNCTIONS") (.loc 1)) (.cons (.cst (.int 1)) .nil)))) .nil) .nil) (.cons (.ret (.tup (.cons (.cst (.int 0)) (.cons (.cst (.int 0)) .nil)))) .nil)))))))
theorem cp_taken_and_put : cP 100 (NE.of (stScope (stAt 25))) (stScope (stAt 25)) (stBody (stAt 25)) = some rp_taken_and_put := by kernel_rfl
theorem in_taken_and_put (cx : CxO C pw w hB os0 n) (y : KYP w hB) {sp : Spec} (h : ∀ vs σ Q X, (∀ b o, C.ro b = some o → σ b = none) → sp vs σ Q X → ∃ v0 v1, vs = [v0, v1] ∧ rsts C rp_taken_and_put [some v0, some v1] σ ⟨fun _ σ' => Q .none σ', Q, fun _ _ => False, fun x _ σ' => X x σ'⟩) : Does pw w hB os0 (n + 1) (.ref 156) sp :=
  does_of cx y (c := 155) (st := stAt 25) (qual := "taken_and_put") (pm := "grammarmill.codes") (tk := 348) (d := .none) (ps := [Str.ofString "op", Str.ofString "worth"]) (by kernel_rfl) (List.contains_iff_mem.mp (by kernel_rfl)) (by kernel_rfl) (by kernel_rfl)
    (fun cvs h => by obtain ⟨c0, c1, rfl⟩ := len2 h; kernel_rfl) cp_taken_and_put fun vs σ Q X ro hs => by
      obtain ⟨v0, v1, rfl, h⟩ := h vs σ Q X ro hs
      exact ⟨rfl, h⟩
noncomputable def rp_is_pair : RP := (.cons (.ife (.cmp .In (.loc 0) (.glb "JUMPS")) (.cons (.ret (.and (.cons (.isi (.loc 1) ["int"]) (.cons (.cmp2 .LtE .LtE (.cst (.int 0)) (.loc 1) (.loc 2)) .nil)))) .nil) .nil) (.cons (.ife (.cmp .In (.loc 0) (.tup (.cons (.cst (.str "arg")) (.cons (.cst (.str "list")) .nil)))) (.cons (.ret (.and (.cons (.isi (.loc 1) ["int"]) (.cons (.cmp .GtE (.loc 1) (.bi .int (.cons (.cmp .Eq (.loc 0) (.cst (.str "arg"))) .nil))) .nil)))) .nil) .nil) (.cons (.ife (.cmp .Eq (.loc 0) (.cst (.str "push"))) (.cons (.ret (.isi (.loc 1) ["int", "str"])) .nil) .nil) (.cons (.ife (.cmp .In (.loc 0) (.tup (.cons (.cst (.str "get")) (.cons (.cst (.str "put")) .nil)))) (.cons (.ret (.and (.cons (.isi (.loc 1) ["str"]) (.cons (.cmp .NotEq (.loc 1) (.cst (.str ""))) .nil)))) .nil) .nil) (.cons (.ife (.cmp .Eq (.loc 0) (.cst (.str "two"))) (.cons (.ret (.and (.cons (.cmp .In (.loc 1) (.glb "LEVELS")) (.cons (.cmp .Gt (.sub (.glb "LEVELS") (.loc 1)) (.cst (.int 2))) .nil)))) .nil) .nil) (.cons (.ife (.cmp .Eq (.loc 0) (.cst (.str "one"))) (.cons (.ret (.cmp .In (.loc 1) (.tup (.cons (.cst (.str "-")) (.cons (.cst (.str "!")) .nil))))) .nil) .nil) (.cons (.ife (.cmp .Eq (.loc 0) (.cst (.str "apply"))) (.cons (.ret (.cmp .In (.loc 1) (.glb "FUNCTIONS"))) .nil) .nil) (.cons (.ife (.cmp .Eq (.loc 0) (.cst (.str "word"))) (.cons (.ret (.cmp .In (.loc 1) (.glb "WORDS"))) .nil) .nil) (.cons (.ret (.and (.cons (.cmp .In (.loc 0) (.tup (.cons (.cst (.str "own")) (.cons (.cst (.str "set")) (.cons (.cst (.str "drop")) (.cons (.cst (.str "truth")) (.cons (.cst (.str "fresh")) .nil))))))) (.cons (.cmp .Is (.loc 1) (.cst .none)) .nil)))) .nil)))))))))
theorem cp_is_pair : cP 100 (NE.of (stScope (stAt 26))) (stScope (stAt 26)) (stBody (stAt 26)) = some rp_is_pair := by kernel_rfl
theorem in_is_pair (cx : CxO C pw w hB os0 n) (y : KYP w hB) {sp : Spec} (h : ∀ vs σ Q X, (∀ b o, C.ro b = some o → σ b = none) → sp vs σ Q X → ∃ v0 v1 v2, vs = [v0, v1, v2] ∧ rsts C rp_is_pair [some v0, some v1, some v2] σ ⟨fun _ σ' => Q .none σ', Q, fun _ _ => False, fun x _ σ' => X x σ'⟩) : Does pw w hB os0 (n + 1) (.ref 163) sp :=
  does_of cx y (c := 162) (st := stAt 26) (qual := "is_pair") (pm := "grammarmill.codes") (tk := 348) (d := .none) (ps := [Str.ofString "op", Str.ofString "worth", Str.ofString "length"]) (by kernel_rfl) (List.contains_iff_mem.mp (by kernel_rfl)) (by kernel_rfl) (by kernel_rfl)
    (fun cvs h => by obtain ⟨c0, c1, c2, rfl⟩ := len3 h; kernel_rfl) cp_is_pair fun vs σ Q X ro hs => by
      obtain ⟨v0, v1, v2, rfl, h⟩ := h vs σ Q X ro hs
      exact ⟨rfl, h⟩
noncomputable def rp_check_code : RP := (.cons (.for2 1 2 (.enm (.loc 0)) (.cons (.ife (.not (.call "is_pair" (.cons (.sub (.loc 2) (.cst (.int 0))) (.cons (.sub (.loc 2) (.cst (.int 1))) (.cons (.bi .len (.cons (.loc 0) .nil)) .nil))))) (.cons (.rai "ActionError" (.bin .Add (.cst (.str "no code at ")) (.bi .str (.cons (.loc 1) .nil)))) .nil) .nil) .nil)) (.cons (.setl 3 (.comp [none, none] (.rng (.bin .Add (.bi .len (.cons (.loc 0) .nil)) (.cst (.int 1)))) 1 .no (.neg (.cst (.int 1))))) (.cons (.setl 4 (.lst (.cons (.tup (.cons (.cst (.int 0)) (.cons (.cst (.int 0)) .nil))) .nil))) (.cons (.whl (.cmp .NotEq (.loc 4) (.lst .nil)) (.cons (.set2 1 5 (.met (.loc 4) "pop" .nil)) (.cons (.ife (.cmp .GtE (.sub (.loc 3) (.loc 1)) (.cst (.int 0))) (.cons (.ife (.cmp .NotEq (.sub (.loc 3) (.loc 1)) (.loc 5)) (.cons (.rai "ActionError" (.bin .Add (.cst (.str "two depths of the stack at ")) (.bi .str (.cons (.loc 1) .nil)))) .nil) .nil) (.cons .cont .nil)) .nil) (.cons (.seti (.loc 3) (.loc 1) (.loc 5)) (.cons (.ife (.cmp .Eq (.loc 1) (.bi .len (.cons (.loc 0) .nil))) (.cons .cont .nil) .nil) (.cons (.set2 6 7 (.call "taken_and_put" (.cons (.sub (.sub (.loc 0) (.loc 1)) (.cst (.int 0))) (.cons (.sub (.sub (.loc 0) (.loc 1)) (.cst (.int 1))) .nil)))) (.cons (.ife (.cmp .Gt (.loc 6) (.loc 5)) (.cons (.rai "ActionError" (.bin .Add (.cst (.str "a value is missing at ")) (.bi .str (.cons (.loc 1) .nil)))) .nil) .nil) (.cons (.exp (.met (.loc 4) "extend" (.cons (.comp [none, none, some 5, some 7, some 6] (.val (.call "goals_behind" (.cons (.loc 0) (.cons (.loc 1) .nil)))) 1 .no (.tup (.cons (.loc 1) (.cons (.bin .Add (.bin .Sub (.loc 2) (.loc 4)) (.loc 3)) .nil)))) .nil))) .nil)))))))) (.cons (.ife (.cmp .Gt (.sub (.loc 3) (.bi .len (.cons (.loc 0) .nil))) (.cst (.int 0))) (.cons (.rai "ActionError" (.cst (.str "values are left at the end"))) .nil) .nil) .nil)))))
theorem cp_check_code : cP 100 (NE.of (stScope (stAt 27))) (stScope (stAt 27)) (stBody (stAt 27)) = some rp_check_code := by kernel_rfl
theorem in_check_code (cx : CxO C pw w hB os0 n) (y : KYP w hB) {sp : Spec} (h : ∀ vs σ Q X, (∀ b o, C.ro b = some o → σ b = none) → sp vs σ Q X → ∃ v0, vs = [v0] ∧ rsts C rp_check_code [some v0, none, none, none, none, none, none, none] σ ⟨fun _ σ' => Q .none σ', Q, fun _ _ => False, fun x _ σ' => X x σ'⟩) : Does pw w hB os0 (n + 1) (.ref 168) sp :=
  does_of cx y (c := 167) (st := stAt 27) (qual := "check_code") (pm := "grammarmill.codes") (tk := 348) (d := .none) (ps := [Str.ofString "code"]) (by kernel_rfl) (List.contains_iff_mem.mp (by kernel_rfl)) (by kernel_rfl) (by kernel_rfl)
    (fun cvs h => by obtain ⟨c0, rfl⟩ := len1 h; kernel_rfl) cp_check_code fun vs σ Q X ro hs => by
      obtain ⟨v0, rfl, h⟩ := h vs σ Q X ro hs
      exact ⟨rfl, h⟩
noncomputable def rp_most_depth : RP := (.cons (.sets [2, 3, 4] (.cons (.cst (.int 0)) (.cons (.comp [none, none] (.rng (.bin .Add (.bi .len (.cons (.loc 0) .nil)) (.cst (.int 1)))) 1 .no (.cst (.bool false))) (.cons (.lst (.cons (.tup (.cons (.cst (.int 0)) (.cons (.cst (.int 0)) .nil))) .nil)) .nil)))) (.cons (.whl (.cmp .NotEq (.loc 4) (.lst .nil)) (.cons (.set2 1 5 (.met (.loc 4) "pop" .nil)) (.cons (.setl 2 (.bi .max (.cons (.loc 2) (.cons (.loc 5) .nil)))) (.cons (.ife (.or (.cons (.sub (.loc 3) (.loc 1)) (.cons (.cmp .Eq (.loc 1) (.bi .len (.cons (.loc 0) .nil))) .nil))) (.cons .cont .nil) .nil) (.cons (.seti (.loc 3) (.loc 1) (.cst (.bool true))) (.cons (.set2 6 7 (.call "taken_and_put" (.cons (.sub (.sub (.loc 0) (.loc 1)) (.cst (.int 0))) (.cons (.sub (.sub (.loc 0) (.loc 1)) (.cst (.int 1))) .nil)))) (.cons (.exp (.met (.loc 4) "extend" (.cons (.comp [none, none, some 5, some 7, some 6] (.val (.call "goals_behind" (.cons (.loc 0) (.cons (.loc 1) .nil)))) 1 .no (.tup (.cons (.loc 1) (.cons (.bin .Add (.bin .Sub (.loc 2) (.loc 4)) (.loc 3)) .nil)))) .nil))) .nil))))))) (.cons (.ret (.loc 2)) .nil)))
theorem cp_most_depth : cP 100 (NE.of (stScope (stAt 28))) (stScope (stAt 28)) (stBody (stAt 28)) = some rp_most_depth := by kernel_rfl
theorem in_most_depth (cx : CxO C pw w hB os0 n) (y : KYP w hB) {sp : Spec} (h : ∀ vs σ Q X, (∀ b o, C.ro b = some o → σ b = none) → sp vs σ Q X → ∃ v0, vs = [v0] ∧ rsts C rp_most_depth [some v0, none, none, none, none, none, none, none] σ ⟨fun _ σ' => Q .none σ', Q, fun _ _ => False, fun x _ σ' => X x σ'⟩) : Does pw w hB os0 (n + 1) (.ref 173) sp :=
  does_of cx y (c := 172) (st := stAt 28) (qual := "most_depth") (pm := "grammarmill.codes") (tk := 348) (d := .none) (ps := [Str.ofString "code"]) (by kernel_rfl) (List.contains_iff_mem.mp (by kernel_rfl)) (by kernel_rfl) (by kernel_rfl)
    (fun cvs h => by obtain ⟨c0, rfl⟩ := len1 h; kernel_rfl) cp_most_depth fun vs σ Q X ro hs => by
      obtain ⟨v0, rfl, h⟩ := h vs σ Q X ro hs
      exact ⟨rfl, h⟩
noncomputable def rp_show_code : RP := (.cons (.setl 1 (.lst .nil)) (.cons (.for2 2 3 (.enm (.loc 0)) (.cons (.setl 4 (.ife (.cmp .Is (.sub (.loc 3) (.cst (.int 1))) (.cst .none)) (.cst (.str "")) (.bin .Add (.cst (.str " ")) (.ife (.isi (.sub (.loc 3) (.cst (.int 1))) ["int"]) (.bi .str (.cons (.sub (.loc 3) (.cst (.int 1))) .nil)) (.bi .repr (.cons (.sub (.loc 3) (.cst (.int 1))) .nil)))))) (.cons (.exp (.met (.loc 1) "append" (.cons (.bin .Add (.bin .Add (.bin .Add (.bi .str (.cons (.loc 2) .nil)) (.cst (.str " "))) (.sub (.loc 3) (.cst (.int 0)))) (.loc 4)) .nil))) .nil))) (.cons (.ret (.met (.cst (.str "\n")) "join" (.cons (.loc 1) .nil))) .nil)))
theorem cp_show_code : cP 100 (NE.of (stScope (stAt 29))) (stScope (stAt 29)) (stBody (stAt 29)) = some rp_show_code := by kernel_rfl
theorem in_show_code (cx : CxO C pw w hB os0 n) (y : KYP w hB) {sp : Spec} (h : ∀ vs σ Q X, (∀ b o, C.ro b = some o → σ b = none) → sp vs σ Q X → ∃ v0, vs = [v0] ∧ rsts C rp_show_code [some v0, none, none, none, none] σ ⟨fun _ σ' => Q .none σ', Q, fun _ _ => False, fun x _ σ' => X x σ'⟩) : Does pw w hB os0 (n + 1) (.ref 180) sp :=
  does_of cx y (c := 179) (st := stAt 29) (qual := "show_code") (pm := "grammarmill.codes") (tk := 348) (d := .none) (ps := [Str.ofString "code"]) (by kernel_rfl) (List.contains_iff_mem.mp (by kernel_rfl)) (by kernel_rfl) (by kernel_rfl)
    (fun cvs h => by obtain ⟨c0, rfl⟩ := len1 h; kernel_rfl) cp_show_code fun vs σ Q X ro hs => by
      obtain ⟨v0, rfl, h⟩ := h vs σ Q X ro hs
      exact ⟨rfl, h⟩
noncomputable def rp_need : RP := (.cons (.ife (.not (.loc 0)) (.cons (.rai "MachineError" (.loc 1)) .nil) .nil) .nil)
theorem cp_need : cP 100 (NE.of (stScope (stAt 32))) (stScope (stAt 32)) (stBody (stAt 32)) = some rp_need := by kernel_rfl
theorem in_need (cx : CxO C pw w hB os0 n) (y : KYP w hB) {sp : Spec} (h : ∀ vs σ Q X, (∀ b o, C.ro b = some o → σ b = none) → sp vs σ Q X → ∃ v0 v1, vs = [v0, v1] ∧ rsts C rp_need [some v0, some v1] σ ⟨fun _ σ' => Q .none σ', Q, fun _ _ => False, fun x _ σ' => X x σ'⟩) : Does pw w hB os0 (n + 1) (.ref 187) sp :=
  does_of cx y (c := 186) (st := stAt 32) (qual := "need") (pm := "grammarmill.machine") (tk := 494) (d := .none) (ps := [Str.ofString "is_right", Str.ofString "what"]) (by kernel_rfl) (List.contains_iff_mem.mp (by kernel_rfl)) (by kernel_rfl) (by kernel_rfl)
    (fun cvs h => by obtain ⟨c0, c1, rfl⟩ := len2 h; kernel_rfl) cp_need fun vs σ Q X ro hs => by
      obtain ⟨v0, v1, rfl, h⟩ := h vs σ Q X ro hs
      exact ⟨rfl, h⟩
noncomputable def rp_need_list : RP := (.cons (.exp (.call "need" (.cons (.isi (.loc 0) ["tuple"]) (.cons (.cst (.str "no list")) .nil)))) (.cons (.ret (.loc 0)) .nil))
theorem cp_need_list : cP 100 (NE.of (stScope (stAt 33))) (stScope (stAt 33)) (stBody (stAt 33)) = some rp_need_list := by kernel_rfl
theorem in_need_list (cx : CxO C pw w hB os0 n) (y : KYP w hB) {sp : Spec} (h : ∀ vs σ Q X, (∀ b o, C.ro b = some o → σ b = none) → sp vs σ Q X → ∃ v0, vs = [v0] ∧ rsts C rp_need_list [some v0] σ ⟨fun _ σ' => Q .none σ', Q, fun _ _ => False, fun x _ σ' => X x σ'⟩) : Does pw w hB os0 (n + 1) (.ref 194) sp :=
  does_of cx y (c := 193) (st := stAt 33) (qual := "need_list") (pm := "grammarmill.machine") (tk := 494) (d := .none) (ps := [Str.ofString "value"]) (by kernel_rfl) (List.contains_iff_mem.mp (by kernel_rfl)) (by kernel_rfl) (by kernel_rfl)
    (fun cvs h => by obtain ⟨c0, rfl⟩ := len1 h; kernel_rfl) cp_need_list fun vs σ Q X ro hs => by
      obtain ⟨v0, rfl, h⟩ := h vs σ Q X ro hs
      exact ⟨rfl, h⟩
noncomputable def rp_need_row : RP := (.cons (.exp (.call "need" (.cons (.isi (.loc 0) ["str", "tuple"]) (.cons (.cst (.str "no text and no list")) .nil)))) (.cons (.ret (.loc 0)) .nil))
theorem cp_need_row : cP 100 (NE.of (stScope (stAt 34))) (stScope (stAt 34)) (stBody (stAt 34)) = some rp_need_row := by kernel_rfl
theorem in_need_row (cx : CxO C pw w hB os0 n) (y : KYP w hB) {sp : Spec} (h : ∀ vs σ Q X, (∀ b o, C.ro b = some o → σ b = none) → sp vs σ Q X → ∃ v0, vs = [v0] ∧ rsts C rp_need_row [some v0] σ ⟨fun _ σ' => Q .none σ', Q, fun _ _ => False, fun x _ σ' => X x σ'⟩) : Does pw w hB os0 (n + 1) (.ref 201) sp :=
  does_of cx y (c := 200) (st := stAt 34) (qual := "need_row") (pm := "grammarmill.machine") (tk := 494) (d := .none) (ps := [Str.ofString "value"]) (by kernel_rfl) (List.contains_iff_mem.mp (by kernel_rfl)) (by kernel_rfl) (by kernel_rfl)
    (fun cvs h => by obtain ⟨c0, rfl⟩ := len1 h; kernel_rfl) cp_need_row fun vs σ Q X ro hs => by
      obtain ⟨v0, rfl, h⟩ := h vs σ Q X ro hs
      exact ⟨rfl, h⟩
noncomputable def rp_need_number : RP := (.cons (.exp (.call "need" (.cons (.and (.cons (.call "is_number" (.cons (.loc 0) .nil)) (.cons (.cmp2 .LtE .LtE (.loc 1) (.loc 0) (.loc 2)) .nil))) (.cons (.cst (.str "no number that fits here")) .nil)))) (.cons (.ret (.loc 0)) .nil))
theorem cp_need_number : cP 100 (NE.of (stScope (stAt 35))) (stScope (stAt 35)) (stBody (stAt 35)) = some rp_need_number := by kernel_rfl
theorem in_need_number (cx : CxO C pw w hB os0 n) (y : KYP w hB) {sp : Spec} (h : ∀ vs σ Q X, (∀ b o, C.ro b = some o → σ b = none) → sp vs σ Q X → ∃ v0 v1 v2, vs = [v0, v1, v2] ∧ rsts C rp_need_number [some v0, some v1, some v2] σ ⟨fun _ σ' => Q .none σ', Q, fun _ _ => False, fun x _ σ' => X x σ'⟩) : Does pw w hB os0 (n + 1) (.ref 208) sp :=
  does_of cx y (c := 207) (st := stAt 35) (qual := "need_number") (pm := "grammarmill.machine") (tk := 494) (d := .none) (ps := [Str.ofString "value", Str.ofString "least", Str.ofString "most"]) (by kernel_rfl) (List.contains_iff_mem.mp (by kernel_rfl)) (by kernel_rfl) (by kernel_rfl)
    (fun cvs h => by obtain ⟨c0, c1, c2, rfl⟩ := len3 h; kernel_rfl) cp_need_number fun vs σ Q X ro hs => by
      obtain ⟨v0, v1, v2, rfl, h⟩ := h vs σ Q X ro hs
      exact ⟨rfl, h⟩
noncomputable def rp_number_of : RP := (.cons (.exp (.call "need" (.cons (.isi (.loc 0) ["str"]) (.cons (.cst (.str "no text of a number")) .nil)))) (.cons (.setl 1 (.ife (.cmp .Eq (.sli (.loc 0) .no (.some (.cst (.int 1)))) (.cst (.str "-"))) (.sli (.loc 0) (.some (.cst (.int 1))) .no) (.loc 0))) (.cons (.exp (.call "need" (.cons (.cmp2 .Lt .LtE (.cst (.int 0)) (.bi .len (.cons (.loc 1) .nil)) (.glb "MOST_FIGURES")) (.cons (.cst (.str "no text of a number")) .nil)))) (.cons (.setl 2 (.cst (.int 0))) (.cons (.for1 3 (.val (.loc 1)) (.cons (.exp (.call "need" (.cons (.cmp .In (.loc 3) (.cst (.str "0123456789"))) (.cons (.cst (.str "no text of a number")) .nil)))) (.cons (.setl 2 (.bin .Sub (.bin .Add (.bin .Mult (.cst (.int 10)) (.loc 2)) (.bi .ord (.cons (.loc 3) .nil))) (.bi .ord (.cons (.cst (.str "0")) .nil)))) .nil))) (.cons (.ret (.call "bounded" (.cons (.ife (.cmp .Eq (.sli (.loc 0) .no (.some (.cst (.int 1)))) (.cst (.str "-"))) (.neg (.loc 2)) (.loc 2)) .nil))) .nil))))))
theorem cp_number_of : cP 100 (NE.of (stScope (stAt 36))) (stScope (stAt 36)) (stBody (stAt 36)) = some rp_number_of := by kernel_rfl
theorem in_number_of (cx : CxO C pw w hB os0 n) (y : KYP w hB) {sp : Spec} (h : ∀ vs σ Q X, (∀ b o, C.ro b = some o → σ b = none) → sp vs σ Q X → ∃ v0, vs = [v0] ∧ rsts C rp_number_of [some v0, none, none, none] σ ⟨fun _ σ' => Q .none σ', Q, fun _ _ => False, fun x _ σ' => X x σ'⟩) : Does pw w hB os0 (n + 1) (.ref 215) sp :=
  does_of cx y (c := 214) (st := stAt 36) (qual := "number_of") (pm := "grammarmill.machine") (tk := 494) (d := .none) (ps := [Str.ofString "value"]) (by kernel_rfl) (List.contains_iff_mem.mp (by kernel_rfl)) (by kernel_rfl) (by kernel_rfl)
    (fun cvs h => by obtain ⟨c0, rfl⟩ := len1 h; kernel_rfl) cp_number_of fun vs σ Q X ro hs => by
      obtain ⟨v0, rfl, h⟩ := h vs σ Q X ro hs
      exact ⟨rfl, h⟩
noncomputable def rp_text_of : RP := (.cons (.exp (.call "need" (.cons (.call "is_number" (.cons (.loc 0) .nil)) (.cons (.cst (.str "no number")) .nil)))) (.cons (.ret (.bi .str (.cons (.loc 0) .nil))) .nil))
theorem cp_text_of : cP 100 (NE.of (stScope (stAt 37))) (stScope (stAt 37)) (stBody (stAt 37)) = some rp_text_of := by kernel_rfl
theorem in_text_of (cx : CxO C pw w hB os0 n) (y : KYP w hB) {sp : Spec} (h : ∀ vs σ Q X, (∀ b o, C.ro b = some o → σ b = none) → sp vs σ Q X → ∃ v0, vs = [v0] ∧ rsts C rp_text_of [some v0] σ ⟨fun _ σ' => Q .none σ', Q, fun _ _ => False, fun x _ σ' => X x σ'⟩) : Does pw w hB os0 (n + 1) (.ref 222) sp :=
  does_of cx y (c := 221) (st := stAt 37) (qual := "text_of") (pm := "grammarmill.machine") (tk := 494) (d := .none) (ps := [Str.ofString "value"]) (by kernel_rfl) (List.contains_iff_mem.mp (by kernel_rfl)) (by kernel_rfl) (by kernel_rfl)
    (fun cvs h => by obtain ⟨c0, rfl⟩ := len1 h; kernel_rfl) cp_text_of fun vs σ Q X ro hs => by
      obtain ⟨v0, rfl, h⟩ := h vs σ Q X ro hs
      exact ⟨rfl, h⟩
noncomputable def rp_glued : RP := (.cons (.exp (.call "need" (.cons (.isi (.loc 1) ["str"]) (.cons (.cst (.str "no text to glue with")) .nil)))) (.cons (.for1 2 (.val (.call "need_list" (.cons (.loc 0) .nil))) (.cons (.exp (.call "need" (.cons (.isi (.loc 2) ["str"]) (.cons (.cst (.str "no text to be glued")) .nil)))) .nil)) (.cons (.ret (.call "bounded" (.cons (.met (.loc 1) "join" (.cons (.bi .list (.cons (.loc 0) .nil)) .nil)) .nil))) .nil)))
theorem cp_glued : cP 100 (NE.of (stScope (stAt 38))) (stScope (stAt 38)) (stBody (stAt 38)) = some rp_glued := by kernel_rfl
theorem in_glued (cx : CxO C pw w hB os0 n) (y : KYP w hB) {sp : Spec} (h : ∀ vs σ Q X, (∀ b o, C.ro b = some o → σ b = none) → sp vs σ Q X → ∃ v0 v1, vs = [v0, v1] ∧ rsts C rp_glued [some v0, some v1, none] σ ⟨fun _ σ' => Q .none σ', Q, fun _ _ => False, fun x _ σ' => X x σ'⟩) : Does pw w hB os0 (n + 1) (.ref 229) sp :=
  does_of cx y (c := 228) (st := stAt 38) (qual := "glued") (pm := "grammarmill.machine") (tk := 494) (d := .none) (ps := [Str.ofString "parts", Str.ofString "between"]) (by kernel_rfl) (List.contains_iff_mem.mp (by kernel_rfl)) (by kernel_rfl) (by kernel_rfl)
    (fun cvs h => by obtain ⟨c0, c1, rfl⟩ := len2 h; kernel_rfl) cp_glued fun vs σ Q X ro hs => by
      obtain ⟨v0, v1, rfl, h⟩ := h vs σ Q X ro hs
      exact ⟨rfl, h⟩
noncomputable def rp_turned : RP := (.cons (.ret (.rev (.call "need_list" (.cons (.loc 0) .nil)))) .nil)
theorem cp_turned : cP 100 (NE.of (stScope (stAt 39))) (stScope (stAt 39)) (stBody (stAt 39)) = some rp_turned := by kernel_rfl
theorem in_turned (cx : CxO C pw w hB os0 n) (y : KYP w hB) {sp : Spec} (h : ∀ vs σ Q X, (∀ b o, C.ro b = some o → σ b = none) → sp vs σ Q X → ∃ v0, vs = [v0] ∧ rsts C rp_turned [some v0] σ ⟨fun _ σ' => Q .none σ', Q, fun _ _ => False, fun x _ σ' => X x σ'⟩) : Does pw w hB os0 (n + 1) (.ref 236) sp :=
  does_of cx y (c := 235) (st := stAt 39) (qual := "turned") (pm := "grammarmill.machine") (tk := 494) (d := .none) (ps := [Str.ofString "value"]) (by kernel_rfl) (List.contains_iff_mem.mp (by kernel_rfl)) (by kernel_rfl) (by kernel_rfl)
    (fun cvs h => by obtain ⟨c0, rfl⟩ := len1 h; kernel_rfl) cp_turned fun vs σ Q X ro hs => by
      obtain ⟨v0, rfl, h⟩ := h vs σ Q X ro hs
      exact ⟨rfl, h⟩
noncomputable def rp_item_of : RP := (.cons (.exp (.call "need_row" (.cons (.loc 0) .nil))) (.cons (.ret (.sub (.loc 0) (.call "need_number" (.cons (.loc 1) (.cons (.cst (.int 0)) (.cons (.bin .Sub (.bi .len (.cons (.loc 0) .nil)) (.cst (.int 1))) .nil)))))) .nil))
theorem cp_item_of : cP 100 (NE.of (stScope (stAt 40))) (stScope (stAt 40)) (stBody (stAt 40)) = some rp_item_of := by kernel_rfl
theorem in_item_of (cx : CxO C pw w hB os0 n) (y : KYP w hB) {sp : Spec} (h : ∀ vs σ Q X, (∀ b o, C.ro b = some o → σ b = none) → sp vs σ Q X → ∃ v0 v1, vs = [v0, v1] ∧ rsts C rp_item_of [some v0, some v1] σ ⟨fun _ σ' => Q .none σ', Q, fun _ _ => False, fun x _ σ' => X x σ'⟩) : Does pw w hB os0 (n + 1) (.ref 243) sp :=
  does_of cx y (c := 242) (st := stAt 40) (qual := "item_of") (pm := "grammarmill.machine") (tk := 494) (d := .none) (ps := [Str.ofString "value", Str.ofString "number"]) (by kernel_rfl) (List.contains_iff_mem.mp (by kernel_rfl)) (by kernel_rfl) (by kernel_rfl)
    (fun cvs h => by obtain ⟨c0, c1, rfl⟩ := len2 h; kernel_rfl) cp_item_of fun vs σ Q X ro hs => by
      obtain ⟨v0, v1, rfl, h⟩ := h vs σ Q X ro hs
      exact ⟨rfl, h⟩
noncomputable def rp_cut_of : RP := (.cons (.exp (.call "need_row" (.cons (.loc 0) .nil))) (.cons (.exp (.call "need_number" (.cons (.loc 2) (.cons (.cst (.int 0)) (.cons (.bi .len (.cons (.loc 0) .nil)) .nil))))) (.cons (.ret (.sli (.loc 0) (.some (.call "need_number" (.cons (.loc 1) (.cons (.cst (.int 0)) (.cons (.loc 2) .nil))))) (.some (.loc 2)))) .nil)))
theorem cp_cut_of : cP 100 (NE.of (stScope (stAt 41))) (stScope (stAt 41)) (stBody (stAt 41)) = some rp_cut_of := by kernel_rfl
theorem in_cut_of (cx : CxO C pw w hB os0 n) (y : KYP w hB) {sp : Spec} (h : ∀ vs σ Q X, (∀ b o, C.ro b = some o → σ b = none) → sp vs σ Q X → ∃ v0 v1 v2, vs = [v0, v1, v2] ∧ rsts C rp_cut_of [some v0, some v1, some v2] σ ⟨fun _ σ' => Q .none σ', Q, fun _ _ => False, fun x _ σ' => X x σ'⟩) : Does pw w hB os0 (n + 1) (.ref 250) sp :=
  does_of cx y (c := 249) (st := stAt 41) (qual := "cut_of") (pm := "grammarmill.machine") (tk := 494) (d := .none) (ps := [Str.ofString "value", Str.ofString "begin", Str.ofString "end"]) (by kernel_rfl) (List.contains_iff_mem.mp (by kernel_rfl)) (by kernel_rfl) (by kernel_rfl)
    (fun cvs h => by obtain ⟨c0, c1, c2, rfl⟩ := len3 h; kernel_rfl) cp_cut_of fun vs σ Q X ro hs => by
      obtain ⟨v0, v1, v2, rfl, h⟩ := h vs σ Q X ro hs
      exact ⟨rfl, h⟩
noncomputable def rp_end_of : RP := (.cons (.exp (.call "need_list" (.cons (.loc 1) .nil))) (.cons (.exp (.call "need" (.cons (.cmp .Gt (.bi .len (.cons (.loc 1) .nil)) (.cst (.int 0))) (.cons (.cst (.str "the list is empty")) .nil)))) (.cons (.ife (.cmp .Eq (.loc 0) (.cst (.str "head"))) (.cons (.ret (.sub (.loc 1) (.cst (.int 0)))) .nil) .nil) (.cons (.ret (.ife (.cmp .Eq (.loc 0) (.cst (.str "rest"))) (.sli (.loc 1) (.some (.cst (.int 1))) .no) (.sub (.loc 1) (.bin .Sub (.bi .len (.cons (.loc 1) .nil)) (.cst (.int 1)))))) .nil))))
theorem cp_end_of : cP 100 (NE.of (stScope (stAt 42))) (stScope (stAt 42)) (stBody (stAt 42)) = some rp_end_of := by kernel_rfl
theorem in_end_of (cx : CxO C pw w hB os0 n) (y : KYP w hB) {sp : Spec} (h : ∀ vs σ Q X, (∀ b o, C.ro b = some o → σ b = none) → sp vs σ Q X → ∃ v0 v1, vs = [v0, v1] ∧ rsts C rp_end_of [some v0, some v1] σ ⟨fun _ σ' => Q .none σ', Q, fun _ _ => False, fun x _ σ' => X x σ'⟩) : Does pw w hB os0 (n + 1) (.ref 257) sp :=
  does_of cx y (c := 256) (st := stAt 42) (qual := "end_of") (pm := "grammarmill.machine") (tk := 494) (d := .none) (ps := [Str.ofString "word", Str.ofString "value"]) (by kernel_rfl) (List.contains_iff_mem.mp (by kernel_rfl)) (by kernel_rfl) (by kernel_rfl)
    (fun cvs h => by obtain ⟨c0, c1, rfl⟩ := len2 h; kernel_rfl) cp_end_of fun vs σ Q X ro hs => by
      obtain ⟨v0, v1, rfl, h⟩ := h vs σ Q X ro hs
      exact ⟨rfl, h⟩
noncomputable def rp_call_of_one : RP := (.cons (.ife (.cmp .Eq (.loc 0) (.cst (.str "len"))) (.cons (.ret (.bi .len (.cons (.call "need_row" (.cons (.loc 1) .nil)) .nil))) .nil) .nil) (.cons (.ife (.cmp .Eq (.loc 0) (.cst (.str "back"))) (.cons (.ret (.call "turned" (.cons (.loc 1) .nil))) .nil) .nil) (.cons (.ife (.cmp .Eq (.loc 0) (.cst (.str "text"))) (.cons (.ret (.call "text_of" (.cons (.loc 1) .nil))) .nil) .nil) (.cons (.ret (.ife (.cmp .Eq (.loc 0) (.cst (.str "number"))) (.call "number_of" (.cons (.loc 1) .nil)) (.call "end_of" (.cons (.loc 0) (.cons (.loc 1) .nil))))) .nil))))
theorem cp_call_of_one : cP 100 (NE.of (stScope (stAt 43))) (stScope (stAt 43)) (stBody (stAt 43)) = some rp_call_of_one := by kernel_rfl
theorem in_call_of_one (cx : CxO C pw w hB os0 n) (y : KYP w hB) {sp : Spec} (h : ∀ vs σ Q X, (∀ b o, C.ro b = some o → σ b = none) → sp vs σ Q X → ∃ v0 v1, vs = [v0, v1] ∧ rsts C rp_call_of_one [some v0, some v1] σ ⟨fun _ σ' => Q .none σ', Q, fun _ _ => False, fun x _ σ' => X x σ'⟩) : Does pw w hB os0 (n + 1) (.ref 264) sp :=
  does_of cx y (c := 263) (st := stAt 43) (qual := "call_of_one") (pm := "grammarmill.machine") (tk := 494) (d := .none) (ps := [Str.ofString "word", Str.ofString "value"]) (by kernel_rfl) (List.contains_iff_mem.mp (by kernel_rfl)) (by kernel_rfl) (by kernel_rfl)
    (fun cvs h => by obtain ⟨c0, c1, rfl⟩ := len2 h; kernel_rfl) cp_call_of_one fun vs σ Q X ro hs => by
      obtain ⟨v0, v1, rfl, h⟩ := h vs σ Q X ro hs
      exact ⟨rfl, h⟩
noncomputable def rp_applied : RP := (.cons (.exp (.call "need" (.cons (.and (.cons (.cmp .In (.loc 0) (.glb "FUNCTIONS")) (.cons (.cmp .Eq (.bi .len (.cons (.loc 1) .nil)) (.sub (.glb "FUNCTIONS") (.loc 0))) .nil))) (.cons (.cst (.str "no such function")) .nil)))) (.cons (.ife (.cmp .Eq (.bi .len (.cons (.loc 1) .nil)) (.cst (.int 1))) (.cons (.ret (.call "call_of_one" (.cons (.loc 0) (.cons (.sub (.loc 1) (.cst (.int 0))) .nil)))) .nil) .nil) (.cons (.ife (.cmp .Eq (.loc 0) (.cst (.str "item"))) (.cons (.ret (.call "item_of" (.cons (.sub (.loc 1) (.cst (.int 0))) (.cons (.sub (.loc 1) (.cst (.int 1))) .nil)))) .nil) .nil) (.cons (.ife (.cmp .Eq (.loc 0) (.cst (.str "push"))) (.cons (.ret (.call "bounded" (.cons (.bin .Add (.call "need_list" (.cons (.sub (.loc 1) (.cst (.int 0))) .nil)) (.tup (.cons (.sub (.loc 1) (.cst (.int 1))) .nil))) .nil))) .nil) .nil) (.cons (.ife (.cmp .Eq (.loc 0) (.cst (.str "cut"))) (.cons (.ret (.call "cut_of" (.cons (.sub (.loc 1) (.cst (.int 0))) (.cons (.sub (.loc 1) (.cst (.int 1))) (.cons (.sub (.loc 1) (.cst (.int 2))) .nil))))) .nil) .nil) (.cons (.ret (.call "glued" (.cons (.sub (.loc 1) (.cst (.int 0))) (.cons (.sub (.loc 1) (.cst (.int 1))) .nil)))) .nil))))))
theorem cp_applied : cP 100 (NE.of (stScope (stAt 44))) (stScope (stAt 44)) (stBody (stAt 44)) = some rp_applied := by kernel_rfl
theorem in_applied (cx : CxO C pw w hB os0 n) (y : KYP w hB) {sp : Spec} (h : ∀ vs σ Q X, (∀ b o, C.ro b = some o → σ b = none) → sp vs σ Q X → ∃ v0 v1, vs = [v0, v1] ∧ rsts C rp_applied [some v0, some v1] σ ⟨fun _ σ' => Q .none σ', Q, fun _ _ => False, fun x _ σ' => X x σ'⟩) : Does pw w hB os0 (n + 1) (.ref 271) sp :=
  does_of cx y (c := 270) (st := stAt 44) (qual := "applied") (pm := "grammarmill.machine") (tk := 494) (d := .none) (ps := [Str.ofString "word", Str.ofString "values"]) (by kernel_rfl) (List.contains_iff_mem.mp (by kernel_rfl)) (by kernel_rfl) (by kernel_rfl)
    (fun cvs h => by obtain ⟨c0, c1, rfl⟩ := len2 h; kernel_rfl) cp_applied fun vs σ Q X ro hs => by
      obtain ⟨v0, v1, rfl, h⟩ := h vs σ Q X ro hs
      exact ⟨rfl, h⟩
noncomputable def rp_value_at : RP := (.cons (.exp (.call "need" (.cons (.cmp2 .LtE .LtE (.cst (.int 1)) (.loc 1) (.bi .len (.cons (.loc 0) .nil))) (.cons (.bin .Add (.cst (.str "no value $")) (.bi .str (.cons (.loc 1) .nil))) .nil)))) (.cons (.ret (.sub (.loc 0) (.bin .Sub (.loc 1) (.cst (.int 1))))) .nil))
theorem cp_value_at : cP 100 (NE.of (stScope (stAt 45))) (stScope (stAt 45)) (stBody (stAt 45)) = some rp_value_at := by kernel_rfl
theorem in_value_at (cx : CxO C pw w hB os0 n) (y : KYP w hB) {sp : Spec} (h : ∀ vs σ Q X, (∀ b o, C.ro b = some o → σ b = none) → sp vs σ Q X → ∃ v0 v1, vs = [v0, v1] ∧ rsts C rp_value_at [some v0, some v1] σ ⟨fun _ σ' => Q .none σ', Q, fun _ _ => False, fun x _ σ' => X x σ'⟩) : Does pw w hB os0 (n + 1) (.ref 278) sp :=
  does_of cx y (c := 277) (st := stAt 45) (qual := "value_at") (pm := "grammarmill.machine") (tk := 494) (d := .none) (ps := [Str.ofString "values", Str.ofString "number"]) (by kernel_rfl) (List.contains_iff_mem.mp (by kernel_rfl)) (by kernel_rfl) (by kernel_rfl)
    (fun cvs h => by obtain ⟨c0, c1, rfl⟩ := len2 h; kernel_rfl) cp_value_at fun vs σ Q X ro hs => by
      obtain ⟨v0, v1, rfl, h⟩ := h vs σ Q X ro hs
      exact ⟨rfl, h⟩
noncomputable def rp_Frame___init__ : RP := (.cons (.seta (.loc 0) "values" (.loc 1)) (.cons (.seta (.loc 0) "names" (.loc 2)) (.cons (.seta (.loc 0) "control" (.loc 3)) (.cons (.seta (.loc 0) "own" (.loc 4)) (.cons (.seta (.loc 0) "stack" (.lst .nil)) (.cons (.seta (.loc 0) "steps" (.cst (.int 0))) (.cons (.seta (.loc 0) "most" (.loc 5)) (.cons (.seta (.loc 0) "is_left" (.cst (.bool false))) .nil))))))))
theorem cp_Frame___init__ : cP 100 (NE.of (stScope (mAt 47 0))) (stScope (mAt 47 0)) (stBody (mAt 47 0)) = some rp_Frame___init__ := by kernel_rfl
theorem in_Frame___init__ (cx : CxO C pw w hB os0 n) (y : KYP w hB) {sp : Spec} (h : ∀ vs σ Q X, (∀ b o, C.ro b = some o → σ b = none) → sp vs σ Q X → ∃ v0 v1 v2 v3 v4 v5, vs = [v0, v1, v2, v3, v4, v5] ∧ rsts C rp_Frame___init__ [some v0, some v1, some v2, some v3, some v4, some v5] σ ⟨fun _ σ' => Q .none σ', Q, fun _ _ => False, fun x _ σ' => X x σ'⟩) : Does pw w hB os0 (n + 1) (.ref 299) sp :=
  does_of cx y (c := 298) (st := mAt 47 0) (qual := "Frame.__init__") (pm := "grammarmill.machine") (tk := 494) (d := .none) (ps := [Str.ofString "self", Str.ofString "values", Str.ofString "names", Str.ofString "control", Str.ofString "own", Str.ofString "most"]) (by kernel_rfl) (List.contains_iff_mem.mp (by kernel_rfl)) (by kernel_rfl) (by kernel_rfl)
    (fun cvs h => by obtain ⟨c0, c1, c2, c3, c4, c5, rfl⟩ := len6 h; kernel_rfl) cp_Frame___init__ fun vs σ Q X ro hs => by
      obtain ⟨v0, v1, v2, v3, v4, v5, rfl, h⟩ := h vs σ Q X ro hs
      exact ⟨rfl, h⟩
noncomputable def rp_Frame_count : RP := (.cons (.seta (.loc 0) "steps" (.bin .Add (.att (.loc 0) "steps") (.cst (.int 1)))) (.cons (.exp (.call "need" (.cons (.cmp .LtE (.att (.loc 0) "steps") (.att (.loc 0) "most")) (.cons (.cst (.str "too many steps")) .nil)))) .nil))
theorem cp_Frame_count : cP 100 (NE.of (stScope (mAt 47 1))) (stScope (mAt 47 1)) (stBody (mAt 47 1)) = some rp_Frame_count := by kernel_rfl
theorem in_Frame_count (cx : CxO C pw w hB os0 n) (y : KYP w hB) {sp : Spec} (h : ∀ vs σ Q X, (∀ b o, C.ro b = some o → σ b = none) → sp vs σ Q X → ∃ v0, vs = [v0] ∧ rsts C rp_Frame_count [some v0] σ ⟨fun _ σ' => Q .none σ', Q, fun _ _ => False, fun x _ σ' => X x σ'⟩) : Does pw w hB os0 (n + 1) (.ref 306) sp :=
  does_of cx y (c := 305) (st := mAt 47 1) (qual := "Frame.count") (pm := "grammarmill.machine") (tk := 494) (d := .none) (ps := [Str.ofString "self"]) (by kernel_rfl) (List.contains_iff_mem.mp (by kernel_rfl)) (by kernel_rfl) (by kernel_rfl)
    (fun cvs h => by obtain ⟨c0, rfl⟩ := len1 h; kernel_rfl) cp_Frame_count fun vs σ Q X ro hs => by
      obtain ⟨v0, rfl, h⟩ := h vs σ Q X ro hs
      exact ⟨rfl, h⟩
noncomputable def rp_Frame_push : RP := (.cons (.exp (.met (.att (.loc 0) "stack") "append" (.cons (.loc 1) .nil))) .nil)
theorem cp_Frame_push : cP 100 (NE.of (stScope (mAt 47 2))) (stScope (mAt 47 2)) (stBody (mAt 47 2)) = some rp_Frame_push := by kernel_rfl
theorem in_Frame_push (cx : CxO C pw w hB os0 n) (y : KYP w hB) {sp : Spec} (h : ∀ vs σ Q X, (∀ b o, C.ro b = some o → σ b = none) → sp vs σ Q X → ∃ v0 v1, vs = [v0, v1] ∧ rsts C rp_Frame_push [some v0, some v1] σ ⟨fun _ σ' => Q .none σ', Q, fun _ _ => False, fun x _ σ' => X x σ'⟩) : Does pw w hB os0 (n + 1) (.ref 313) sp :=
  does_of cx y (c := 312) (st := mAt 47 2) (qual := "Frame.push") (pm := "grammarmill.machine") (tk := 494) (d := .none) (ps := [Str.ofString "self", Str.ofString "value"]) (by kernel_rfl) (List.contains_iff_mem.mp (by kernel_rfl)) (by kernel_rfl) (by kernel_rfl)
    (fun cvs h => by obtain ⟨c0, c1, rfl⟩ := len2 h; kernel_rfl) cp_Frame_push fun vs σ Q X ro hs => by
      obtain ⟨v0, v1, rfl, h⟩ := h vs σ Q X ro hs
      exact ⟨rfl, h⟩
noncomputable def rp_Frame_pop : RP := (.cons (.exp (.call "need" (.cons (.cmp .NotEq (.att (.loc 0) "stack") (.lst .nil)) (.cons (.cst (.str "the stack is empty")) .nil)))) (.cons (.ret (.met (.att (.loc 0) "stack") "pop" .nil)) .nil))
theorem cp_Frame_pop : cP 100 (NE.of (stScope (mAt 47 3))) (stScope (mAt 47 3)) (stBody (mAt 47 3)) = some rp_Frame_pop := by kernel_rfl
theorem in_Frame_pop (cx : CxO C pw w hB os0 n) (y : KYP w hB) {sp : Spec} (h : ∀ vs σ Q X, (∀ b o, C.ro b = some o → σ b = none) → sp vs σ Q X → ∃ v0, vs = [v0] ∧ rsts C rp_Frame_pop [some v0] σ ⟨fun _ σ' => Q .none σ', Q, fun _ _ => False, fun x _ σ' => X x σ'⟩) : Does pw w hB os0 (n + 1) (.ref 320) sp :=
  does_of cx y (c := 319) (st := mAt 47 3) (qual := "Frame.pop") (pm := "grammarmill.machine") (tk := 494) (d := .none) (ps := [Str.ofString "self"]) (by kernel_rfl) (List.contains_iff_mem.mp (by kernel_rfl)) (by kernel_rfl) (by kernel_rfl)
    (fun cvs h => by obtain ⟨c0, rfl⟩ := len1 h; kernel_rfl) cp_Frame_pop fun vs σ Q X ro hs => by
      obtain ⟨v0, rfl, h⟩ := h vs σ Q X ro hs
      exact ⟨rfl, h⟩
noncomputable def rp_Frame_pop_some : RP := (.cons (.exp (.call "need" (.cons (.cmp .GtE (.bi .len (.cons (.att (.loc 0) "stack") .nil)) (.loc 1)) (.cons (.cst (.str "the stack is empty")) .nil)))) (.cons (.setl 2 (.sli (.att (.loc 0) "stack") (.some (.bin .Sub (.bi .len (.cons (.att (.loc 0) "stack") .nil)) (.loc 1))) .no)) (.cons (.seta (.loc 0) "stack" (.sli (.att (.loc 0) "stack") .no (.some (.bin .Sub (.bi .len (.cons (.att (.loc 0) "stack") .nil)) (.loc 1))))) (.cons (.ret (.loc 2)) .nil))))
theorem cp_Frame_pop_some : cP 100 (NE.of (stScope (mAt 47 4))) (stScope (mAt 47 4)) (stBody (mAt 47 4)) = some rp_Frame_pop_some := by kernel_rfl
theorem in_Frame_pop_some (cx : CxO C pw w hB os0 n) (y : KYP w hB) {sp : Spec} (h : ∀ vs σ Q X, (∀ b o, C.ro b = some o → σ b = none) → sp vs σ Q X → ∃ v0 v1, vs = [v0, v1] ∧ rsts C rp_Frame_pop_some [some v0, some v1, none] σ ⟨fun _ σ' => Q .none σ', Q, fun _ _ => False, fun x _ σ' => X x σ'⟩) : Does pw w hB os0 (n + 1) (.ref 327) sp :=
  does_of cx y (c := 326) (st := mAt 47 4) (qual := "Frame.pop_some") (pm := "grammarmill.machine") (tk := 494) (d := .none) (ps := [Str.ofString "self", Str.ofString "count"]) (by kernel_rfl) (List.contains_iff_mem.mp (by kernel_rfl)) (by kernel_rfl) (by kernel_rfl)
    (fun cvs h => by obtain ⟨c0, c1, rfl⟩ := len2 h; kernel_rfl) cp_Frame_pop_some fun vs σ Q X ro hs => by
      obtain ⟨v0, v1, rfl, h⟩ := h vs σ Q X ro hs
      exact ⟨rfl, h⟩
noncomputable def rp_Machine___init__ : RP := (.cons (.seta (.loc 0) "most" (.loc 1)) .nil)
theorem cp_Machine___init__ : cP 100 (NE.of (stScope (mAt 48 0))) (stScope (mAt 48 0)) (stBody (mAt 48 0)) = some rp_Machine___init__ := by kernel_rfl
theorem in_Machine___init__ (cx : CxO C pw w hB os0 n) (y : KYP w hB) {sp : Spec} (h : ∀ vs σ Q X, (∀ b o, C.ro b = some o → σ b = none) → sp vs σ Q X → ∃ v0 v1, vs = [v0, v1] ∧ rsts C rp_Machine___init__ [some v0, some v1] σ ⟨fun _ σ' => Q .none σ', Q, fun _ _ => False, fun x _ σ' => X x σ'⟩) : Does pw w hB os0 (n + 1) (.ref 356) sp :=
  does_ofB cx y (c := 355) (st := mAt 48 0) (qual := "Machine.__init__") (pm := "grammarmill.machine") (tk := 494) (d := (.ref 349)) (ps := [Str.ofString "self", Str.ofString "most"]) (by kernel_rfl) (List.contains_iff_mem.mp (by kernel_rfl)) (by kernel_rfl) (by kernel_rfl)
    (fun s cvs hs h => by obtain ⟨c0, c1, rfl⟩ := len2 h; exact .of_defaults (T := 349) (o := ⟨.type "tuple", none, .seq #[.int 2000 710] 0, #[]⟩) (items := #[.int 2000 710]) (n := 0) (by kernel_rfl) (hs _ _ (y.In _ _ (by kernel_rfl))) rfl rfl rfl) cp_Machine___init__ fun vs σ Q X ro hs => by
      obtain ⟨v0, v1, rfl, h⟩ := h vs σ Q X ro hs
      exact ⟨rfl, h⟩
noncomputable def rp_Machine_run : RP := (.cons (.sets [6, 7] (.cons (.call "Frame" (.cons (.loc 2) (.cons (.loc 3) (.cons (.loc 4) (.cons (.loc 5) (.cons (.att (.loc 0) "most") .nil)))))) (.cons (.cst (.int 0)) .nil))) (.cons (.whl (.and (.cons (.cmp .Lt (.loc 7) (.bi .len (.cons (.loc 1) .nil))) (.cons (.not (.att (.loc 6) "is_left")) .nil))) (.cons (.exp (.met (.loc 6) "count" .nil)) (.cons (.set2 8 9 (.sub (.loc 1) (.loc 7))) (.cons (.setl 7 (.ife (.cmp .In (.loc 8) (.tup (.cons (.cst (.str "jump")) (.cons (.cst (.str "unless")) (.cons (.cst (.str "when")) .nil))))) (.met (.loc 0) "jumped" (.cons (.loc 6) (.cons (.loc 8) (.cons (.loc 9) (.cons (.loc 7) .nil))))) (.bin .Add (.loc 7) (.cst (.int 1))))) (.cons (.exp (.met (.loc 0) "step" (.cons (.loc 6) (.cons (.loc 8) (.cons (.loc 9) .nil))))) .nil))))) (.cons (.ret (.att (.loc 6) "own")) .nil)))
theorem cp_Machine_run : cP 100 (NE.of (stScope (mAt 48 1))) (stScope (mAt 48 1)) (stBody (mAt 48 1)) = some rp_Machine_run := by kernel_rfl
theorem in_Machine_run (cx : CxO C pw w hB os0 n) (y : KYP w hB) {sp : Spec} (h : ∀ vs σ Q X, (∀ b o, C.ro b = some o → σ b = none) → sp vs σ Q X → ∃ v0 v1 v2 v3 v4 v5, vs = [v0, v1, v2, v3, v4, v5] ∧ rsts C rp_Machine_run [some v0, some v1, some v2, some v3, some v4, some v5, none, none, none, none] σ ⟨fun _ σ' => Q .none σ', Q, fun _ _ => False, fun x _ σ' => X x σ'⟩) : Does pw w hB os0 (n + 1) (.ref 363) sp :=
  does_of cx y (c := 362) (st := mAt 48 1) (qual := "Machine.run") (pm := "grammarmill.machine") (tk := 494) (d := .none) (ps := [Str.ofString "self", Str.ofString "code", Str.ofString "values", Str.ofString "names", Str.ofString "control", Str.ofString "own"]) (by kernel_rfl) (List.contains_iff_mem.mp (by kernel_rfl)) (by kernel_rfl) (by kernel_rfl)
    (fun cvs h => by obtain ⟨c0, c1, c2, c3, c4, c5, rfl⟩ := len6 h; kernel_rfl) cp_Machine_run fun vs σ Q X ro hs => by
      obtain ⟨v0, v1, v2, v3, v4, v5, rfl, h⟩ := h vs σ Q X ro hs
      exact ⟨rfl, h⟩
noncomputable def rp_Machine_jumped : RP := (.cons (.ife (.cmp .Eq (.loc 2) (.cst (.str "jump"))) (.cons (.ret (.loc 3)) .nil) .nil) (.cons (.ret (.ife (.cmp .Eq (.call "is_true" (.cons (.met (.loc 1) "pop" .nil) .nil)) (.cmp .Eq (.loc 2) (.cst (.str "when")))) (.loc 3) (.bin .Add (.loc 4) (.cst (.int 1))))) .nil))
theorem cp_Machine_jumped : cP 100 (NE.of (stScope (mAt 48 2))) (stScope (mAt 48 2)) (stBody (mAt 48 2)) = some rp_Machine_jumped := by kernel_rfl
theorem in_Machine_jumped (cx : CxO C pw w hB os0 n) (y : KYP w hB) {sp : Spec} (h : ∀ vs σ Q X, (∀ b o, C.ro b = some o → σ b = none) → sp vs σ Q X → ∃ v0 v1 v2 v3 v4, vs = [v0, v1, v2, v3, v4] ∧ rsts C rp_Machine_jumped [some v0, some v1, some v2, some v3, some v4] σ ⟨fun _ σ' => Q .none σ', Q, fun _ _ => False, fun x _ σ' => X x σ'⟩) : Does pw w hB os0 (n + 1) (.ref 370) sp :=
  does_of cx y (c := 369) (st := mAt 48 2) (qual := "Machine.jumped") (pm := "grammarmill.machine") (tk := 494) (d := .none) (ps := [Str.ofString "self", Str.ofString "frame", Str.ofString "op", Str.ofString "worth", Str.ofString "at"]) (by kernel_rfl) (List.contains_iff_mem.mp (by kernel_rfl)) (by kernel_rfl) (by kernel_rfl)
    (fun cvs h => by obtain ⟨c0, c1, c2, c3, c4, rfl⟩ := len5 h; kernel_rfl) cp_Machine_jumped fun vs σ Q X ro hs => by
      obtain ⟨v0, v1, v2, v3, v4, rfl, h⟩ := h vs σ Q X ro hs
      exact ⟨rfl, h⟩
noncomputable def rp_Machine_step : RP := (.cons (.ife (.cmp .Eq (.loc 2) (.cst (.str "push"))) (.cons (.exp (.met (.loc 1) "push" (.cons (.loc 3) .nil))) .nil) (.cons (.ife (.cmp .Eq (.loc 2) (.cst (.str "arg"))) (.cons (.exp (.met (.loc 1) "push" (.cons (.call "value_at" (.cons (.att (.loc 1) "values") (.cons (.loc 3) .nil))) .nil))) .nil) (.cons (.ife (.cmp .Eq (.loc 2) (.cst (.str "own"))) (.cons (.exp (.met (.loc 1) "push" (.cons (.att (.loc 1) "own") .nil))) .nil) (.cons (.ife (.cmp .Eq (.loc 2) (.cst (.str "get"))) (.cons (.exp (.met (.loc 1) "push" (.cons (.met (.att (.loc 1) "names") "get" (.cons (.loc 3) (.cons (.cst (.int 0)) .nil))) .nil))) .nil) (.cons (.ife (.cmp .Eq (.loc 2) (.cst (.str "two"))) (.cons (.setl 4 (.met (.loc 1) "pop" .nil)) (.cons (.exp (.met (.loc 1) "push" (.cons (.call "two_worth" (.cons (.loc 3) (.cons (.met (.loc 1) "pop" .nil) (.cons (.loc 4) .nil)))) .nil))) .nil)) (.cons (.ife (.cmp .Eq (.loc 2) (.cst (.str "one"))) (.cons (.exp (.met (.loc 1) "push" (.cons (.call "one_worth" (.cons (.loc 3) (.cons (.met (.loc 1) "pop" .nil) .nil))) .nil))) .nil) (.cons (.ife (.cmp .Eq (.loc 2) (.cst (.str "truth"))) (.cons (.exp (.met (.loc 1) "push" (.cons (.bi .int (.cons (.call "is_true" (.cons (.met (.loc 1) "pop" .nil) .nil)) .nil)) .nil))) .nil) (.cons (.ife (.cmp .Eq (.loc 2) (.cst (.str "list"))) (.cons (.exp (.met (.loc 1) "push" (.cons (.bi .tuple (.cons (.met (.loc 1) "pop_some" (.cons (.loc 3) .nil)) .nil)) .nil))) .nil) (.cons (.ife (.cmp .Eq (.loc 2) (.cst (.str "apply"))) (.cons (.exp (.met (.loc 1) "push" (.cons (.call "applied" (.cons (.loc 3) (.cons (.met (.loc 1) "pop_some" (.cons (.met (.glb "FUNCTIONS") "get" (.cons (.loc 3) (.cons (.cst (.int 0)) .nil))) .nil)) .nil))) .nil))) .nil) (.cons (.exp (.met (.loc 0) "store" (.cons (.loc 1) (.cons (.loc 2) (.cons (.loc 3) .nil))))) .nil)) .nil)) .nil)) .nil)) .nil)) .nil)) .nil)) .nil)) .nil)) .nil)
theorem cp_Machine_step : cP 100 (NE.of (stScope (mAt 48 3))) (stScope (mAt 48 3)) (stBody (mAt 48 3)) = some rp_Machine_step := by kernel_rfl
theorem in_Machine_step (cx : CxO C pw w hB os0 n) (y : KYP w hB) {sp : Spec} (h : ∀ vs σ Q X, (∀ b o, C.ro b = some o → σ b = none) → sp vs σ Q X → ∃ v0 v1 v2 v3, vs = [v0, v1, v2, v3] ∧ rsts C rp_Machine_step [some v0, some v1, some v2, some v3, none] σ ⟨fun _ σ' => Q .none σ', Q, fun _ _ => False, fun x _ σ' => X x σ'⟩) : Does pw w hB os0 (n + 1) (.ref 377) sp :=
  does_of cx y (c := 376) (st := mAt 48 3) (qual := "Machine.step") (pm := "grammarmill.machine") (tk := 494) (d := .none) (ps := [Str.ofString "self", Str.ofString "frame", Str.ofString "op", Str.ofString "worth"]) (by kernel_rfl) (List.contains_iff_mem.mp (by kernel_rfl)) (by kernel_rfl) (by kernel_rfl)
    (fun cvs h => by obtain ⟨c0, c1, c2, c3, rfl⟩ := len4 h; kernel_rfl) cp_Machine_step fun vs σ Q X ro hs => by
      obtain ⟨v0, v1, v2, v3, rfl, h⟩ := h vs σ Q X ro hs
      exact ⟨rfl, h⟩
noncomputable def rp_Machine_store : RP := (.cons (.ife (.cmp .Eq (.loc 2) (.cst (.str "set"))) (.cons (.seta (.loc 1) "own" (.met (.loc 1) "pop" .nil)) .nil) (.cons (.ife (.cmp .Eq (.loc 2) (.cst (.str "put"))) (.cons (.seti (.att (.loc 1) "names") (.loc 3) (.met (.loc 1) "pop" .nil)) .nil) (.cons (.ife (.cmp .Eq (.loc 2) (.cst (.str "drop"))) (.cons (.exp (.met (.loc 1) "pop" .nil)) .nil) (.cons (.ife (.cmp .Eq (.loc 2) (.cst (.str "fresh"))) (.cons (.seta (.loc 1) "own" (.cst .none)) .nil) (.cons (.ife (.cmp .Eq (.loc 2) (.cst (.str "word"))) (.cons (.exp (.met (.loc 1) "tell" (.cons (.loc 3) .nil))) .nil) .nil) .nil)) .nil)) .nil)) .nil)) .nil)
theorem cp_Machine_store : cP 100 (NE.of (stScope (mAt 48 4))) (stScope (mAt 48 4)) (stBody (mAt 48 4)) = some rp_Machine_store := by kernel_rfl
theorem in_Machine_store (cx : CxO C pw w hB os0 n) (y : KYP w hB) {sp : Spec} (h : ∀ vs σ Q X, (∀ b o, C.ro b = some o → σ b = none) → sp vs σ Q X → ∃ v0 v1 v2 v3, vs = [v0, v1, v2, v3] ∧ rsts C rp_Machine_store [some v0, some v1, some v2, some v3] σ ⟨fun _ σ' => Q .none σ', Q, fun _ _ => False, fun x _ σ' => X x σ'⟩) : Does pw w hB os0 (n + 1) (.ref 384) sp :=
  does_of cx y (c := 383) (st := mAt 48 4) (qual := "Machine.store") (pm := "grammarmill.machine") (tk := 494) (d := .none) (ps := [Str.ofString "self", Str.ofString "frame", Str.ofString "op", Str.ofString "worth"]) (by kernel_rfl) (List.contains_iff_mem.mp (by kernel_rfl)) (by kernel_rfl) (by kernel_rfl)
    (fun cvs h => by obtain ⟨c0, c1, c2, c3, rfl⟩ := len4 h; kernel_rfl) cp_Machine_store fun vs σ Q X ro hs => by
      obtain ⟨v0, v1, v2, v3, rfl, h⟩ := h vs σ Q X ro hs
      exact ⟨rfl, h⟩
noncomputable def rp__law_pen : RP := (.cons (.ret (.lst (.cons (.bi .list (.cons (.sli (.loc 0) .no (.some (.cst (.int 24)))) .nil)) (.cons (.cst (.int 0)) (.cons (.cst (.int 0)) .nil))))) .nil)
theorem cp__law_pen : cP 100 (NE.of (stScope (stAt 50))) (stScope (stAt 50)) (stBody (stAt 50)) = some rp__law_pen := by kernel_rfl
theorem in__law_pen (cx : CxO C pw w hB os0 n) (y : KYP w hB) {sp : Spec} (h : ∀ vs σ Q X, (∀ b o, C.ro b = some o → σ b = none) → sp vs σ Q X → ∃ v0, vs = [v0] ∧ rsts C rp__law_pen [some v0] σ ⟨fun _ σ' => Q .none σ', Q, fun _ _ => False, fun x _ σ' => X x σ'⟩) : Does pw w hB os0 (n + 1) (.ref 424) sp :=
  does_of cx y (c := 423) (st := stAt 50) (qual := "_law_pen") (pm := "law_on0172_01") (tk := 812) (d := .none) (ps := [Str.ofString "script"]) (by kernel_rfl) (List.contains_iff_mem.mp (by kernel_rfl)) (by kernel_rfl) (by kernel_rfl)
    (fun cvs h => by obtain ⟨c0, rfl⟩ := len1 h; kernel_rfl) cp__law_pen fun vs σ Q X ro hs => by
      obtain ⟨v0, rfl, h⟩ := h vs σ Q X ro hs
      exact ⟨rfl, h⟩
noncomputable def rp__law_draw : RP := (.cons (.ife (.cmp .Gt (.sub (.loc 0) (.cst (.int 2))) (.cst (.int 0))) (.cons (.setl 2 (.bin .Mod (.sub (.loc 0) (.cst (.int 2))) (.loc 1))) (.cons (.seti (.loc 0) (.cst (.int 2)) (.bin .FloorDiv (.sub (.loc 0) (.cst (.int 2))) (.loc 1))) (.cons (.ret (.loc 2)) .nil))) .nil) (.cons (.setl 3 (.sub (.loc 0) (.cst (.int 1)))) (.cons (.seti (.loc 0) (.cst (.int 1)) (.bin .Add (.loc 3) (.cst (.int 1)))) (.cons (.setl 4 (.bin .Add (.bin .Mult (.cst (.int 8527)) (.loc 3)) (.cst (.int 3299)))) (.cons (.ife (.cmp .Gt (.bi .len (.cons (.sub (.loc 0) (.cst (.int 0))) .nil)) (.cst (.int 0))) (.cons (.setl 4 (.sub (.sub (.loc 0) (.cst (.int 0))) (.bin .Mod (.loc 3) (.bi .len (.cons (.sub (.loc 0) (.cst (.int 0))) .nil))))) .nil) .nil) (.cons (.ife (.and (.cons (.cmp .Lt (.loc 3) (.bi .len (.cons (.sub (.loc 0) (.cst (.int 0))) .nil))) (.cons (.cmp .GtE (.bi .abs (.cons (.loc 4) .nil)) (.bin .Pow (.cst (.int 10)) (.cst (.int 18)))) .nil))) (.cons (.seti (.loc 0) (.cst (.int 2)) (.bin .Add (.bin .Mult (.cst (.int 2)) (.bin .Sub (.bi .abs (.cons (.loc 4) .nil)) (.bin .Pow (.cst (.int 10)) (.cst (.int 18))))) (.bi .int (.cons (.cmp .Lt (.loc 4) (.cst (.int 0))) .nil)))) (.cons (.setl 2 (.bin .Mod (.sub (.loc 0) (.cst (.int 2))) (.loc 1))) (.cons (.seti (.loc 0) (.cst (.int 2)) (.bin .FloorDiv (.sub (.loc 0) (.cst (.int 2))) (.loc 1))) (.cons (.ret (.loc 2)) .nil)))) .nil) (.cons (.setl 5 (.bin .Mod (.bin .Pow (.bin .Add (.bin .Add (.bin .Mod (.loc 4) (.cst (.int 2147483579))) (.bin .Mult (.cst (.int 92077)) (.loc 3))) (.cst (.int 5741))) (.cst (.int 3))) (.cst (.int 2147483647)))) (.cons (.setl 5 (.bin .Mod (.bin .Pow (.bin .Add (.bin .Add (.bin .Mult (.loc 5) (.bin .Add (.bin .Mult (.cst (.int 2)) (.loc 3)) (.cst (.int 373)))) (.bin .Mult (.cst (.int 65993)) (.loc 3))) (.cst (.int 4931))) (.cst (.int 3))) (.cst (.int 2147483629)))) (.cons (.ret (.bin .Mod (.bin .FloorDiv (.loc 5) (.cst (.int 32))) (.loc 1))) .nil)))))))))
theorem cp__law_draw : cP 100 (NE.of (stScope (stAt 51))) (stScope (stAt 51)) (stBody (stAt 51)) = some rp__law_draw := by kernel_rfl
theorem in__law_draw (cx : CxO C pw w hB os0 n) (y : KYP w hB) {sp : Spec} (h : ∀ vs σ Q X, (∀ b o, C.ro b = some o → σ b = none) → sp vs σ Q X → ∃ v0 v1, vs = [v0, v1] ∧ rsts C rp__law_draw [some v0, some v1, none, none, none, none] σ ⟨fun _ σ' => Q .none σ', Q, fun _ _ => False, fun x _ σ' => X x σ'⟩) : Does pw w hB os0 (n + 1) (.ref 431) sp :=
  does_of cx y (c := 430) (st := stAt 51) (qual := "_law_draw") (pm := "law_on0172_01") (tk := 812) (d := .none) (ps := [Str.ofString "pen", Str.ofString "many"]) (by kernel_rfl) (List.contains_iff_mem.mp (by kernel_rfl)) (by kernel_rfl) (by kernel_rfl)
    (fun cvs h => by obtain ⟨c0, c1, rfl⟩ := len2 h; kernel_rfl) cp__law_draw fun vs σ Q X ro hs => by
      obtain ⟨v0, v1, rfl, h⟩ := h vs σ Q X ro hs
      exact ⟨rfl, h⟩
noncomputable def rp__law_value : RP := (.cons (.setl 1 (.call "_law_draw" (.cons (.loc 0) (.cons (.cst (.int 7)) .nil)))) (.cons (.ife (.cmp .Eq (.loc 1) (.cst (.int 0))) (.cons (.ret (.lst (.cons (.tup (.cons (.cst (.str "push")) (.cons (.sub (.lst (.cons (.cst (.int 0)) (.cons (.cst (.int 7)) (.cons (.cst (.str "")) (.cons (.cst (.str "ab")) .nil))))) (.call "_law_draw" (.cons (.loc 0) (.cons (.cst (.int 4)) .nil)))) .nil))) .nil))) .nil) .nil) (.cons (.ife (.cmp .Eq (.loc 1) (.cst (.int 1))) (.cons (.ret (.lst (.cons (.tup (.cons (.cst (.str "arg")) (.cons (.bin .Add (.cst (.int 1)) (.call "_law_draw" (.cons (.loc 0) (.cons (.cst (.int 3)) .nil)))) .nil))) .nil))) .nil) .nil) (.cons (.ife (.cmp .Eq (.loc 1) (.cst (.int 2))) (.cons (.ret (.lst (.cons (.tup (.cons (.cst (.str "own")) (.cons (.cst .none) .nil))) .nil))) .nil) .nil) (.cons (.ife (.cmp .Eq (.loc 1) (.cst (.int 3))) (.cons (.ret (.lst (.cons (.tup (.cons (.cst (.str "arg")) (.cons (.cst (.int 1)) .nil))) (.cons (.tup (.cons (.cst (.str "get")) (.cons (.cst (.str "n")) .nil))) (.cons (.tup (.cons (.cst (.str "two")) (.cons (.sub (.lst (.cons (.cst (.str "+")) (.cons (.cst (.str "==")) (.cons (.cst (.str "<")) (.cons (.cst (.str "%")) .nil))))) (.call "_law_draw" (.cons (.loc 0) (.cons (.cst (.int 4)) .nil)))) .nil))) .nil))))) .nil) .nil) (.cons (.ife (.cmp .Eq (.loc 1) (.cst (.int 4))) (.cons (.ret (.lst (.cons (.tup (.cons (.cst (.str "get")) (.cons (.cst (.str "n")) .nil))) (.cons (.tup (.cons (.cst (.str "one")) (.cons (.sub (.lst (.cons (.cst (.str "-")) (.cons (.cst (.str "!")) .nil))) (.call "_law_draw" (.cons (.loc 0) (.cons (.cst (.int 2)) .nil)))) .nil))) (.cons (.tup (.cons (.cst (.str "truth")) (.cons (.cst .none) .nil))) .nil))))) .nil) .nil) (.cons (.ife (.cmp .Eq (.loc 1) (.cst (.int 5))) (.cons (.setl 2 (.call "_law_draw" (.cons (.loc 0) (.cons (.cst (.int 3)) .nil)))) (.cons (.ret (.bin .Add (.comp [none, none] (.rng (.loc 2)) 1 .no (.tup (.cons (.cst (.str "arg")) (.cons (.bin .Add (.cst (.int 1)) (.loc 1)) .nil)))) (.lst (.cons (.tup (.cons (.cst (.str "list")) (.cons (.loc 2) .nil))) .nil)))) .nil)) .nil) (.cons (.setl 3 (.sub (.bi .sorted (.cons (.glb "FUNCTIONS") .nil)) (.call "_law_draw" (.cons (.loc 0) (.cons (.bi .len (.cons (.glb "FUNCTIONS") .nil)) .nil))))) (.cons (.ret (.bin .Add (.comp [none, none] (.rng (.sub (.glb "FUNCTIONS") (.loc 3))) 1 .no (.tup (.cons (.cst (.str "arg")) (.cons (.bin .Add (.cst (.int 1)) (.loc 1)) .nil)))) (.lst (.cons (.tup (.cons (.cst (.str "apply")) (.cons (.loc 3) .nil))) .nil)))) .nil)))))))))
theorem cp__law_value : cP 100 (NE.of (stScope (stAt 52))) (stScope (stAt 52)) (stBody (stAt 52)) = some rp__law_value := by kernel_rfl
theorem in__law_value (cx : CxO C pw w hB os0 n) (y : KYP w hB) {sp : Spec} (h : ∀ vs σ Q X, (∀ b o, C.ro b = some o → σ b = none) → sp vs σ Q X → ∃ v0, vs = [v0] ∧ rsts C rp__law_value [some v0, none, none, none] σ ⟨fun _ σ' => Q .none σ', Q, fun _ _ => False, fun x _ σ' => X x σ'⟩) : Does pw w hB os0 (n + 1) (.ref 436) sp :=
  does_of cx y (c := 435) (st := stAt 52) (qual := "_law_value") (pm := "law_on0172_01") (tk := 812) (d := .none) (ps := [Str.ofString "pen"]) (by kernel_rfl) (List.contains_iff_mem.mp (by kernel_rfl)) (by kernel_rfl) (by kernel_rfl)
    (fun cvs h => by obtain ⟨c0, rfl⟩ := len1 h; kernel_rfl) cp__law_value fun vs σ Q X ro hs => by
      obtain ⟨v0, rfl, h⟩ := h vs σ Q X ro hs
      exact ⟨rfl, h⟩
noncomputable def rp__law_piece : RP := (.cons (.setl 2 (.call "_law_draw" (.cons (.loc 0) (.cons (.cst (.int 6)) .nil)))) (.cons (.setl 3 (.call "_law_value" (.cons (.loc 0) .nil))) (.cons (.ife (.cmp .Lt (.loc 2) (.cst (.int 3))) (.cons (.ret (.bin .Add (.loc 3) (.sli (.lst (.cons (.tup (.cons (.cst (.str "set")) (.cons (.cst .none) .nil))) (.cons (.tup (.cons (.cst (.str "put")) (.cons (.cst (.str "n")) .nil))) (.cons (.tup (.cons (.cst (.str "drop")) (.cons (.cst .none) .nil))) .nil)))) (.some (.loc 2)) (.some (.bin .Add (.loc 2) (.cst (.int 1))))))) .nil) .nil) (.cons (.ife (.cmp .Eq (.loc 2) (.cst (.int 3))) (.cons (.ret (.lst (.cons (.tup (.cons (.cst (.str "word")) (.cons (.sub (.lst (.cons (.cst (.str "yyerrok")) (.cons (.cst (.str "yyclearin")) (.cons (.cst (.str "YYERROR")) (.cons (.cst (.str "YYABORT")) (.cons (.cst (.str "YYACCEPT")) .nil)))))) (.call "_law_draw" (.cons (.loc 0) (.cons (.cst (.int 5)) .nil)))) .nil))) (.cons (.tup (.cons (.cst (.str "fresh")) (.cons (.cst .none) .nil))) .nil)))) .nil) .nil) (.cons (.setl 4 (.bin .Add (.call "_law_value" (.cons (.loc 0) .nil)) (.lst (.cons (.tup (.cons (.cst (.str "set")) (.cons (.cst .none) .nil))) .nil)))) (.cons (.setl 5 (.bin .Add (.bin .Add (.bin .Add (.loc 1) (.bi .len (.cons (.loc 3) .nil))) (.cst (.int 1))) (.bi .len (.cons (.loc 4) .nil)))) (.cons (.ife (.cmp .Eq (.loc 2) (.cst (.int 4))) (.cons (.ret (.bin .Add (.bin .Add (.loc 3) (.lst (.cons (.tup (.cons (.sub (.lst (.cons (.cst (.str "unless")) (.cons (.cst (.str "when")) .nil))) (.call "_law_draw" (.cons (.loc 0) (.cons (.cst (.int 2)) .nil)))) (.cons (.loc 5) .nil))) .nil))) (.loc 4))) .nil) .nil) (.cons (.ret (.bin .Add (.bin .Add (.bin .Add (.loc 3) (.lst (.cons (.tup (.cons (.cst (.str "unless")) (.cons (.bin .Add (.loc 5) (.cst (.int 1))) .nil))) .nil))) (.loc 4)) (.lst (.cons (.tup (.cons (.cst (.str "jump")) (.cons (.loc 1) .nil))) .nil)))) .nil))))))))
theorem cp__law_piece : cP 100 (NE.of (stScope (stAt 53))) (stScope (stAt 53)) (stBody (stAt 53)) = some rp__law_piece := by kernel_rfl
theorem in__law_piece (cx : CxO C pw w hB os0 n) (y : KYP w hB) {sp : Spec} (h : ∀ vs σ Q X, (∀ b o, C.ro b = some o → σ b = none) → sp vs σ Q X → ∃ v0 v1, vs = [v0, v1] ∧ rsts C rp__law_piece [some v0, some v1, none, none, none, none] σ ⟨fun _ σ' => Q .none σ', Q, fun _ _ => False, fun x _ σ' => X x σ'⟩) : Does pw w hB os0 (n + 1) (.ref 443) sp :=
  does_of cx y (c := 442) (st := stAt 53) (qual := "_law_piece") (pm := "law_on0172_01") (tk := 812) (d := .none) (ps := [Str.ofString "pen", Str.ofString "begun"]) (by kernel_rfl) (List.contains_iff_mem.mp (by kernel_rfl)) (by kernel_rfl) (by kernel_rfl)
    (fun cvs h => by obtain ⟨c0, c1, rfl⟩ := len2 h; kernel_rfl) cp__law_piece fun vs σ Q X ro hs => by
      obtain ⟨v0, v1, rfl, h⟩ := h vs σ Q X ro hs
      exact ⟨rfl, h⟩
noncomputable def rp__law_any : RP := (.cons (.ret (.sub (.lst (.cons (.tup (.cons (.cst (.str "push")) (.cons (.cst (.int 1)) .nil))) (.cons (.tup (.cons (.cst (.str "drop")) (.cons (.cst .none) .nil))) (.cons (.tup (.cons (.cst (.str "jump")) (.cons (.call "_law_draw" (.cons (.loc 0) (.cons (.bin .Add (.loc 1) (.cst (.int 2))) .nil))) .nil))) (.cons (.tup (.cons (.cst (.str "when")) (.cons (.call "_law_draw" (.cons (.loc 0) (.cons (.bin .Add (.loc 1) (.cst (.int 2))) .nil))) .nil))) (.cons (.tup (.cons (.cst (.str "two")) (.cons (.cst (.str "&&")) .nil))) (.cons (.tup (.cons (.cst (.str "list")) (.cons (.neg (.cst (.int 1))) .nil))) (.cons (.tup (.cons (.cst (.str "arg")) (.cons (.cst (.int 0)) .nil))) (.cons (.tup (.cons (.cst (.str "set")) (.cons (.cst (.int 1)) .nil))) (.cons (.tup (.cons (.cst (.str "apply")) (.cons (.cst (.str "none")) .nil))) (.cons (.tup (.cons (.cst (.str "word")) (.cons (.cst (.str "yyok")) .nil))) (.cons (.tup (.cons (.cst (.str "get")) (.cons (.cst (.str "")) .nil))) (.cons (.tup (.cons (.cst (.str "one")) (.cons (.cst (.str "+")) .nil))) (.cons (.tup (.cons (.cst (.str "lone")) (.cons (.cst .none) .nil))) (.cons (.tup (.cons (.cst (.str "two")) (.cons (.cst (.str "*")) .nil))) (.cons (.tup (.cons (.cst (.str "own")) (.cons (.cst .none) .nil))) (.cons (.tup (.cons (.cst (.str "list")) (.cons (.cst (.int 2)) .nil))) (.cons (.tup (.cons (.cst (.str "push")) (.cons (.cst .none) .nil))) (.cons (.tup (.cons (.cst (.str "unless")) (.cons (.cst (.str "1")) .nil))) (.cons (.tup (.cons (.cst (.str "fresh")) (.cons (.cst .none) .nil))) (.cons (.tup (.cons (.cst (.str "truth")) (.cons (.cst .none) .nil))) .nil))))))))))))))))))))) (.call "_law_draw" (.cons (.loc 0) (.cons (.cst (.int 20)) .nil))))) .nil)
theorem cp__law_any : cP 100 (NE.of (stScope (stAt 54))) (stScope (stAt 54)) (stBody (stAt 54)) = some rp__law_any := by kernel_rfl
theorem in__law_any (cx : CxO C pw w hB os0 n) (y : KYP w hB) {sp : Spec} (h : ∀ vs σ Q X, (∀ b o, C.ro b = some o → σ b = none) → sp vs σ Q X → ∃ v0 v1, vs = [v0, v1] ∧ rsts C rp__law_any [some v0, some v1] σ ⟨fun _ σ' => Q .none σ', Q, fun _ _ => False, fun x _ σ' => X x σ'⟩) : Does pw w hB os0 (n + 1) (.ref 450) sp :=
  does_of cx y (c := 449) (st := stAt 54) (qual := "_law_any") (pm := "law_on0172_01") (tk := 812) (d := .none) (ps := [Str.ofString "pen", Str.ofString "size"]) (by kernel_rfl) (List.contains_iff_mem.mp (by kernel_rfl)) (by kernel_rfl) (by kernel_rfl)
    (fun cvs h => by obtain ⟨c0, c1, rfl⟩ := len2 h; kernel_rfl) cp__law_any fun vs σ Q X ro hs => by
      obtain ⟨v0, v1, rfl, h⟩ := h vs σ Q X ro hs
      exact ⟨rfl, h⟩
noncomputable def rp__law_stands : RP := (.cons (.set2 2 3 (.loc 0)) (.cons (.ife (.cmp .In (.loc 2) (.tup (.cons (.cst (.str "jump")) (.cons (.cst (.str "unless")) (.cons (.cst (.str "when")) .nil))))) (.cons (.ret (.ife (.and (.cons (.isi (.loc 3) ["int"]) (.cons (.cmp2 .LtE .LtE (.cst (.int 0)) (.loc 3) (.loc 1)) .nil))) (.tup (.cons (.bi .int (.cons (.cmp .NotEq (.loc 2) (.cst (.str "jump"))) .nil)) (.cons (.cst (.int 0)) .nil))) (.cst .none))) .nil) .nil) (.cons (.ife (.cmp .Eq (.loc 2) (.cst (.str "push"))) (.cons (.ret (.ife (.or (.cons (.isi (.loc 3) ["int"]) (.cons (.isi (.loc 3) ["str"]) .nil))) (.tup (.cons (.cst (.int 0)) (.cons (.cst (.int 1)) .nil))) (.cst .none))) .nil) .nil) (.cons (.ife (.cmp .In (.loc 2) (.tup (.cons (.cst (.str "arg")) (.cons (.cst (.str "list")) .nil)))) (.cons (.ife (.or (.cons (.not (.isi (.loc 3) ["int"])) (.cons (.cmp .Lt (.loc 3) (.ife (.cmp .Eq (.loc 2) (.cst (.str "arg"))) (.cst (.int 1)) (.cst (.int 0)))) .nil))) (.cons (.ret (.cst .none)) .nil) .nil) (.cons (.ret (.ife (.cmp .Eq (.loc 2) (.cst (.str "list"))) (.tup (.cons (.loc 3) (.cons (.cst (.int 1)) .nil))) (.tup (.cons (.cst (.int 0)) (.cons (.cst (.int 1)) .nil))))) .nil)) .nil) (.cons (.ife (.cmp .In (.loc 2) (.tup (.cons (.cst (.str "get")) (.cons (.cst (.str "put")) .nil)))) (.cons (.ret (.ife (.cmp .Eq (.loc 3) (.cst (.str ""))) (.cst .none) (.ife (.cmp .Eq (.loc 2) (.cst (.str "get"))) (.tup (.cons (.cst (.int 0)) (.cons (.cst (.int 1)) .nil))) (.tup (.cons (.cst (.int 1)) (.cons (.cst (.int 0)) .nil)))))) .nil) .nil) (.cons (.ife (.cmp .Eq (.loc 2) (.cst (.str "two"))) (.cons (.ret (.ife (.cmp .In (.loc 3) (.tup (.cons (.cst (.str "==")) (.cons (.cst (.str "!=")) (.cons (.cst (.str "<")) (.cons (.cst (.str "<=")) (.cons (.cst (.str ">")) (.cons (.cst (.str ">=")) (.cons (.cst (.str "+")) (.cons (.cst (.str "-")) (.cons (.cst (.str "*")) (.cons (.cst (.str "/")) (.cons (.cst (.str "%")) .nil))))))))))))) (.tup (.cons (.cst (.int 2)) (.cons (.cst (.int 1)) .nil))) (.cst .none))) .nil) .nil) (.cons (.ife (.cmp .Eq (.loc 2) (.cst (.str "one"))) (.cons (.ret (.ife (.cmp .In (.loc 3) (.tup (.cons (.cst (.str "-")) (.cons (.cst (.str "!")) .nil)))) (.tup (.cons (.cst (.int 1)) (.cons (.cst (.int 1)) .nil))) (.cst .none))) .nil) .nil) (.cons (.ife (.cmp .Eq (.loc 2) (.cst (.str "apply"))) (.cons (.ret (.ife (.cmp .In (.loc 3) (.glb "FUNCTIONS")) (.tup (.cons (.sub (.glb "FUNCTIONS") (.loc 3)) (.cons (.cst (.int 1)) .nil))) (.cst .none))) .nil) .nil) (.cons (.ife (.cmp .Eq (.loc 2) (.cst (.str "word"))) (.cons (.ret (.ife (.cmp .In (.loc 3) (.tup (.cons (.cst (.str "yyerrok")) (.cons (.cst (.str "yyclearin")) (.cons (.cst (.str "YYERROR")) (.cons (.cst (.str "YYABORT")) (.cons (.cst (.str "YYACCEPT")) .nil))))))) (.tup (.cons (.cst (.int 0)) (.cons (.cst (.int 0)) .nil))) (.cst .none))) .nil) .nil) (.cons (.setl 4 (.ds5 "own" "set" "drop" "truth" "fresh" (.cons (.tup (.cons (.cst (.int 0)) (.cons (.cst (.int 1)) .nil))) (.cons (.tup (.cons (.cst (.int 1)) (.cons (.cst (.int 0)) .nil))) (.cons (.tup (.cons (.cst (.int 1)) (.cons (.cst (.int 0)) .nil))) (.cons (.tup (.cons (.cst (.int 1)) (.cons (.cst (.int 1)) .nil))) (.cons (.tup (.cons (.cst (.int 0)) (.cons (.cst (.int 0)) .nil))) .nil))))))) (.cons (.ret (.ife (.cmp .Is (.loc 3) (.cst .none)) (.met (.loc 4) "get" (.cons (.loc 2) .nil)) (.cst .none))) .nil)))))))))))
theorem cp__law_stands : cP 100 (NE.of (stScope (stAt 55))) (stScope (stAt 55)) (stBody (stAt 55)) = some rp__law_stands := by kernel_rfl
theorem in__law_stands (cx : CxO C pw w hB os0 n) (y : KYP w hB) {sp : Spec} (h : ∀ vs σ Q X, (∀ b o, C.ro b = some o → σ b = none) → sp vs σ Q X → ∃ v0 v1, vs = [v0, v1] ∧ rsts C rp__law_stands [some v0, some v1, none, none, none] σ ⟨fun _ σ' => Q .none σ', Q, fun _ _ => False, fun x _ σ' => X x σ'⟩) : Does pw w hB os0 (n + 1) (.ref 457) sp :=
  does_of cx y (c := 456) (st := stAt 55) (qual := "_law_stands") (pm := "law_on0172_01") (tk := 812) (d := .none) (ps := [Str.ofString "pair", Str.ofString "size"]) (by kernel_rfl) (List.contains_iff_mem.mp (by kernel_rfl)) (by kernel_rfl) (by kernel_rfl)
    (fun cvs h => by obtain ⟨c0, c1, rfl⟩ := len2 h; kernel_rfl) cp__law_stands fun vs σ Q X ro hs => by
      obtain ⟨v0, v1, rfl, h⟩ := h vs σ Q X ro hs
      exact ⟨rfl, h⟩
noncomputable def rp__law_depths : RP := (.cons (.setl 1 (.bi .len (.cons (.loc 0) .nil))) (.cons (.ife (.cmp .NotEq (.comp [none, none, some 1] (.val (.loc 0)) 1 (.some (.cmp .Is (.call "_law_stands" (.cons (.loc 1) (.cons (.loc 2) .nil))) (.cst .none))) (.loc 1)) (.lst .nil)) (.cons (.ret (.cst .none)) .nil) .nil) (.cons (.setl 2 (.di1 0 (.cst (.int 0)))) (.cons (.for1 3 (.rng (.bin .Add (.loc 1) (.cst (.int 1)))) (.cons (.for1 4 (.rng (.loc 1)) (.cons (.ife (.cmp .In (.loc 4) (.loc 2)) (.cons (.set2 5 6 (.sub (.loc 0) (.loc 4))) (.cons (.set2 7 8 (.call "_law_stands" (.cons (.sub (.loc 0) (.loc 4)) (.cons (.loc 1) .nil)))) (.cons (.ife (.cmp .Gt (.loc 7) (.sub (.loc 2) (.loc 4))) (.cons (.ret (.cst .none)) .nil) .nil) (.cons (.setl 9 (.ife (.cmp .Eq (.loc 5) (.cst (.str "jump"))) (.lst (.cons (.loc 6) .nil)) (.ife (.cmp .In (.loc 5) (.tup (.cons (.cst (.str "unless")) (.cons (.cst (.str "when")) .nil)))) (.lst (.cons (.bin .Add (.loc 4) (.cst (.int 1))) (.cons (.loc 6) .nil))) (.lst (.cons (.bin .Add (.loc 4) (.cst (.int 1))) .nil))))) (.cons (.ife (.and (.cons (.cmp .Eq (.loc 5) (.cst (.str "word"))) (.cons (.cmp .Eq (.sli (.loc 6) .no (.some (.cst (.int 2)))) (.cst (.str "YY"))) .nil))) (.cons (.setl 9 (.lst .nil)) .nil) .nil) (.cons (.for1 10 (.val (.loc 9)) (.cons (.ife (.cmp .NotEq (.met (.loc 2) "setdefault" (.cons (.loc 10) (.cons (.bin .Add (.bin .Sub (.sub (.loc 2) (.loc 4)) (.loc 7)) (.loc 8)) .nil))) (.bin .Add (.bin .Sub (.sub (.loc 2) (.loc 4)) (.loc 7)) (.loc 8))) (.cons (.ret (.cst .none)) .nil) .nil) .nil)) .nil)))))) .nil) .nil)) .nil)) (.cons (.ret (.ife (.cmp .Gt (.met (.loc 2) "get" (.cons (.loc 1) (.cons (.cst (.int 0)) .nil))) (.cst (.int 0))) (.cst .none) (.loc 2))) .nil)))))
theorem cp__law_depths : cP 100 (NE.of (stScope (stAt 56))) (stScope (stAt 56)) (stBody (stAt 56)) = some rp__law_depths := by kernel_rfl
theorem in__law_depths (cx : CxO C pw w hB os0 n) (y : KYP w hB) {sp : Spec} (h : ∀ vs σ Q X, (∀ b o, C.ro b = some o → σ b = none) → sp vs σ Q X → ∃ v0, vs = [v0] ∧ rsts C rp__law_depths [some v0, none, none, none, none, none, none, none, none, none, none] σ ⟨fun _ σ' => Q .none σ', Q, fun _ _ => False, fun x _ σ' => X x σ'⟩) : Does pw w hB os0 (n + 1) (.ref 462) sp :=
  does_of cx y (c := 461) (st := stAt 56) (qual := "_law_depths") (pm := "law_on0172_01") (tk := 812) (d := .none) (ps := [Str.ofString "code"]) (by kernel_rfl) (List.contains_iff_mem.mp (by kernel_rfl)) (by kernel_rfl) (by kernel_rfl)
    (fun cvs h => by obtain ⟨c0, rfl⟩ := len1 h; kernel_rfl) cp__law_depths fun vs σ Q X ro hs => by
      obtain ⟨v0, rfl, h⟩ := h vs σ Q X ro hs
      exact ⟨rfl, h⟩
noncomputable def rp__law_run_right : RP := (.cons (.ife (.cmp .NotEq (.comp [none, none] (.val (.loc 1)) 1 (.some (.cmp .Eq (.sub (.loc 1) (.cst (.int 0))) (.cst (.str "word")))) (.loc 1)) (.lst .nil)) (.cons (.ret (.cst (.bool true))) .nil) .nil) (.cons (.setl 2 (.lst (.cons (.cst (.int 0)) (.cons (.cst (.int 5)) (.cons (.cst (.str "")) (.cons (.cst (.str "xy")) (.cons (.tup .nil) (.cons (.tup (.cons (.cst (.int 1)) (.cons (.cst (.str "a")) .nil))) (.cons (.cst .none) .nil))))))))) (.cons (.for1 3 (.rng (.cst (.int 2))) (.cons (.setl 4 (.comp [none, none, some 0, some 2] (.rng (.cst (.int 3))) 1 .no (.sub (.loc 3) (.call "_law_draw" (.cons (.loc 2) (.cons (.cst (.int 7)) .nil)))))) (.cons (.try1 (.cons (.exp (.met (.call "Machine" (.cons (.cst (.int 40)) .nil)) "run" (.cons (.loc 1) (.cons (.loc 4) (.cons (.ds1 "n" (.sub (.loc 2) (.call "_law_draw" (.cons (.loc 0) (.cons (.cst (.int 7)) .nil))))) (.cons (.cst .none) (.cons (.sub (.loc 2) (.call "_law_draw" (.cons (.loc 0) (.cons (.cst (.int 7)) .nil)))) .nil))))))) .nil) "MachineError" 5 "the stack is empty" false) .nil))) (.cons (.ret (.cst (.bool true))) .nil))))
theorem cp__law_run_right : cP 100 (NE.of (stScope (stAt 57))) (stScope (stAt 57)) (stBody (stAt 57)) = some rp__law_run_right := by kernel_rfl
theorem in__law_run_right (cx : CxO C pw w hB os0 n) (y : KYP w hB) {sp : Spec} (h : ∀ vs σ Q X, (∀ b o, C.ro b = some o → σ b = none) → sp vs σ Q X → ∃ v0 v1, vs = [v0, v1] ∧ rsts C rp__law_run_right [some v0, some v1, none, none, none, none] σ ⟨fun _ σ' => Q .none σ', Q, fun _ _ => False, fun x _ σ' => X x σ'⟩) : Does pw w hB os0 (n + 1) (.ref 467) sp :=
  does_of cx y (c := 466) (st := stAt 57) (qual := "_law_run_right") (pm := "law_on0172_01") (tk := 812) (d := .none) (ps := [Str.ofString "pen", Str.ofString "code"]) (by kernel_rfl) (List.contains_iff_mem.mp (by kernel_rfl)) (by kernel_rfl) (by kernel_rfl)
    (fun cvs h => by obtain ⟨c0, c1, rfl⟩ := len2 h; kernel_rfl) cp__law_run_right fun vs σ Q X ro hs => by
      obtain ⟨v0, v1, rfl, h⟩ := h vs σ Q X ro hs
      exact ⟨rfl, h⟩
noncomputable def rp_law : RP := (.cons (.setl 1 (.call "_law_pen" (.cons (.loc 0) .nil))) (.cons (.for1 2 (.rng (.cst (.int 3))) (.cons (.setl 3 (.lst .nil)) (.cons (.for1 4 (.rng (.bin .Add (.cst (.int 1)) (.call "_law_draw" (.cons (.loc 1) (.cons (.cst (.int 4)) .nil))))) (.cons (.exp (.met (.loc 3) "extend" (.cons (.call "_law_piece" (.cons (.loc 1) (.cons (.bi .len (.cons (.loc 3) .nil)) .nil))) .nil))) .nil)) (.cons (.ife (.cmp .Eq (.call "_law_draw" (.cons (.loc 1) (.cons (.cst (.int 2)) .nil))) (.cst (.int 0))) (.cons (.setl 5 (.call "_law_draw" (.cons (.loc 1) (.cons (.bi .len (.cons (.loc 3) .nil)) .nil)))) (.cons (.setl 3 (.bin .Add (.bin .Add (.sli (.loc 3) .no (.some (.loc 5))) (.lst (.cons (.call "_law_any" (.cons (.loc 1) (.cons (.bi .len (.cons (.loc 3) .nil)) .nil))) .nil))) (.sli (.loc 3) (.some (.bin .Add (.loc 5) (.cst (.int 1)))) .no))) .nil)) .nil) (.cons (.setl 6 (.bi .list (.cons (.loc 3) .nil))) (.cons (.setl 7 (.call "_law_depths" (.cons (.loc 3) .nil))) (.cons (.setl 8 (.cst (.bool true))) (.cons (.try0 (.cons (.exp (.call "check_code" (.cons (.loc 3) .nil))) .nil) "ActionError" 8 false) (.cons (.ife (.or (.cons (.cmp .NotEq (.loc 8) (.cmp .IsNot (.loc 7) (.cst .none))) (.cons (.cmp .NotEq (.loc 3) (.loc 6)) .nil))) (.cons (.ret (.cst (.bool false))) .nil) .nil) (.cons (.ife (.loc 8) (.cons (.ife (.or (.cons (.cmp .NotEq (.call "most_depth" (.cons (.loc 3) .nil)) (.bi .max (.cons (.dvals 7) .nil))) (.cons (.not (.call "_law_run_right" (.cons (.loc 1) (.cons (.loc 3) .nil)))) .nil))) (.cons (.ret (.cst (.bool false))) .nil) .nil) (.cons (.setl 10 (.met (.call "show_code" (.cons (.loc 3) .nil)) "split" (.cons (.cst (.str "\n")) .nil))) (.cons (.setl 11 (.lst .nil)) (.cons (.for2 9 12 (.enm (.loc 3)) (.cons (.setl 13 (.ife (.cmp .Is (.sub (.loc 12) (.cst (.int 1))) (.cst .none)) (.cst (.str "")) (.bin .Add (.cst (.str " ")) (.ife (.isi (.sub (.loc 12) (.cst (.int 1))) ["int"]) (.bi .str (.cons (.sub (.loc 12) (.cst (.int 1))) .nil)) (.bi .repr (.cons (.sub (.loc 12) (.cst (.int 1))) .nil)))))) (.cons (.exp (.met (.loc 11) "append" (.cons (.bin .Add (.bin .Add (.bin .Add (.bi .str (.cons (.loc 9) .nil)) (.cst (.str " "))) (.sub (.loc 12) (.cst (.int 0)))) (.loc 13)) .nil))) .nil))) (.cons (.ife (.or (.cons (.cmp .NotEq (.loc 10) (.loc 11)) (.cons (.cmp .NotEq (.loc 3) (.loc 6)) .nil))) (.cons (.ret (.cst (.bool false))) .nil) .nil) .nil))))) .nil) .nil)))))))))) (.cons (.ret (.cst (.bool true))) .nil)))
theorem cp_law : cP 100 (NE.of (stScope (stAt 58))) (stScope (stAt 58)) (stBody (stAt 58)) = some rp_law := by kernel_rfl
end
theorem base_of {w : World} {s₀ : Shared} {mg mb : Str → Option Value} {h : Heap} {R : WRecords} (G : Ground vw loose R (fun _ _ => True) w s₀ mg mb h) (y : KYP w h) : Base pw h where
  lim := G.T.nolimit
  seer := G.T.seer (by kernel_rfl)
  dig := G.T.nodigits
  tree := by kernel_rfl
  mods := Option.isSome_iff_exists.mp (by
    obtain ⟨o, e⟩ := Option.isSome_iff_exists.mp (show ((KF w.params).lookup 1).isSome = true by kernel_rfl)
    rw [show h.get? sysModules = some o from y.In 1 o e]; rfl)
theorem well_ints {P : Params} {h : Heap} {vs : List Value} {ds : List WData} (x : WellAll P h vs ds) : (∀ d ∈ ds, WShape.has [] d .int = true) → ∃ ns : List Int, ds = ns.map .int ∧ RvL h vs (ns.map .int) := by
  revert vs
  induction ds with
  | nil => exact fun {vs} x _ => by cases x; exact ⟨[], rfl, .nil⟩
  | cons d ds ih =>
    intro vs x k
    cases x with
    | cons hv hl =>
      obtain ⟨ns, e, r⟩ := ih hl fun d hd => k d (.tail _ hd)
      have k1 := k d (.head _)
      cases hv with
      | int i t => exact ⟨i :: ns, congrArg (_ :: ·) e, .cons (.int i t) r⟩
      | _ => exact bft k1
theorem items_has {R : WRecords} {sh : WShape} {ds : List WData} : WShape.hasItems R ds sh = true → ∀ d ∈ ds, WShape.has R d sh = true := by
  induction ds with
  | nil => exact fun _ => nofun
  | cons x xs ih => exact fun h => List.forall_mem_cons.mpr ⟨(and2 h).1, ih (and2 h).2⟩
theorem script_of {w : World} {h : Heap} {args : List WData} {vals : List Value} (hp : WShape.hasAll [] args [.list .int] = true) (hw : WellAll w.params h vals args) :
    ∃ (la : Addr) (vs : List Value) (ns : List Int), args = [.list (ns.map .int)] ∧ vals = [.ref la] ∧ h.PlainList la vs.toArray ∧ RvL h vs (ns.map .int) := by
  obtain ⟨d, r, rfl, h1, h2⟩ := hasAllW_cons hp
  obtain rfl := hasAllW_nil h2
  cases hw with | cons hv hl => cases hl with | nil =>
  cases hv with
  | list hg hl =>
    obtain ⟨ns, e, r⟩ := well_ints hl (items_has (R := []) (by
      exact (Bool.or_false _).symm.trans h1))
    exact ⟨_, _, ns, by rw [e], rfl, ⟨0, hg⟩, r⟩
  | _ => exact bft h1
theorem law_parts : lawD.body = stBody (stAt 58) ∧ lawD.scope = stScope (stAt 58) ∧ lawD.params.args.map (·.arg) = [Str.ofString "script"] := ⟨by kernel_rfl, by kernel_rfl, by kernel_rfl⟩
theorem short_of {ns : List Int} (h : PySem.Challenge.rw_on0172_01.row.pre.holds [] { args := [.list (ns.map .int)] } = true) : ns.length ≤ 63 := by
  have e : PySem.Challenge.rw_on0172_01.row.pre = .and (.not (.lt (.lit (.int 63)) (.len (.arg 0)))) (.lit (.bool true)) := by kernel_rfl
  rw [e] at h
  simp only [WTm.holds, WTm.value, List.getElem?_cons_zero, List.length_map] at h
  have q : less? (WData.int 63) (WData.int (ns.length : Int)) = some (decide ((63 : Int) < (ns.length : Int))) := rfl
  rw [q] at h
  by_cases c : (63 : Int) < (ns.length : Int)
  · rw [decide_eq_true c] at h; exact bft h
  · omega
noncomputable def lawM (la : Addr) : M := some (.ref la) :: List.replicate 13 none
noncomputable def LawRight : Prop := ∀ (w : World) (hB : Heap) (os0 : OsState) (la : Addr) (ns : List Int), Bed w hB la ns → ns.length ≤ 63 → ∃ (C : Cx) (n : Nat), n ≤ 90 ∧ CxO C pw w hB os0 n ∧
  ∀ (Q : PQ) (X : PXx), (∀ σ', Q (.bool true) σ') → rsts C rp_law (lawM la) (fun _ => none) ⟨fun _ σ' => Q .none σ', Q, fun _ _ => False, fun x _ σ' => X x σ'⟩
noncomputable def lawSp (la : Addr) : Spec := fun vs σ Q X => vs = [.ref la] ∧ σ = (fun _ => none) ∧ ∀ σ', Q (.bool true) σ'
theorem law_does {w : World} {hB : Heap} {os0 : OsState} {la : Addr} {n : Nat} {C : Cx} (cx : CxO C pw w hB os0 n) (hr : ∀ (Q : PQ) (X : PXx), (∀ σ', Q (.bool true) σ') → rsts C rp_law (lawM la) (fun _ => none) ⟨fun _ σ' => Q .none σ', Q, fun _ _ => False, fun x _ σ' => X x σ'⟩)
    {a : Addr} {o : Obj} {pm cd doc : Value} (ho : hB.get? a = some o) (hd : o.data = .func { docDef lawD.name lawD.params lawD.body lawD.scope pm cd doc with defaults := .none, kwdefaults := .none }) (hcd : hB.CodeRec cd lawD.name) : Does pw w hB os0 (n + 1) (.ref a) (lawSp la) := by
  refine fun_does (ps := [Str.ofString "script"]) (fuel := 100) (rp := rp_law) (body := stBody (stAt 58)) cx ho hd hcd (congrArg _ law_parts.1) rfl rfl rfl (funSc_of (by kernel_rfl)) (fun s cvs _ h => .of_eq (by obtain ⟨c, rfl⟩ := len1 h; kernel_rfl)) (by kernel_rfl) fun vs σ Q X _ hs => ?_
  obtain ⟨rfl, rfl, hq⟩ := hs
  exact ⟨rfl, hr Q X hq⟩
theorem linked (hl : LawRight) : WalkO vw loose (fun _ _ => True) KYP PySem.Challenge.rw_on0172_01.row.toRowW lawD [] fun f vs => PySem.call f vs := by
  intro w s₀ s₁ mg mb G y a o pm cd doc dV kV ho hd hcd hD hmg hg args vals as hpre hlay hrd hwl hlo
  obtain ⟨hp1, hp2⟩ := pre_splitW hpre
  obtain ⟨la, vs, ns, rfl, rfl, hpl, hr⟩ := script_of hp1 hwl
  have h63 := short_of hp2
  have hla : (la == sysModules) = false := hlo la (by cases hrd with | cons hv _ => cases hv; simp)
  have bd : Bed w s₁.heap la ns := ⟨y, base_of G y, ⟨vs, hpl, hr, by rw [List.length_map]; exact Nat.le_trans h63 (by decide +kernel)⟩, hla⟩
  obtain ⟨C, n, hn, cx, hrs⟩ := hl w s₁.heap s₁.os la ns bd h63
  have hdV : dV = .none := (hD.pos.resolve_right fun q => q.1 (by kernel_rfl)).2
  have hkV : kV = .none := (hD.kw.resolve_right fun q => q.1 rfl).2
  subst hdV hkV
  have d := law_does cx hrs ho hd hcd
  refine wpAny_call (codeAny_mono (d callerA [] (fun _ => none) s₁ [.ref la] [.ref la] (fun v σ' => v = .bool true) (fun _ _ => False) (fun _ _ => False) rfl ⟨fun _ _ e => e, nofun, ⟨[], rfl, trivial, nofun⟩, rfl, ?_, ?_, hg, rfl⟩ (.cons (.ref _) .nil) ⟨rfl, rfl, fun _ => rfl⟩ fun x σ' ev s' _ hX => hX.elim) fun r s' z => ?_)
  · show 301 + 4 * (n + 1) ≤ 800; lia
  · show 4 + 60 * (n + 1) ≤ 6000; lia
  · cases r with
    | error e => exact z.elim
    | ok f =>
      cases f with
      | ret cv =>
        obtain ⟨v, σ', b1, b2, b3, rfl⟩ := z
        cases b2
        exact ⟨.inl ⟨_, .bool true, [], rfl, fun cls => rfl, .bool true, by kernel_rfl, fun _ => ⟨.nil, nofun⟩⟩, .of_keep b1.st, b1.os, .of_eq b1.gens⟩
      | next => exact z.elim
      | brk => exact z.elim
      | cont => exact z.elim
section
variable {w : World} {hB : Heap} {os0 : OsState} {n : Nat} {C : Cx} {la : Addr} {ns : List Int} {σ : AS}
noncomputable def spIsNumber : Spec := fun vs σ Q X => on1 vs fun v => onB (!v.isRef) (Q (.bool (isOf (Str.ofString "int") v)) σ) False
theorem does_is_number (cx : CxO C pw w hB os0 n) (y : KYP w hB) : Does pw w hB os0 (n + 1) (.ref 86) spIsNumber :=
  in_is_number cx y fun vs σ Q X ro h => by
    obtain ⟨v, rfl, h⟩ := on1_inv h
    exact ⟨v, rfl, h⟩
theorem eqB_plain {v : V} (h : plainB v = true) : eqB σ v = true := by cases v <;> first | exact h | exact bft h
theorem eq2 {v u : V} (hv : eqB σ v = true) (hu : eqB σ u = true) : (eqB σ v && eqB σ u) = true := by rw [hv, hu]; rfl
noncomputable def spIsTrue : Spec := fun vs σ Q X => on1 vs fun v => onB (plainB v) (∀ b, Q (.bool b) σ) False
theorem does_is_true (cx : CxO C pw w hB os0 n) (y : KYP w hB) : Does pw w hB os0 (n + 1) (.ref 93) spIsTrue :=
  in_is_true cx y fun vs σ Q X ro h => by
    obtain ⟨v, rfl, h⟩ := on1_inv h
    obtain ⟨hv, h⟩ := onB_inv h
    have e {u : V} (hu : plainB u = true) : (eqB σ v && eqB σ u) = true := eq2 (eqB_plain hv) (eqB_plain hu)
    exact ⟨v, rfl, onB_of (fun _ => onB_i (e rfl) (onB_of (fun _ => onB_i (e rfl) (onB_of (fun _ => onB_i (e rfl) (h _)) fun _ => h _)) fun _ => h _)) fun _ => h _⟩
noncomputable def spNeed : Spec := fun vs σ Q X => on2 vs fun b t => onBool b fun b => onStr t fun t => onB b (Q .none σ) (X ⟨74, .str t⟩ σ)
theorem does_need (cx : CxO C pw w hB os0 n) (y : KYP w hB) (hx : C.X (Str.ofString "MachineError") = some 74) : Does pw w hB os0 (n + 1) (.ref 187) spNeed :=
  in_need cx y fun vs σ Q X ro h => by
    obtain ⟨b, t, rfl, h⟩ := on2_inv h
    obtain ⟨b, rfl, h⟩ := onBool_inv h
    obtain ⟨t, rfl, h⟩ := onStr_inv h
    refine ⟨_, _, rfl, ?_⟩
    cases b with
    | true => exact h
    | false => exact oS_i hx h
end
mutual
noncomputable def V.good : V → Prop
  | .none => True
  | .bool _ => False
  | .int i => i.natAbs < 2 ^ 540
  | .str s => s.length ≤ 2000
  | .tup l => l.length ≤ 2000 ∧ V.goods l
  | .ref _ => False
noncomputable def V.goods : List V → Prop
  | [] => True
  | v :: l => V.good v ∧ V.goods l
end
theorem V.goods_iff : ∀ {l : List V}, V.goods l ↔ ∀ v ∈ l, V.good v
  | [] => ⟨fun _ _ h => (nomatch h), fun _ => trivial⟩
  | v :: l => ⟨fun h x hx => by
      rcases List.mem_cons.mp hx with rfl | hx
      · exact h.1
      · exact V.goods_iff.mp h.2 x hx, fun h => ⟨h v (.head _), V.goods_iff.mpr fun x hx => h x (.tail _ hx)⟩⟩
theorem V.deps_le {d : Nat} : ∀ {l : List V}, V.deps l ≤ d ↔ ∀ v ∈ l, v.dep ≤ d
  | [] => ⟨fun _ _ h => (nomatch h), fun _ => Nat.zero_le _⟩
  | v :: l => ⟨fun h x hx => by
      have h : max v.dep (V.deps l) ≤ d := h
      rcases List.mem_cons.mp hx with rfl | hx
      · exact Nat.le_trans (Nat.le_max_left _ _) h
      · exact V.deps_le.mp (Nat.le_trans (Nat.le_max_right _ _) h) x hx, fun h => Nat.max_le.mpr ⟨h v (.head _), V.deps_le.mpr fun x hx => h x (.tail _ hx)⟩⟩
theorem V.good.nref {v : V} (h : v.good) : v.isRef = false := by cases v <;> first | rfl | exact False.elim h
mutual
theorem V.good.flat : ∀ {v : V}, v.good → v.flat = true
  | .none, _ | .int _, _ | .str _, _ => rfl
  | .tup l, h => V.goods.flat h.2
  | .bool _, h => False.elim h
  | .ref _, h => False.elim h
theorem V.goods.flat : ∀ {l : List V}, V.goods l → V.flats l = true
  | [], _ => rfl
  | v :: l, h => Bool.and_eq_true_iff.mpr ⟨V.good.flat h.1, V.goods.flat h.2⟩
end
noncomputable def Ext (σ σ' : AS) : Prop := ∀ a, σ a ≠ none → σ' a = σ a
theorem Ext.refl {σ : AS} : Ext σ σ := fun _ _ => rfl
theorem Ext.trans {σ₁ σ₂ σ₃ : AS} (a : Ext σ₁ σ₂) (b : Ext σ₂ σ₃) : Ext σ₁ σ₃ := fun x h => (b x (a x h ▸ h)).trans (a x h)
theorem Ext.new {σ : AS} {c : Addr} {o : AO} (h : σ c = none) : Ext σ (σ.set c o) := fun x hx => AS.set_ne σ o fun (q : x = c) => hx (by rw [q]; exact h)
theorem Ext.turn {σ σ' : AS} {c : Addr} {o : AO} (x : Ext σ σ') (h : σ c = none) : Ext σ (σ'.set c o) := fun a ha => (AS.set_ne σ' o fun (q : a = c) => ha (by rw [q]; exact h)).trans (x a ha)
noncomputable def fails (X : PXx) (σ : AS) : Prop := ∀ t σ', Ext σ σ' → t ≠ Str.ofString "the stack is empty" → X ⟨74, .str t⟩ σ'
structure Gives (σ : AS) (Q : PQ) (X : PXx) (p : V → Prop) : Prop where
  q : ∀ v σ', Ext σ σ' → p v → Q v σ'
  x : fails X σ
noncomputable def V.gd (d : Nat) (v : V) : Prop := v.good ∧ v.dep ≤ d
theorem good_int {i : Int} (h : i.natAbs ≤ 1000000) : (V.int i).good := Nat.lt_of_le_of_lt h (by decide +kernel)
theorem gd_int {i : Int} {d : Nat} (h : i.natAbs ≤ 1000000) : (V.int i).gd d := ⟨good_int h, Nat.zero_le _⟩
theorem gd_bool {b : Bool} {d : Nat} : (V.int (if b then 1 else 0)).gd d := gd_int (by cases b <;> decide)
theorem V.gd.up {v : V} {d e : Nat} (h : v.gd d) (q : d ≤ e) : v.gd e := ⟨h.1, Nat.le_trans h.2 q⟩
theorem V.good.nb {v : V} (h : v.good) : (!v.isRef) = true := by rw [h.nref]; rfl
theorem V.gd.plain {v : V} {d : Nat} (h : v.gd d) (hd : d ≤ 60) : plainB v = true := Bool.and_eq_true_iff.mpr ⟨h.1.flat, decide_eq_true (Nat.le_trans h.2 hd)⟩
theorem post_gen {C : Cx} {rp : RP} {m : M} {σ : AS} {Q : PQ} {X : PXx} (h : ∀ P : Post, (∀ v σ, Q v σ → P.r v σ) → (∀ x m σ, X x σ → P.x x m σ) → (∀ m σ, Q .none σ → P.n m σ) → rsts C rp m σ P) : rsts C rp m σ ⟨fun _ σ' => Q .none σ', Q, fun _ _ => False, fun x _ σ' => X x σ'⟩ :=
  h _ (fun _ _ h => h) (fun _ _ _ h => h) fun _ _ h => h
theorem hidP {C : Cx} {rp : RP} {m : M} {σ : AS} {P₀ : Post} (h : ∀ P : Post, (∀ m σ, P₀.n m σ → P.n m σ) → (∀ v σ, P₀.r v σ → P.r v σ) → rsts C rp m σ P) : rsts C rp m σ P₀ := h P₀ (fun _ _ h => h) fun _ _ h => h
theorem hidN {C : Cx} {rp : RP} {m : M} {σ : AS} {P₀ : Post} (h : ∀ P : Post, (∀ m σ, P₀.n m σ → P.n m σ) → rsts C rp m σ P) : rsts C rp m σ P₀ := h P₀ fun _ _ h => h
theorem hidNX {C : Cx} {rp : RP} {m : M} {σ : AS} {P₀ : Post} (h : ∀ P : Post, (∀ m σ, P₀.n m σ → P.n m σ) → (∀ x m σ, P₀.x x m σ → P.x x m σ) → rsts C rp m σ P) : rsts C rp m σ P₀ := h P₀ (fun _ _ h => h) fun _ _ _ h => h
theorem give_gen {C : Cx} {rp : RP} {m : M} {σ : AS} {Q : PQ} {X : PXx} {p : V → Prop} (g : Gives σ Q X p) (h : ∀ P : Post, (∀ v σ', Ext σ σ' → p v → P.r v σ') → (∀ m, fails (fun x σ₁ => P.x x m σ₁) σ) → rsts C rp m σ P) :
    rsts C rp m σ ⟨fun _ σ' => Q .none σ', Q, fun _ _ => False, fun x _ σ' => X x σ'⟩ := h _ g.q fun _ => g.x
noncomputable def V.raw : V → Prop
  | .bool _ => False
  | .ref _ => False
  | _ => True
noncomputable def V.small : V → Prop
  | .int i => Builtin.Int.intBits i ≤ 512
  | .str s => s.length ≤ 2000
  | .tup l => l.length ≤ 2000
  | _ => True
theorem not_gt {a b : Int} (h : decide (a > b) = false) : a ≤ b := Int.not_lt.mp (of_decide_eq_false h)
section
variable {w : World} {hB : Heap} {os0 : OsState} {n : Nat} {la : Addr} {ns : List Int} {fns : List (Str × Spec)} {mes : List ((Addr × Str) × Spec)} {xs : List (Str × Addr)}
noncomputable def spBounded : Spec := fun vs σ Q X => on1 vs fun v => v.raw ∧ (v.small → Q v σ) ∧ fails X σ
theorem does_bounded (cx : CxO (kC w la ns fns mes xs) pw w hB os0 n) (y : KYP w hB) (hx : xs.lookup (Str.ofString "MachineError") = some 74) (h1 : fns.lookup (Str.ofString "is_number") = some spIsNumber) : Does pw w hB os0 (n + 1) (.ref 100) spBounded :=
  in_bounded cx y fun vs σ Q X ro h => by
    obtain ⟨v, rfl, hv, hq, hf⟩ := on1_inv h
    refine ⟨v, rfl, post_gen fun P hr hxx _ => oS_i h1 ?_⟩
    have bad : ∀ t m, t ≠ Str.ofString "the stack is empty" → P.x ⟨74, .str t⟩ m σ := fun t m h => hxx _ _ _ (hf t σ Ext.refl h)
    cases v with
    | int i => exact ⟨.ty "int", rfl, trivial, rfl, onB_of (fun _ => oS_i hx (bad _ _ (by decide +kernel))) fun q => hr _ _ (hq (Int.ofNat_le.mp (not_gt q)))⟩
    | none => exact hr _ _ (hq trivial)
    | str t => exact onB_of (fun _ => oS_i hx (bad _ _ (by decide +kernel))) fun q => hr _ _ (hq (Int.ofNat_le.mp (not_gt q)))
    | tup l => exact onB_of (fun _ => oS_i hx (bad _ _ (by decide +kernel))) fun q => hr _ _ (hq (Int.ofNat_le.mp (not_gt q)))
    | bool _ => exact False.elim hv
    | ref _ => exact False.elim hv
end
noncomputable def fit (v u : V) : Bool := (isOf (Str.ofString "int") v && isOf (Str.ofString "int") u) || (isOf (Str.ofString "str") v && isOf (Str.ofString "str") u)
noncomputable def fitE (i j : Nat) : RE := .or (.cons (.and (.cons (.call "is_number" (.cons (.loc i) .nil)) (.cons (.call "is_number" (.cons (.loc j) .nil)) .nil))) (.cons (.and (.cons (.isi (.loc i) ["str"]) (.cons (.isi (.loc j) ["str"]) .nil))) .nil))
theorem both_ok {C : Cx} (T : Str) {i j : Nat} {m : M} {σ : AS} {v u : V} (hv : m[i]? = some (some v)) (hu : m[j]? = some (some u)) (rv : (!v.isRef) = true) (ru : (!u.isRef) = true) {Q : PQ} {E : PXx} (h : Q (.bool (isOf T v && isOf T u)) σ) :
    rev C (.and (.cons (.isi (.loc i) [T]) (.cons (.isi (.loc j) [T]) .nil))) m σ Q E :=
  oS_i hv (onB_i rv (onB_of (fun e => oS_i hu (onB_i ru (by rw [show isOf T v = true from e] at h; exact h))) fun e => by
    show Q (.bool (isOf T v)) σ
    rw [show isOf T v = false from e] at h ⊢; exact h))
theorem fit_ok {C : Cx} (h1 : C.S (Str.ofString "is_number") = some spIsNumber) {i j : Nat} {m : M} {σ : AS} {v u : V} (hv : m[i]? = some (some v)) (hu : m[j]? = some (some u)) (rv : (!v.isRef) = true) (ru : (!u.isRef) = true) {Q : PQ} {E : PXx} (h : Q (.bool (fit v u)) σ) : rev C (fitE i j) m σ Q E := by
  refine oS_i h1 (oS_i hv (onB_i rv (onB_of (fun e => oS_i h1 (oS_i hu (onB_i ru (onB_of (fun e' => ?_) fun e' => ?_)))) fun e => ?_)))
  · unfold fit at h; rw [show isOf (Str.ofString "int") u = true from e', show isOf (Str.ofString "int") v = true from e] at h
    show Q (.bool (isOf (Str.ofString "int") u)) σ
    rw [show isOf (Str.ofString "int") u = true from e']; exact h
  · refine both_ok (Str.ofString "str") hv hu rv ru ?_
    unfold fit at h; rw [show isOf (Str.ofString "int") u = false from e', Bool.and_false] at h; exact h
  · refine onB_n e (both_ok (Str.ofString "str") hv hu rv ru ?_)
    unfold fit at h; rw [show isOf (Str.ofString "int") v = false from e] at h; exact h
theorem V.deps_append : ∀ (l r : List V), V.deps (l ++ r) = max (V.deps l) (V.deps r)
  | [], r => (Nat.max_eq_right (Nat.zero_le _)).symm
  | v :: l, r => by
    show max (V.dep v) (V.deps (l ++ r)) = max (max (V.dep v) (V.deps l)) (V.deps r)
    rw [V.deps_append l r, Nat.max_assoc]
theorem V.goods_append {l r : List V} (h : V.goods l) (h' : V.goods r) : V.goods (l ++ r) := V.goods_iff.mpr fun v hv => (List.mem_append.mp hv).elim (V.goods_iff.mp h v) (V.goods_iff.mp h' v)
theorem V.goods_sub {l r : List V} (h : V.goods l) (s : ∀ x ∈ r, x ∈ l) : V.goods r := V.goods_iff.mpr fun v hv => V.goods_iff.mp h v (s v hv)
theorem V.deps_sub {l r : List V} (s : ∀ x ∈ r, x ∈ l) : V.deps r ≤ V.deps l := V.deps_le.mpr fun v hv => V.deps_le.mp (Nat.le_refl _) v (s v hv)
structure Fit (d : Nat) (r : V) : Prop where
  raw : r.raw
  gd : r.small → r.gd d
theorem bits_small {i : Int} (h : Builtin.Int.intBits i ≤ 512) : i.natAbs < 2 ^ 540 := Nat.lt_of_lt_of_le (intBits_le_iff.mp h) (Nat.pow_le_pow_right (n := 2) (by exact Nat.le_add_left _ _) (by exact Nat.le_add_left _ _))
theorem Fit.int {d : Nat} {i : Int} : Fit d (.int i) := ⟨trivial, fun s => ⟨bits_small s, Nat.zero_le _⟩⟩
theorem Fit.str {d : Nat} {i : Str} : Fit d (.str i) := ⟨trivial, fun s => ⟨s, Nat.zero_le _⟩⟩
theorem snoc_cases {α : Type} (l : List α) : l = [] ∨ ∃ r x, l = r ++ [x] := by
  rcases List.eq_nil_or_concat l with h | ⟨r, x, h⟩
  · exact .inl h
  · exact .inr ⟨r, x, by rw [h, List.concat_eq_append]⟩
theorem pyAt_list {σ : AS} {a : Addr} {l : List V} (h : σ a = some (.list l)) : pyAt σ (.ref a) = .list (V.pys l) := by
  show (match σ a with | some (.list l) => PyData.list (V.pys l) | _ => .none) = _
  rw [h]
theorem kind_list {C : Cx} {σ : AS} {a : Addr} {l : List V} (h : σ a = some (.list l)) : mkind C σ (.ref a) = some (.ty "list") := by
  unfold mkind; simp only [h]
theorem free_list {σ : AS} {a : Addr} {l : List V} {x : Str} (h : σ a = some (.list l)) : mfree σ (.ref a) x := fun K dx q => by rw [h] at q; cases q
theorem eqB_list {σ : AS} {a : Addr} {l : List V} (h : σ a = some (.list l)) (hf : V.flats l = true) (hd : V.deps l ≤ 60) : eqB σ (.ref a) = true := by
  show listB (σ a) = true
  rw [h]
  exact Bool.and_eq_true_iff.mpr ⟨hf, decide_eq_true hd⟩
theorem met_list {C : Cx} {σ : AS} {a : Addr} {l : List V} {x : Str} {k : MK → Prop} (h : σ a = some (.list l)) (q : k (.ty "list")) (hx : (mname "list" x).isSome = true := by rfl) : metG C σ (.ref a) x k := ⟨_, kind_list h, free_list h, hx, q⟩
theorem len_list {o r : Option AO} {l : List V} {k : List V → Prop} {kd : List (Str × V) → Prop} (h : o = some (.list l)) (q : k l) : oLn o r k kd := by cases h; exact q
theorem len_ds {o r : Option AO} {l : List (Str × V)} {k : List V → Prop} {kd : List (Str × V) → Prop} (h : o = none) (h' : r = some (.ds l)) (q : kd l) : oLn o r k kd := by cases h; exact oDs_i h' q
theorem ne_nil {C : Cx} {σ : AS} {a : Addr} {l : List V} {Q : PQ} (h : σ a = some (.list l)) (hf : V.flats l = true) (hd : V.deps l ≤ 60) (q : ∀ d, σ d = none → d ≠ a → Q (.bool !l.isEmpty) (σ.set d (.list []))) :
    anew C (.list []) σ fun u σ₂ => acmp C .NotEq (.ref a) u σ₂ Q := fun d hd' _ => by
  have hdc : d ≠ a := fun q => by rw [q, h] at hd'; exact no3 hd'
  have h' : σ.set d (.list []) a = some (.list l) := (AS.set_ne σ _ (Ne.symm hdc)).trans h
  refine onB_i (eq2 (eqB_list h' hf hd) (eqB_list (AS.set_same _ _ _) rfl (Nat.zero_le _))) ?_
  rw [pyAt_list h', pyAt_list (AS.set_same _ _ _)]
  have e : (!PyData.eqv (.list (V.pys l)) (.list (V.pys []))) = !l.isEmpty := by cases l <;> rfl
  rw [e]
  exact q d hd' hdc
theorem set_of {σ : AS} {a d : Addr} {o x : AO} (h : σ a = some o) (hd : σ d = none) : σ.set d x a = some o := (AS.set_ne σ x fun q => by rw [q, hd] at h; exact no1 h).trans h
theorem add_fit {C : Cx} {σ : AS} {v u : V} {Q : PQ} (gv : v.good) (gu : u.good) (hq : ∀ r, Fit (max v.dep u.dep) r → Q r σ) (h : (fit v u || (isOf (Str.ofString "tuple") v && isOf (Str.ofString "tuple") u)) = true) : abin C .Add v u σ Q := by
  cases v with
  | int a => cases u <;> first | exact hq _ .int | exact gu.elim | exact bft h
  | str a => cases u with
    | str b => exact onB_i (decide_eq_true (Nat.le_trans (Nat.add_le_add (show a.length ≤ 2000 from gv) (show b.length ≤ 2000 from gu)) (by decide +kernel))) (hq _ .str)
    | _ => first | exact gu.elim | exact bft h
  | tup a => cases u with
    | tup b =>
      exact onB_i (decide_eq_true (Nat.le_trans (Nat.add_le_add gv.1 gu.1) (by decide +kernel))) (hq _ ⟨trivial, fun s => ⟨⟨s, V.goods_append gv.2 gu.2⟩, by
        show V.deps (a ++ b) + 1 ≤ max (V.deps a + 1) (V.deps b + 1)
        rw [V.deps_append]; lia⟩⟩)
    | _ => first | exact gu.elim | exact bft h
  | none => cases u <;> first | exact gu.elim | exact bft h
  | bool _ => exact gv.elim
  | ref _ => exact gv.elim
section
variable {w : World} {hB : Heap} {os0 : OsState} {n : Nat} {la : Addr} {ns : List Int} {fns : List (Str × Spec)} {mes : List ((Addr × Str) × Spec)} {xs : List (Str × Addr)}
noncomputable def spAdded : Spec := fun vs σ Q X => on2 vs fun v u => v.good ∧ u.good ∧ Gives σ Q X (Fit (max v.dep u.dep))
theorem does_added (cx : CxO (kC w la ns fns mes xs) pw w hB os0 n) (y : KYP w hB) (hx : xs.lookup (Str.ofString "MachineError") = some 74) (h1 : fns.lookup (Str.ofString "is_number") = some spIsNumber) : Does pw w hB os0 (n + 1) (.ref 107) spAdded :=
  in_added cx y fun vs σ Q X ro h => by
    obtain ⟨v, u, rfl, gv, gu, g⟩ := on2_inv h
    refine ⟨v, u, rfl, post_gen fun P hr hxx _ => fit_ok (C := kC w la ns fns mes xs) h1 (i := 0) (j := 1) rfl rfl gv.nb gu.nb ?_⟩
    have yes : (fit v u || (isOf (Str.ofString "tuple") v && isOf (Str.ofString "tuple") u)) = true → abin (kC w la ns fns mes xs) .Add v u σ P.r := fun c => add_fit gv gu (fun r h => hr _ _ (g.q r σ Ext.refl h)) c
    refine onB_of (fun e => onB_i e (yes (by rw [show fit v u = true from e]; rfl))) fun e => both_ok (Str.ofString "tuple") (i := 0) (j := 1) rfl rfl gv.nb gu.nb (onB_of (fun c => yes (by rw [c, Bool.or_true])) fun _ => oS_i hx (hxx _ _ _ (g.x _ _ Ext.refl (by decide +kernel))))
inductive SpCompared (vs : List V) (σ : AS) (Q : PQ) (X : PXx) : Prop where
  | mk : ∀ v u, (vs = [.str (Str.ofString "<"), v, u]) → (v.good) → (u.good) → (Gives σ Q X (V.gd 0)) → SpCompared vs σ Q X
noncomputable def spCompared : Spec := SpCompared
theorem does_compared (cx : CxO (kC w la ns fns mes xs) pw w hB os0 n) (y : KYP w hB) (hx : xs.lookup (Str.ofString "MachineError") = some 74) (h1 : fns.lookup (Str.ofString "is_number") = some spIsNumber) : Does pw w hB os0 (n + 1) (.ref 114) spCompared :=
  in_compared cx y fun vs σ Q X ro ⟨v, u, e, gv, gu, g⟩ => ⟨_, v, u, e, by
    refine post_gen fun P hr hxx _ => fit_ok (C := kC w la ns fns mes xs) h1 (i := 1) (j := 2) rfl rfl gv.nb gu.nb (onB_of (fun e => oS_i hx (hxx _ _ _ (g.x _ _ Ext.refl (by decide +kernel)))) fun e => ?_)
    have fn : fit v u = true := by cases q : fit v u with | true => rfl | false => rw [q] at e; exact btf e
    cases v with
    | int a => cases u with
      | int b => exact hr _ _ (g.q _ _ Ext.refl gd_bool)
      | _ => first | exact gu.elim | exact bft fn
    | str a => cases u with
      | str b => exact fun b => hr _ _ (g.q _ _ Ext.refl gd_bool)
      | _ => first | exact gu.elim | exact bft fn
    | _ => first | exact gv.elim | (cases u <;> first | exact gu.elim | exact bft fn)⟩
end
section
variable {w : World} {hB : Heap} {os0 : OsState} {n : Nat} {la : Addr} {ns : List Int} {fns : List (Str × Spec)} {mes : List ((Addr × Str) × Spec)} {xs : List (Str × Addr)}
noncomputable def spPartCount : Spec := fun vs σ Q X => on1 vs fun v => v.gd 60 ∧ ∀ n σ', Ext σ σ' → Q (.int n) σ'
theorem does_part_count (cx : CxO (kC w la ns fns mes xs) pw w hB os0 n) (y : KYP w hB) : Does pw w hB os0 (n + 1) (.ref 121) spPartCount :=
  in_part_count cx y fun vs σ Q X ro h => by
    obtain ⟨v, rfl, gv, hq⟩ := on1_inv h
    refine ⟨v, rfl, post_gen fun P hr _ _ => fun c hc _ => ?_⟩
    refine ⟨fun k m' σ' => ∃ (l : List V) (j : Nat) (p : Option V), m' = [some v, some (.ref c), some (.int j), p] ∧ σ' c = some (.list l) ∧ Ext σ σ' ∧ V.goods l ∧ V.deps l ≤ 60 ∧ l.length ≤ 1 + 2000 * j ∧ j ≤ 301 ∧ k = 301 - j, ⟨301, [v], 0, none, rfl, AS.set_same _ _ _, Ext.new hc, ⟨gv.1, trivial⟩, Nat.max_le.mpr ⟨gv.2, Nat.zero_le _⟩, Nat.le_refl 1, Nat.zero_le _, rfl⟩, ?_⟩
    rintro k m' σ' ⟨l, j, p, rfl, hl, hE, hg, hd, hz, hj, rfl⟩
    refine ne_nil hl hg.flat hd fun d hd' hdc => ?_
    have hl' : σ'.set d (.list []) c = some (.list l) := set_of hl hd'
    have hE' : Ext σ (σ'.set d (.list [])) := hE.trans (Ext.new hd')
    rcases snoc_cases l with rfl | ⟨r, x, rfl⟩
    · exact hr _ _ (hq j _ hE')
    rw [show (r ++ [x]).isEmpty = false by cases r <;> rfl]
    refine onB_of (fun q => ?_) fun _ => hr _ _ (hq j _ hE')
    have q : j ≤ 300 := Int.ofNat_le.mp (of_decide_eq_true q)
    have gx : x.gd 60 := ⟨V.goods_iff.mp hg x (by simp), V.deps_le.mp hd x (by simp)⟩
    have gr : V.goods r ∧ V.deps r ≤ 60 := ⟨V.goods_sub hg fun x h => by simp [h], Nat.le_trans (V.deps_sub fun x h => by simp [h]) hd⟩
    rw [List.length_append] at hz
    have hz : r.length + 1 ≤ 1 + 2000 * j := hz
    have hσ : Ext σ ((σ'.set d (.list [])).set c (.list r)) := hE'.turn hc
    have more : ∀ (σ' : AS) (l : List V), Ext σ σ' → σ' c = some (.list l) → V.goods l → V.deps l ≤ 60 → l.length ≤ r.length + 2000 → ∃ i, i < 301 - j ∧ ∃ (l : List V) (j' : Nat) (p : Option V), [some v, some (.ref c), some (.int ((j : Int) + 1)), some x] = [some v, some (.ref c), some (.int j'), p] ∧ σ' c = some (.list l) ∧ Ext σ σ' ∧ V.goods l ∧ V.deps l ≤ 60 ∧ l.length ≤ 1 + 2000 * j' ∧ j' ≤ 301 ∧ i = 301 - j' :=
      fun σ' l e1 e2 e3 e4 e5 => ⟨301 - (j + 1), by grind, l, j + 1, _, rfl, e2, e1, e3, e4, by lia, by exact Nat.succ_le_succ ‹_›, rfl⟩
    refine met_list hl' ⟨r, x, hl', onB_i gx.1.nb (onB_of (fun t => ?_) fun _ => more _ r hσ (AS.set_same _ _ _) gr.1 gr.2 (by exact Nat.le_add_right _ _))⟩
    cases x with
    | tup l =>
      refine met_list (AS.set_same _ _ _) fun f hf _ => ?_
      have hfc : f ≠ c := fun q => by rw [q, AS.set_same] at hf; exact no3 hf
      refine oL_i (set_of (AS.set_same _ _ _) hf) (oL_i (AS.set_same _ _ _) ⟨⟨Ne.symm hfc, ?_⟩, more _ _ ((hσ.trans (Ext.new hf)).turn hc) (AS.set_same _ _ _) (V.goods_append gr.1 gx.1.2) (by rw [V.deps_append]; exact Nat.max_le.mpr ⟨gr.2, Nat.le_trans (Nat.le_succ _) gx.2⟩) (by rw [List.length_append]; exact Nat.add_le_add_left gx.1.1 _)⟩)
      have : l.length ≤ 2000 := gx.1.1
      show r.length + l.length ≤ 1000000
      lia
    | _ => first | exact gx.1.elim | exact bft t
end
theorem pow_small : 2 ^ 540 < 2 ^ 1000 := Nat.pow_lt_pow_right (by omega) (by omega)
theorem fmod_small {a b : Int} (h : b ≠ 0) (hb : b.natAbs < 2 ^ 540) : (a.fmod b).natAbs < 2 ^ 540 := by
  refine Nat.lt_of_le_of_lt ?_ hb
  rcases Int.lt_or_gt_of_ne h with c | c
  · have e : a.fmod b = -((-a).fmod (-b)) := by rw [Int.fmod_def, Int.fmod_def, Int.neg_fdiv_neg]; rw [Int.neg_mul, Int.sub_neg]; omega
    have h1 := Int.fmod_nonneg_of_pos (-a) (show 0 < -b by omega)
    have h2 := Int.fmod_lt_of_pos (-a) (show 0 < -b by omega)
    omega
  · have h1 := Int.fmod_nonneg_of_pos a c
    have h2 := Int.fmod_lt_of_pos a c
    omega
noncomputable def signs : List Str := [Str.ofString "+", Str.ofString "==", Str.ofString "<", Str.ofString "%", Str.ofString "*"]
theorem isInt_inv {v : V} (h : isOf (Str.ofString "int") v = true) (g : v.good) : ∃ i, v = .int i := by
  cases v with
  | int i => exact ⟨i, rfl⟩
  | bool b => exact g.elim
  | _ => exact bft h
section
variable {w : World} {hB : Heap} {os0 : OsState} {n : Nat} {la : Addr} {ns : List Int} {fns : List (Str × Spec)} {mes : List ((Addr × Str) × Spec)} {xs : List (Str × Addr)}
noncomputable def spAreEqual : Spec := fun vs σ Q X => on2 vs fun v u => v.gd 60 ∧ u.gd 60 ∧ (∀ b σ', Ext σ σ' → Q (.bool b) σ') ∧ fails X σ
theorem does_are_equal (cx : CxO (kC w la ns fns mes xs) pw w hB os0 n) (y : KYP w hB) (hx : xs.lookup (Str.ofString "MachineError") = some 74) (h1 : fns.lookup (Str.ofString "part_count") = some spPartCount) : Does pw w hB os0 (n + 1) (.ref 128) spAreEqual :=
  in_are_equal cx y fun vs σ Q X ro h => by
    obtain ⟨v, u, rfl, gv, gu, hq, hf⟩ := on2_inv h
    refine ⟨v, u, rfl, post_gen fun P hr hxx _ => ?_⟩
    have bad : ∀ σ' m, Ext σ σ' → P.x ⟨74, .str (Str.ofString "lists that are too great to be compared")⟩ m σ' := fun σ' m e => hxx _ _ _ (hf _ σ' e (by decide +kernel))
    exact oS_i h1 ⟨gv, fun n σ₁ e₁ => onB_of (fun c => onB_i c (oS_i hx (bad _ _ e₁))) fun _ => oS_i h1 ⟨gu, fun n σ₂ e₂ => onB_of (fun _ => oS_i hx (bad _ _ (e₁.trans e₂)))
      fun _ => onB_i (eq2 (eqB_plain (gv.plain (Nat.le_refl _))) (eqB_plain (gu.plain (Nat.le_refl _)))) (hr _ _ (hq _ _ (e₁.trans e₂)))⟩⟩
inductive SpTwoWorth (vs : List V) (σ : AS) (Q : PQ) (X : PXx) : Prop where
  | mk : ∀ s v u d, (vs = [.str s, v, u]) → (s ∈ signs) → (v.gd d) → (u.gd d) → (d ≤ 60) → (Gives σ Q X (V.gd d)) → SpTwoWorth vs σ Q X
noncomputable def spTwoWorth : Spec := SpTwoWorth
theorem does_two_worth (cx : CxO (kC w la ns fns mes xs) pw w hB os0 n) (y : KYP w hB) (hx : xs.lookup (Str.ofString "MachineError") = some 74) (h1 : fns.lookup (Str.ofString "is_number") = some spIsNumber) (h2 : fns.lookup (Str.ofString "are_equal") = some spAreEqual) (h3 : fns.lookup (Str.ofString "compared") = some spCompared)
    (h4 : fns.lookup (Str.ofString "added") = some spAdded) (h5 : fns.lookup (Str.ofString "bounded") = some spBounded) : Does pw w hB os0 (n + 1) (.ref 135) spTwoWorth :=
  in_two_worth cx y fun vs σ Q X ro ⟨s, v, u, d, e, hs, gv, gu, hd, g⟩ => ⟨_, v, u, e, post_gen fun P hr hxx _ => by
    have q : ∀ v σ', Ext σ σ' → v.gd d → P.r v σ' := fun v σ' e h => hr _ _ (g.q v σ' e h)
    have f : ∀ m, fails (fun x σ₁ => P.x x m σ₁) σ := fun m t σ' e h => hxx _ _ _ (g.x t σ' e h)
    clear e g hr hxx; revert s
    refine all_cons ?_ (all_cons ?_ (all_cons ?_ (all_cons ?_ (all_cons ?_ all_nil))))
    · exact oS_i h5 (oS_i h4 ⟨gv.1, gu.1, fun r σ' e fr => ⟨fr.raw, fun s => q _ _ e ((fr.gd s).up (Nat.max_le.mpr ⟨gv.2, gu.2⟩)), fun t σ'' e' h => f _ t σ'' (e.trans e') h⟩, f _⟩)
    · exact oS_i h2 ⟨gv.up hd, gu.up hd, fun b σ' e => q _ _ e gd_bool, f _⟩
    · exact oS_i h3 ⟨v, u, rfl, gv.1, gu.1, fun r σ' e h => q _ _ e (h.up (Nat.zero_le _)), f _⟩
    · refine oS_i h1 (onB_i gv.1.nb (onB_of (fun c => onB_i c (oS_i hx (f _ _ σ Ext.refl (by decide +kernel)))) fun c => oS_i h1 (onB_i gu.1.nb (onB_of (fun _ => oS_i hx (f _ _ σ Ext.refl (by decide +kernel))) fun c' => ?_))))
      obtain ⟨i, rfl⟩ := isInt_inv (v := v) (by simpa using c) gv.1
      obtain ⟨j, rfl⟩ := isInt_inv (v := u) (by simpa using c') gu.1
      refine onB_of (fun _ => oS_i hx (f _ _ σ Ext.refl (by decide +kernel))) fun z => ?_
      have hj : j ≠ 0 := fun q => by rw [q] at z; exact btf z
      exact ⟨hj, q _ _ Ext.refl ⟨fmod_small hj gu.1, Nat.zero_le _⟩⟩
    · refine oS_i h1 (onB_i gv.1.nb (onB_of (fun c => onB_i c (oS_i hx (f _ _ σ Ext.refl (by decide +kernel)))) fun c => oS_i h1 (onB_i gu.1.nb (onB_of (fun _ => oS_i hx (f _ _ σ Ext.refl (by decide +kernel))) fun c' => ?_))))
      obtain ⟨i, rfl⟩ := isInt_inv (v := v) (by simpa using c) gv.1
      obtain ⟨j, rfl⟩ := isInt_inv (v := u) (by simpa using c') gu.1
      exact oS_i h5 ⟨.inr ⟨Nat.lt_trans gv.1 pow_small, Nat.lt_trans gu.1 pow_small⟩, trivial, fun s => q _ _ Ext.refl ⟨bits_small s, Nat.zero_le _⟩, f _⟩⟩
inductive SpOneWorth (vs : List V) (σ : AS) (Q : PQ) (X : PXx) : Prop where
  | mk : ∀ s v d, (vs = [.str s, v]) → (s = Str.ofString "!" ∨ s = Str.ofString "-") → (v.gd d) → (d ≤ 60) → (Gives σ Q X (V.gd d)) → SpOneWorth vs σ Q X
noncomputable def spOneWorth : Spec := SpOneWorth
theorem does_one_worth (cx : CxO (kC w la ns fns mes xs) pw w hB os0 n) (y : KYP w hB) (hx : xs.lookup (Str.ofString "MachineError") = some 74) (h1 : fns.lookup (Str.ofString "is_number") = some spIsNumber) (h2 : fns.lookup (Str.ofString "is_true") = some spIsTrue) : Does pw w hB os0 (n + 1) (.ref 142) spOneWorth :=
  in_one_worth cx y fun vs σ Q X ro ⟨s, v, d, e, hs, gv, hd, g⟩ => ⟨_, v, e, post_gen fun P hr hxx _ => by
    rcases hs with rfl | rfl
    · exact oS_i h2 (onB_i (gv.plain hd) fun b => hr _ _ (g.q _ _ Ext.refl (gd_bool (b := !b))))
    · refine oS_i h1 (onB_i gv.1.nb (onB_of (fun c => oS_i hx (hxx _ _ _ (g.x _ _ Ext.refl (by decide +kernel)))) fun c => ?_))
      obtain ⟨i, rfl⟩ := isInt_inv (v := v) (by simpa using c) gv.1
      exact hr _ _ (g.q _ _ Ext.refl ⟨show (-i).natAbs < 2 ^ 540 by rw [Int.natAbs_neg]; exact gv.1, Nat.zero_le _⟩)⟩
end
theorem text_small {i : Int} (h : i.natAbs < 2 ^ 540) : (Str.ofString (toString i)).length ≤ 2000 := by
  have e := int_text_length_le (a := i) (k := 1920) (by decide) (digits_bound (Nat.lt_trans h (Nat.pow_lt_pow_right (by exact Nat.le_add_left _ _) (by exact Nat.le_add_left _ _))))
  rw [PySem.ofString_length]; exact Nat.le_trans ‹_› (by decide)
section
variable {w : World} {hB : Heap} {os0 : OsState} {n : Nat} {la : Addr} {ns : List Int} {fns : List (Str × Spec)} {mes : List ((Addr × Str) × Spec)} {xs : List (Str × Addr)}
noncomputable def spNeedList : Spec := fun vs σ Q X => on1 vs fun v => v.good ∧ (∀ l, v = .tup l → Q v σ) ∧ fails X σ
theorem does_need_list (cx : CxO (kC w la ns fns mes xs) pw w hB os0 n) (y : KYP w hB) (h1 : fns.lookup (Str.ofString "need") = some spNeed) : Does pw w hB os0 (n + 1) (.ref 194) spNeedList :=
  in_need_list cx y fun vs σ Q X ro h => by
    obtain ⟨v, rfl, gv, hq, f⟩ := on1_inv h
    refine ⟨v, rfl, oS_i h1 ?_⟩
    cases v with
    | tup l => exact hq l rfl
    | _ => first | exact gv.elim | exact f _ σ Ext.refl (by decide +kernel)
noncomputable def spNeedRow : Spec := fun vs σ Q X => on1 vs fun v => v.good ∧ ((∀ l, v = .tup l → Q v σ) ∧ ∀ l, v = .str l → Q v σ) ∧ fails X σ
theorem does_need_row (cx : CxO (kC w la ns fns mes xs) pw w hB os0 n) (y : KYP w hB) (h1 : fns.lookup (Str.ofString "need") = some spNeed) : Does pw w hB os0 (n + 1) (.ref 201) spNeedRow :=
  in_need_row cx y fun vs σ Q X ro h => by
    obtain ⟨v, rfl, gv, hq, f⟩ := on1_inv h
    refine ⟨v, rfl, oS_i h1 ?_⟩
    cases v with
    | tup l => exact hq.1 l rfl
    | str l => exact hq.2 l rfl
    | _ => first | exact gv.elim | exact f _ σ Ext.refl (by decide +kernel)
inductive SpNeedNumber (vs : List V) (σ : AS) (Q : PQ) (X : PXx) : Prop where
  | mk : ∀ v lo hi, (vs = [v, .int lo, .int hi]) → (v.good) → (∀ i, v = .int i → lo ≤ i → i ≤ hi → Q v σ) → (fails X σ) → SpNeedNumber vs σ Q X
noncomputable def spNeedNumber : Spec := SpNeedNumber
theorem does_need_number (cx : CxO (kC w la ns fns mes xs) pw w hB os0 n) (y : KYP w hB) (h0 : fns.lookup (Str.ofString "is_number") = some spIsNumber) (h1 : fns.lookup (Str.ofString "need") = some spNeed) : Does pw w hB os0 (n + 1) (.ref 208) spNeedNumber :=
  in_need_number cx y fun vs σ Q X ro ⟨v, lo, hi, e, gv, hq, f⟩ => by
    refine ⟨v, .int lo, .int hi, e, oS_i h1 (oS_i h0 ?_)⟩
    cases v with
    | int i => exact onB_of (fun a => onB_of (fun b => hq i rfl (of_decide_eq_true a) (of_decide_eq_true b)) fun _ => f _ σ Ext.refl (by decide +kernel)) fun a => onB_n a (f _ σ Ext.refl (by decide +kernel))
    | _ => first | exact gv.elim | exact f _ σ Ext.refl (by decide +kernel)
noncomputable def spTextOf : Spec := fun vs σ Q X => on1 vs fun v => v.good ∧ Gives σ Q X (V.gd 0)
theorem does_text_of (cx : CxO (kC w la ns fns mes xs) pw w hB os0 n) (y : KYP w hB) (h0 : fns.lookup (Str.ofString "is_number") = some spIsNumber) (h1 : fns.lookup (Str.ofString "need") = some spNeed) : Does pw w hB os0 (n + 1) (.ref 222) spTextOf :=
  in_text_of cx y fun vs σ Q X ro h => by
    obtain ⟨v, rfl, gv, g⟩ := on1_inv h
    refine ⟨v, rfl, oS_i h1 (oS_i h0 ?_)⟩
    cases v with
    | int i => exact ⟨Nat.lt_trans gv (Nat.pow_lt_pow_right (by exact Nat.le_add_left _ _) (by exact Nat.le_add_left _ _)), g.q _ _ Ext.refl ⟨text_small gv, Nat.zero_le _⟩⟩
    | _ => first | exact gv.elim | exact g.x _ σ Ext.refl (by decide +kernel)
noncomputable def spTurned : Spec := fun vs σ Q X => on1 vs fun v => v.good ∧ Gives σ Q X (V.gd v.dep)
theorem does_turned (cx : CxO (kC w la ns fns mes xs) pw w hB os0 n) (y : KYP w hB) (h1 : fns.lookup (Str.ofString "need_list") = some spNeedList) : Does pw w hB os0 (n + 1) (.ref 236) spTurned :=
  in_turned cx y fun vs σ Q X ro h => by
    obtain ⟨v, rfl, gv, g⟩ := on1_inv h
    refine ⟨v, rfl, oS_i h1 ⟨gv, fun l e => ?_, g.x⟩⟩
    subst e
    exact g.q _ _ Ext.refl ⟨⟨by rw [List.length_reverse]; exact gv.1, V.goods_sub gv.2 fun x h => List.mem_reverse.mp h⟩, Nat.succ_le_succ (V.deps_sub fun x h => List.mem_reverse.mp h)⟩
end
noncomputable def RP.drop : Nat → RP → RP
  | 0, r => r
  | _ + 1, .nil => .nil
  | n + 1, .cons _ r => r.drop n
theorem cutS_len (s : Str) (lo up : Option Int) : (cutS s lo up).length ≤ s.length := by
  show (cutL s.cps.toList lo up).toArray.size ≤ s.cps.size
  rw [List.size_toArray, ← Array.length_toList]
  exact cutL_len _ _ _
theorem le_str {n : Nat} (h : n ≤ 2000) : n ≤ strMost := Nat.le_trans h (by decide +kernel)
theorem chars_in {s : Str} {i : Nat} {x : V} (h : (chars s)[i]? = some x) : ∃ c, x = .str ⟨#[c]⟩ := by
  unfold chars at h
  rw [List.getElem?_map] at h
  obtain ⟨c, _, rfl⟩ := Option.map_eq_some_iff.mp h
  exact ⟨c, rfl⟩
theorem strs_of : ∀ {l : List V}, (∀ v ∈ l, ∃ s, v = .str s) → ∃ ss : List Str, l = ss.map .str
  | [], _ => ⟨[], rfl⟩
  | v :: l, h => by
    obtain ⟨s, rfl⟩ := h v (.head _)
    obtain ⟨ss, rfl⟩ := strs_of fun x hx => h x (.tail _ hx)
    exact ⟨s :: ss, rfl⟩
theorem gd_mem {l : List V} {d : Nat} {x : V} (h : (V.tup l).gd d) (hx : x ∈ l) : x.gd d := ⟨V.goods_iff.mp h.1.2 x hx, Nat.le_trans (V.deps_le.mp (Nat.le_refl _) x hx) (Nat.le_trans (Nat.le_succ _) h.2)⟩
theorem gd_sub {l r : List V} {d : Nat} (h : (V.tup l).gd d) (hl : r.length ≤ l.length) (s : ∀ x ∈ r, x ∈ l) : (V.tup r).gd d := ⟨⟨Nat.le_trans hl h.1.1, V.goods_sub h.1.2 s⟩, Nat.le_trans (Nat.succ_le_succ (V.deps_sub s)) h.2⟩
theorem cutL_mem {α : Type} {l : List α} {lo up : Option Int} {x : α} (h : x ∈ cutL l lo up) : x ∈ l := by
  have := List.mem_of_mem_drop h
  cases up with
  | none => exact this
  | some u => exact List.mem_of_mem_take this
section
variable {w : World} {hB : Heap} {os0 : OsState} {n : Nat} {la : Addr} {ns : List Int} {fns : List (Str × Spec)} {mes : List ((Addr × Str) × Spec)} {xs : List (Str × Addr)}
noncomputable def spNumberOf : Spec := fun vs σ Q X => on1 vs fun v => v.good ∧ Gives σ Q X (V.gd 0)
theorem does_number_of (cx : CxO (kC w la ns fns mes xs) pw w hB os0 n) (y : KYP w hB) (h1 : fns.lookup (Str.ofString "need") = some spNeed) (h2 : fns.lookup (Str.ofString "bounded") = some spBounded) : Does pw w hB os0 (n + 1) (.ref 215) spNumberOf :=
  in_number_of cx y fun vs σ Q X ro h => by
    obtain ⟨v, rfl, gv, g⟩ := on1_inv h
    refine ⟨v, rfl, give_gen g fun P q f => ?_⟩
    cases v with
    | str s =>
      have hs : s.length ≤ 2000 := gv
      have rest : ∀ fg : Str, fg.length ≤ 2000 → rsts (kC w la ns fns mes xs) (rp_number_of.drop 2) [some (.str s), some (.str fg), none, none] σ P := fun fg hf => by
        refine oS_i h1 (onB_of (fun a => onB_of (fun b => ⟨le_str hf, fun i m' σ' => σ' = σ ∧ ∃ t p, m' = [some (.str s), some (.str fg), some (.int t), p], ⟨rfl, _, _, rfl⟩, fun _ _ _ _ => trivial, ?_, ?_⟩) fun _ => f _ _ σ Ext.refl (by decide +kernel)) fun a => onB_n a (f _ _ σ Ext.refl (by decide +kernel)))
        · rintro i m' σ' x hx ⟨rfl, t, p, rfl⟩
          obtain ⟨c, rfl⟩ := chars_in hx
          exact oS_i h1 fun b => onB_of (fun _ => ⟨.inl (by decide), rfl, fun n _ _ => ⟨by decide +kernel, fun k _ _ => ⟨rfl, _, _, rfl⟩⟩⟩) fun _ => f _ _ _ Ext.refl (by decide +kernel)
        · rintro m' σ' ⟨rfl, t, p, rfl⟩
          refine oS_i h2 ⟨trivial, ⟨by decide, by decide⟩, le_str hs, onB_of (fun _ => ⟨trivial, fun z => q _ _ Ext.refl ⟨bits_small z, Nat.zero_le _⟩, f _⟩) fun _ => ⟨trivial, fun z => q _ _ Ext.refl ⟨bits_small z, Nat.zero_le _⟩, f _⟩⟩
      exact oS_i h1 ⟨trivial, ⟨by decide, by decide⟩, le_str hs, onB_of (fun _ => ⟨⟨by decide, by decide⟩, trivial, le_str hs, rest _ (Nat.le_trans (cutS_len _ _ _) hs)⟩) fun _ => rest _ hs⟩
    | _ => first | exact gv.elim | exact oS_i h1 (f _ _ σ Ext.refl (by decide +kernel))
noncomputable def spGlued : Spec := fun vs σ Q X => on2 vs fun v u => v.good ∧ u.good ∧ Gives σ Q X (V.gd 0)
theorem does_glued (cx : CxO (kC w la ns fns mes xs) pw w hB os0 n) (y : KYP w hB) (h1 : fns.lookup (Str.ofString "need") = some spNeed) (h2 : fns.lookup (Str.ofString "bounded") = some spBounded) (h3 : fns.lookup (Str.ofString "need_list") = some spNeedList) : Does pw w hB os0 (n + 1) (.ref 229) spGlued :=
  in_glued cx y fun vs σ Q X ro h => by
    obtain ⟨v, u, rfl, gv, gu, g⟩ := on2_inv h
    refine ⟨v, u, rfl, give_gen g fun P q f => ?_⟩
    cases u with
    | str s =>
      refine oS_i h1 (oS_i h3 ⟨gv, fun l e => ?_, f _⟩)
      subst e
      refine ⟨fun i m' σ' => σ' = σ ∧ (∃ p, m' = [some (.tup l), some (.str s), p]) ∧ ∀ k < i, ∀ x, l[k]? = some x → ∃ t, x = .str t, ⟨rfl, ⟨_, rfl⟩, fun k h => absurd h (Nat.not_lt_zero k)⟩, fun _ _ _ _ => trivial, ?_, ?_⟩
      · rintro i m' σ' x hx ⟨rfl, ⟨p, rfl⟩, hk⟩
        have gx : x.good := V.goods_iff.mp gv.2 x (List.mem_of_getElem? hx)
        refine oS_i h1 ?_
        cases x with
        | str t => exact ⟨rfl, ⟨_, rfl⟩, fun k h z e => (Nat.lt_succ_iff_lt_or_eq.mp h).elim (fun h => hk k h z e) fun h => ⟨t, by rw [h, hx] at e; obtain rfl := Option.some.inj e; rfl⟩⟩
        | _ => first | exact gx.elim | exact f _ _ _ Ext.refl (by decide +kernel)
      · rintro m' σ' ⟨rfl, ⟨p, rfl⟩, hk⟩
        obtain ⟨ss, rfl⟩ := strs_of (l := l) fun x hx => by
          obtain ⟨k, hk', e⟩ := List.getElem_of_mem hx
          exact hk k hk' x (e ▸ List.getElem?_eq_getElem hk')
        refine oS_i h2 ⟨.ty "str", rfl, trivial, rfl, fun c hc _ => ⟨ss, AS.set_same _ _ _, ?_, trivial, fun z => q _ _ (Ext.new hc) ⟨z, Nat.zero_le _⟩, fun t σ'' e => f _ t σ'' ((Ext.new hc).trans e)⟩⟩
        unfold JoinOk
        have hl : ss.length ≤ 2000 := by have := gv.1; rwa [List.length_map] at this
        have hs : s.length ≤ 2000 := gu
        rw [StrLaws.joinFits (B := 2000) (fun x hx => V.goods_iff.mp gv.2 (.str x) (List.mem_map_of_mem hx)) (Nat.le_trans (Nat.add_le_add (Nat.mul_le_mul hl (Nat.le_refl _)) (Nat.mul_le_mul hl hs)) (by decide))]
        rfl
    | _ => first | exact gu.elim | exact oS_i h1 (f _ _ σ Ext.refl (by decide +kernel))
inductive SpItemOf (vs : List V) (σ : AS) (Q : PQ) (X : PXx) : Prop where
  | mk : ∀ v u d, (vs = [v, u]) → (v.gd d) → (u.good) → (Gives σ Q X (V.gd d)) → SpItemOf vs σ Q X
noncomputable def spItemOf : Spec := SpItemOf
theorem does_item_of (cx : CxO (kC w la ns fns mes xs) pw w hB os0 n) (y : KYP w hB) (h1 : fns.lookup (Str.ofString "need_row") = some spNeedRow) (h2 : fns.lookup (Str.ofString "need_number") = some spNeedNumber) : Does pw w hB os0 (n + 1) (.ref 243) spItemOf :=
  in_item_of cx y fun vs σ Q X ro ⟨v, u, d, e, gv, gu, g⟩ => ⟨v, u, e, give_gen g fun P q f => by
    refine oS_i h1 ⟨gv.1, ⟨fun l e => ?_, fun s e => ?_⟩, f _⟩
    · subst e
      refine oS_i h2 ⟨u, 0, _, rfl, gu, fun i e lo hi => ?_, f _⟩
      subst e
      have hi : i.toNat < l.length := by lia
      exact onB_i (decide_eq_true lo) (oS_i (List.getElem?_eq_getElem hi) (q _ _ Ext.refl (gd_mem gv (List.getElem_mem _))))
    · subst e
      refine oS_i h2 ⟨u, 0, _, rfl, gu, fun i e lo hi => ?_, f _⟩
      subst e
      exact onB_i (Bool.and_eq_true_iff.mpr ⟨decide_eq_true lo, decide_eq_true (by lia)⟩) (q _ _ Ext.refl ⟨(by decide : 1 ≤ 2000), Nat.zero_le _⟩)⟩
inductive SpCutOf (vs : List V) (σ : AS) (Q : PQ) (X : PXx) : Prop where
  | mk : ∀ v u t d, (vs = [v, u, t]) → (v.gd d) → (u.good) → (t.good) → (Gives σ Q X (V.gd d)) → SpCutOf vs σ Q X
noncomputable def spCutOf : Spec := SpCutOf
theorem does_cut_of (cx : CxO (kC w la ns fns mes xs) pw w hB os0 n) (y : KYP w hB) (h1 : fns.lookup (Str.ofString "need_row") = some spNeedRow) (h2 : fns.lookup (Str.ofString "need_number") = some spNeedNumber) : Does pw w hB os0 (n + 1) (.ref 250) spCutOf :=
  in_cut_of cx y fun vs σ Q X ro ⟨v, u, t, d, e, gv, gu, gt, g⟩ => ⟨v, u, t, e, give_gen g fun P q f => by
    refine oS_i h1 ⟨gv.1, ⟨fun l e => ?_, fun s e => ?_⟩, f _⟩
    · subst e
      refine oS_i h2 ⟨t, 0, _, rfl, gt, fun j e lo hi => ?_, f _⟩
      subst e
      refine oS_i h2 ⟨u, 0, j, rfl, gu, fun i e lo' hi' => ?_, f _⟩
      subst e
      have := gv.1.1
      exact ⟨⟨lo', by lia⟩, ⟨lo, by lia⟩, q _ _ Ext.refl (gd_sub gv (cutL_len _ _ _) fun x h => cutL_mem h)⟩
    · subst e
      refine oS_i h2 ⟨t, 0, _, rfl, gt, fun j e lo hi => ?_, f _⟩
      subst e
      refine oS_i h2 ⟨u, 0, j, rfl, gu, fun i e lo' hi' => ?_, f _⟩
      subst e
      have hs : s.length ≤ 2000 := gv.1
      exact ⟨⟨lo', by lia⟩, ⟨lo, by lia⟩, le_str hs, q _ _ Ext.refl ⟨Nat.le_trans (cutS_len _ _ _) hs, Nat.zero_le _⟩⟩⟩
end
section
variable {w : World} {hB : Heap} {os0 : OsState} {n : Nat} {la : Addr} {ns : List Int} {fns : List (Str × Spec)} {mes : List ((Addr × Str) × Spec)} {xs : List (Str × Addr)}
inductive SpEndOf (vs : List V) (σ : AS) (Q : PQ) (X : PXx) : Prop where
  | mk : ∀ s v d, (vs = [.str s, v]) → (s = Str.ofString "head" ∨ s = Str.ofString "rest" ∨ s = Str.ofString "last") → (v.gd d) → (Gives σ Q X (V.gd d)) → SpEndOf vs σ Q X
noncomputable def spEndOf : Spec := SpEndOf
theorem does_end_of (cx : CxO (kC w la ns fns mes xs) pw w hB os0 n) (y : KYP w hB) (h1 : fns.lookup (Str.ofString "need") = some spNeed) (h2 : fns.lookup (Str.ofString "need_list") = some spNeedList) : Does pw w hB os0 (n + 1) (.ref 257) spEndOf :=
  in_end_of cx y fun vs σ Q X ro ⟨s, v, d, e, hs, gv, g⟩ => ⟨_, v, e, give_gen g fun P q f => by
    refine oS_i h2 ⟨gv.1, fun l e => ?_, f _⟩
    subst e
    refine oS_i h1 (onB_of (fun a => ?_) fun _ => f _ _ σ Ext.refl (by decide +kernel))
    have hl : 0 < l.length := by have := of_decide_eq_true a; omega
    rcases hs with rfl | rfl | rfl
    · exact oS_i (List.getElem?_eq_getElem hl) (q _ _ Ext.refl (gd_mem gv (List.getElem_mem _)))
    · exact ⟨⟨by decide, by decide⟩, trivial, q _ _ Ext.refl (gd_sub gv (cutL_len _ _ _) fun x h => cutL_mem h)⟩
    · have hi : ((l.length : Int) - 1).toNat < l.length := by omega
      exact onB_i (decide_eq_true (by lia)) (oS_i (List.getElem?_eq_getElem hi) (q _ _ Ext.refl (gd_mem gv (List.getElem_mem _))))⟩
inductive SpValueAt (vs : List V) (σ : AS) (Q : PQ) (X : PXx) : Prop where
  | mk : ∀ a k l, (vs = [.ref a, .int k]) → (σ a = some (.list l)) → (1 ≤ k ∧ k ≤ 3) → (∀ v ∈ l, Q v σ) → (fails X σ) → SpValueAt vs σ Q X
noncomputable def spValueAt : Spec := SpValueAt
theorem does_value_at (cx : CxO (kC w la ns fns mes xs) pw w hB os0 n) (y : KYP w hB) (h1 : fns.lookup (Str.ofString "need") = some spNeed) : Does pw w hB os0 (n + 1) (.ref 278) spValueAt :=
  in_value_at cx y fun vs σ Q X ro ⟨a, k, l, e, hl, ⟨hk, hk3⟩, hq, f⟩ => ⟨_, _, e, by
    have h4 : k.natAbs < 2 ^ 2 := by grind
    have h5 : (Str.ofString "no value $").length + (Str.ofString (toString k)).length ≤ strMost := Nat.le_trans (Nat.add_le_add (by decide +kernel : _ ≤ 2000) (text_small (Nat.lt_of_lt_of_le h4 (Nat.pow_le_pow_right (by decide) (by decide))))) (by decide +kernel)
    refine oS_i h1 (onB_i (decide_eq_true hk) (len_list hl ⟨Nat.lt_of_lt_of_le h4 (Nat.pow_le_pow_right (by decide) (by decide)), onB_i (decide_eq_true h5) (onB_of (fun b => ?_) fun _ => f _ σ Ext.refl ?_)⟩))
    · have b := of_decide_eq_true b
      have hi : (k - 1).toNat < l.length := by lia
      exact oLD_l hl (onB_i (decide_eq_true (by lia)) (oS_i (List.getElem?_eq_getElem hi) (hq _ (List.getElem_mem _))))
    · have : k = 1 ∨ k = 2 ∨ k = 3 := by lia
      rcases this with rfl | rfl | rfl <;> decide +kernel⟩
inductive SpCallOfOne (vs : List V) (σ : AS) (Q : PQ) (X : PXx) : Prop where
  | mk : ∀ s v d, (vs = [.str s, v]) → (s ∈ ["len", "back", "text", "number", "head", "rest", "last"].map Str.ofString) → (v.gd d) → (Gives σ Q X (V.gd d)) → SpCallOfOne vs σ Q X
noncomputable def spCallOfOne : Spec := SpCallOfOne
theorem does_call_of_one (cx : CxO (kC w la ns fns mes xs) pw w hB os0 n) (y : KYP w hB) (h1 : fns.lookup (Str.ofString "need_row") = some spNeedRow) (h2 : fns.lookup (Str.ofString "turned") = some spTurned) (h3 : fns.lookup (Str.ofString "text_of") = some spTextOf) (h4 : fns.lookup (Str.ofString "number_of") = some spNumberOf) (h5 : fns.lookup (Str.ofString "end_of") = some spEndOf) : Does pw w hB os0 (n + 1) (.ref 264) spCallOfOne :=
  in_call_of_one cx y fun vs σ Q X ro ⟨s, v, d, e, hs, gv, g⟩ => ⟨_, v, e, give_gen g fun P q f => by
    clear e; revert s
    refine all_cons ?_ (all_cons ?_ (all_cons ?_ (all_cons ?_ (all_cons ?_ (all_cons ?_ (all_cons ?_ all_nil))))))
    · refine oS_i h1 ⟨gv.1, ⟨fun l e => ?_, fun s e => ?_⟩, f _⟩
      · subst e
        have := gv.1.1
        exact q _ _ Ext.refl (gd_int (by exact Nat.le_trans ‹_› (by decide)))
      · subst e
        have hs : s.length ≤ 2000 := gv.1
        exact q _ _ Ext.refl (gd_int (by exact Nat.le_trans ‹_› (by decide)))
    · exact oS_i h2 ⟨gv.1, ⟨fun r σ' e h => q _ _ e (h.up gv.2), f _⟩⟩
    · exact oS_i h3 ⟨gv.1, ⟨fun r σ' e h => q _ _ e (h.up (Nat.zero_le _)), f _⟩⟩
    · exact oS_i h4 ⟨gv.1, ⟨fun r σ' e h => q _ _ e (h.up (Nat.zero_le _)), f _⟩⟩
    · exact oS_i h5 ⟨_, v, d, rfl, .inl rfl, gv, ⟨q, f _⟩⟩
    · exact oS_i h5 ⟨_, v, d, rfl, .inr (.inl rfl), gv, ⟨q, f _⟩⟩
    · exact oS_i h5 ⟨_, v, d, rfl, .inr (.inr rfl), gv, ⟨q, f _⟩⟩⟩
noncomputable def words1 : List Str := ["len", "back", "text", "number", "head", "rest", "last"].map Str.ofString
noncomputable def argsOk (s : Str) (l : List V) : Prop := (s ∈ words1 ∧ l.length = 1) ∨ ((s = Str.ofString "item" ∨ s = Str.ofString "push" ∨ s = Str.ofString "glue") ∧ l.length = 2) ∨ s = Str.ofString "cut" ∧ l.length = 3
inductive SpApplied (vs : List V) (σ : AS) (Q : PQ) (X : PXx) : Prop where
  | mk : ∀ s a l d, (vs = [.str s, .ref a]) → (σ a = some (.list l)) → (argsOk s l) → (∀ v ∈ l, v.gd d) → (d ≤ 60) → (Gives σ Q X (V.gd (d + 1))) → SpApplied vs σ Q X
noncomputable def spApplied : Spec := SpApplied
theorem look24 {σ : AS} (ro : ∀ b o, (kC w la ns fns mes xs).ro b = some o → σ b = none) : (kC w la ns fns mes xs).look σ 24 = some (.ds functions) := by
  unfold Cx.look
  rw [ro 24 (.ds functions) (by kernel_rfl)]
  kernel_rfl
theorem args_lk {s : Str} {l : List V} (h : argsOk s l) : functions.lookup s = some (.int (l.length : Nat)) := by
  rcases h with ⟨hs, hn⟩ | ⟨hs, hn⟩ | ⟨rfl, hn⟩
  · rw [hn]
    exact (all_cons (by kernel_rfl) (all_cons (by kernel_rfl) (all_cons (by kernel_rfl) (all_cons (by kernel_rfl) (all_cons (by kernel_rfl) (all_cons (by kernel_rfl) (all_cons (by kernel_rfl) all_nil)))))) : ∀ s ∈ words1, functions.lookup s = some (.int (1 : Nat))) s hs
  · rw [hn]; rcases hs with rfl | rfl | rfl <;> kernel_rfl
  · rw [hn]; kernel_rfl
theorem does_applied (cx : CxO (kC w la ns fns mes xs) pw w hB os0 n) (y : KYP w hB) (h0 : fns.lookup (Str.ofString "need") = some spNeed) (h1 : fns.lookup (Str.ofString "call_of_one") = some spCallOfOne) (h2 : fns.lookup (Str.ofString "item_of") = some spItemOf) (h3 : fns.lookup (Str.ofString "need_list") = some spNeedList) (h4 : fns.lookup (Str.ofString "bounded") = some spBounded) (h5 : fns.lookup (Str.ofString "cut_of") = some spCutOf) (h6 : fns.lookup (Str.ofString "glued") = some spGlued) : Does pw w hB os0 (n + 1) (.ref 271) spApplied :=
  in_applied cx y fun vs σ Q X ro ⟨s, a, l, d, e, hl, hs, gl, hd, g⟩ => ⟨_, _, e, give_gen g fun P q f => by
    have lk := look24 ro
    have hlk := args_lk hs
    refine oS_i h0 (oDs_i lk ?_)
    rw [hlk]
    refine len_list hl (oDs_i lk (oS_i hlk (onB_i (c := PyData.eqv (.int l.length) (.int l.length)) (beq_self_eq_true _) (len_list hl ?_))))
    clear hlk lk h0
    rcases hs with ⟨hs, hn⟩ | ⟨hs, hn⟩ | ⟨rfl, hn⟩
    · obtain ⟨v, rfl⟩ := len1 hn
      exact oS_i h1 (oLD_l hl ⟨s, v, d, rfl, hs, gl v (.head _), fun r σ' e h => q _ _ e (h.up (Nat.le_succ _)), f _⟩)
    · obtain ⟨v, u, rfl⟩ := len2 hn
      have gv := gl v (.head _)
      have gu := gl u (.tail _ (.head _))
      rcases hs with rfl | rfl | rfl
      · exact oS_i h2 (oLD_l hl (oLD_l hl ⟨v, u, d, rfl, gv, gu.1, fun r σ' e h => q _ _ e (h.up (Nat.le_succ _)), f _⟩))
      · refine oS_i h4 (oS_i h3 (oLD_l hl ⟨gv.1, fun l e => ?_, f _⟩))
        subst e
        have hz : l.length + [u].length ≤ seqMost := Nat.le_trans (Nat.add_le_add_right gv.1.1 _) (by decide +kernel : 2000 + 1 ≤ seqMost)
        refine oLD_l hl (onB_i (by decide) (onB_i (decide_eq_true hz) ⟨trivial, fun z => q _ _ Ext.refl ⟨⟨z, V.goods_append gv.1.2 ⟨gu.1, trivial⟩⟩, Nat.succ_le_succ ?_⟩, f _⟩))
        rw [V.deps_append]
        exact Nat.max_le.mpr ⟨Nat.le_trans (Nat.le_succ _) gv.2, Nat.max_le.mpr ⟨gu.2, Nat.zero_le _⟩⟩
      · exact oS_i h6 (oLD_l hl (oLD_l hl ⟨gv.1, gu.1, fun r σ' e h => q _ _ e (h.up (Nat.zero_le _)), f _⟩))
    · obtain ⟨v, u, t, rfl⟩ := len3 hn
      exact oS_i h5 (oLD_l hl (oLD_l hl (oLD_l hl ⟨v, u, t, d, rfl, gl v (.head _), (gl u (.tail _ (.head _))).1, (gl t (.tail _ (.tail _ (.head _)))).1, fun r σ' e h => q _ _ e (h.up (Nat.le_succ _)), f _⟩)))⟩
end
inductive Ins where
  | jmp (k i : Nat)
  | push (w : V)
  | arg (k : Nat)
  | own | get | put
  | two (s : Str)
  | one (s : Str)
  | truth
  | list (k : Nat)
  | apply (s : Str) (k : Nat)
  | set | drop | fresh
  | word (s : Str)
  | bad (s : Str) (w : V)
noncomputable def jumpOp : Nat → Str
  | 0 => Str.ofString "jump"
  | 1 => Str.ofString "unless"
  | _ => Str.ofString "when"
noncomputable def Ins.op : Ins → Str
  | .jmp k _ => jumpOp k
  | .push _ => Str.ofString "push"
  | .arg _ => Str.ofString "arg"
  | .own => Str.ofString "own"
  | .get => Str.ofString "get"
  | .put => Str.ofString "put"
  | .two _ => Str.ofString "two"
  | .one _ => Str.ofString "one"
  | .truth => Str.ofString "truth"
  | .list _ => Str.ofString "list"
  | .apply _ _ => Str.ofString "apply"
  | .set => Str.ofString "set"
  | .drop => Str.ofString "drop"
  | .fresh => Str.ofString "fresh"
  | .word _ => Str.ofString "word"
  | .bad s _ => s
noncomputable def Ins.w : Ins → V
  | .jmp _ i => .int i
  | .push w => w
  | .arg k => .int k
  | .get | .put => .str (Str.ofString "n")
  | .two s | .one s | .word s => .str s
  | .list k => .int k
  | .apply s _ => .str s
  | .bad _ w => w
  | _ => .none
noncomputable def Ins.v (x : Ins) : V := .tup [.str x.op, x.w]
noncomputable def leaving : List Str := ["YYERROR", "YYABORT", "YYACCEPT"].map Str.ofString
noncomputable def bads : List (Str × V) := [(Str.ofString "two", .str (Str.ofString "&&")), (Str.ofString "list", .int (-1)), (Str.ofString "arg", .int 0), (Str.ofString "set", .int 1), (Str.ofString "apply", .str (Str.ofString "none")), (Str.ofString "word", .str (Str.ofString "yyok")), (Str.ofString "get", .str (Str.ofString "")),
  (Str.ofString "one", .str (Str.ofString "+")), (Str.ofString "lone", .none), (Str.ofString "push", .none), (Str.ofString "unless", .str (Str.ofString "1"))]
noncomputable def words0 : List Str := ["yyerrok", "yyclearin", "YYERROR", "YYABORT", "YYACCEPT"].map Str.ofString
noncomputable def pushed : List V := [.int 0, .int 7, .str (Str.ofString ""), .str (Str.ofString "ab"), .int 1]
noncomputable def wordsN : List (Str × Nat) := [(Str.ofString "len", 1), (Str.ofString "back", 1), (Str.ofString "text", 1), (Str.ofString "number", 1), (Str.ofString "head", 1), (Str.ofString "rest", 1), (Str.ofString "last", 1), (Str.ofString "item", 2), (Str.ofString "push", 2), (Str.ofString "glue", 2), (Str.ofString "cut", 3)]
noncomputable def Ins.In : Ins → Prop
  | .jmp k i => k ≤ 2 ∧ i ≤ 1000
  | .push w => w ∈ pushed
  | .arg k => 1 ≤ k ∧ k ≤ 3
  | .two s => s ∈ signs
  | .one s => s = Str.ofString "!" ∨ s = Str.ofString "-"
  | .list k => k ≤ 2
  | .apply s k => (s, k) ∈ wordsN
  | .word s => s ∈ words0
  | .bad s w => (s, w) ∈ bads
  | _ => True
noncomputable def Ins.ok (n : Nat) : Ins → Bool
  | .jmp _ i => decide (i ≤ n)
  | .bad _ _ => false
  | _ => true
noncomputable def Ins.io : Ins → Nat × Nat
  | .jmp k _ => (match k with | 0 => 0 | _ => 1, 0)
  | .push _ | .arg _ | .own | .get => (0, 1)
  | .put | .set | .drop => (1, 0)
  | .two _ => (2, 1)
  | .one _ | .truth => (1, 1)
  | .list k => (k, 1)
  | .apply _ k => (k, 1)
  | _ => (0, 0)
noncomputable def Ins.goals (at_ : Nat) : Ins → List Nat
  | .jmp 0 i => [i]
  | .jmp _ i => [at_ + 1, i]
  | .word s => if leaving.contains s then [] else [at_ + 1]
  | _ => [at_ + 1]
noncomputable def gV (l : List Nat) : List V := l.map fun (g : Nat) => .int g
noncomputable def ioV (p : Nat × Nat) : V := .tup [.int p.1, .int p.2]
noncomputable def codeV (c : List Ins) : List V := c.map Ins.v
theorem codeV_get {c : List Ins} {i : Nat} (h : i < c.length) : (codeV c)[i]? = some c[i].v := by
  unfold codeV; rw [List.getElem?_map, List.getElem?_eq_getElem h]; rfl
theorem met_ds {C : Cx} {σ : AS} {a : Addr} {l : List (Str × V)} {x : Str} {k : MK → Prop} (h : σ a = some (.ds l)) (q : k (.ty "dict")) (hx : (mname "dict" x).isSome = true := by rfl) : metG C σ (.ref a) x k :=
  ⟨.ty "dict", by unfold mkind; simp only [h], fun K dx q => by rw [h] at q; (cases q), hx, q⟩
theorem met_di {C : Cx} {σ : AS} {a : Addr} {l : List (Int × V)} {x : Str} {k : MK → Prop} (h : σ a = some (.di l)) (q : k (.ty "dict")) (hx : (mname "dict" x).isSome = true := by rfl) : metG C σ (.ref a) x k :=
  ⟨.ty "dict", by unfold mkind; simp only [h], fun K dx q => by rw [h] at q; (cases q), hx, q⟩
theorem look_same {C : Cx} {σ : AS} {a : Addr} {o : AO} (h : σ a = some o) : C.look σ a = some o := by unfold Cx.look; rw [h]
noncomputable def hide (σ : AS) : AS := fun a => if a = 23 then none else if a = 24 then none else σ a
theorem hide_eq {σ : AS} (h1 : σ 23 = none) (h2 : σ 24 = none) : hide σ = σ := funext fun a => by
  unfold hide
  by_cases e : a = 23
  · rw [if_pos e, e, h1]
  · rw [if_neg e]
    by_cases e : a = 24
    · rw [if_pos e, e, h2]
    · rw [if_neg e]
theorem hide_to {σ : AS} (h1 : σ 23 = none) (h2 : σ 24 = none) {Q : PQ} {X : PXx} {C : Cx} {rp : RP} {m : M} {v : V} (h : Q v σ) (k : Q v (hide σ) → rsts C rp m (hide σ) ⟨fun _ σ' => Q .none σ', Q, fun _ _ => False, fun x _ σ' => X x σ'⟩) :
    rsts C rp m σ ⟨fun _ σ' => Q .none σ', Q, fun _ _ => False, fun x _ σ' => X x σ'⟩ := by
  rw [hide_eq h1 h2] at k; exact k h
section
variable {w : World} {hB : Heap} {os0 : OsState} {n : Nat} {la : Addr} {ns : List Int} {fns : List (Str × Spec)} {mes : List ((Addr × Str) × Spec)} {xs : List (Str × Addr)}
theorem ro23 {σ : AS} (ro : ∀ b o, (kC w la ns fns mes xs).ro b = some o → σ b = none) : σ 23 = none := ro 23 (.ds levels) (by kernel_rfl)
theorem ro24 {σ : AS} (ro : ∀ b o, (kC w la ns fns mes xs).ro b = some o → σ b = none) : σ 24 = none := ro 24 (.ds functions) (by kernel_rfl)
inductive SpGoals (w : World) (la : Addr) (ns : List Int) (vs : List V) (σ : AS) (Q : PQ) (X : PXx) : Prop where
  | mk : ∀ a c i (h : i < c.length), (vs = [.ref a, .int (i : Nat)]) → (σ a = some (.list (codeV c))) → (c[i].In) → (c[i].ok c.length = true) → (anew (kC w la ns [] [] []) (.list (gV (c[i].goals i))) σ Q) → SpGoals w la ns vs σ Q X
noncomputable def spGoals (w : World) (la : Addr) (ns : List Int) : Spec := SpGoals w la ns
theorem does_goals_behind (cx : CxO (kC w la ns fns mes xs) pw w hB os0 n) (y : KYP w hB) : Does pw w hB os0 (n + 1) (.ref 149) (spGoals w la ns) :=
  in_goals_behind cx y fun vs σ Q X ro ⟨a, c, i, hi, e, hl, hI, hk, hq⟩ => ⟨_, _, e, by
    refine oLD_l hl (onB_i (decide_eq_true (Int.natCast_nonneg _)) (oS_i (codeV_get hi) ?_))
    generalize c[i] = x at hI hk hq
    cases x with
    | jmp k g => match k with
      | 0 => exact hq
      | 1 => exact hq
      | _ + 2 => exact hq
    | word s =>
      revert s
      exact all_cons (fun _ h => h) (all_cons (fun _ h => h) (all_cons (fun _ h => h) (all_cons (fun _ h => h) (all_cons (fun _ h => h) all_nil))))
    | bad s w => exact bft hk
    | _ => exact hq⟩
inductive SpTake (vs : List V) (σ : AS) (Q : PQ) (X : PXx) : Prop where
  | mk : ∀ (x : Ins) (n : Nat), (vs = [.str x.op, x.w]) → (x.In) → (x.ok n = true) → (Q (ioV x.io) σ) → SpTake vs σ Q X
noncomputable def spTake : Spec := SpTake
theorem does_taken_and_put (cx : CxO (kC w la ns fns mes xs) pw w hB os0 n) (y : KYP w hB) : Does pw w hB os0 (n + 1) (.ref 156) spTake :=
  in_taken_and_put cx y fun vs σ Q X ro ⟨x, n, e, hI, hk, hq⟩ => by
    refine ⟨_, _, e, hide_to (ro23 ro) (ro24 ro) hq fun hq => ?_⟩
    cases x with
    | jmp k g => match k with
      | 0 => exact hq
      | 1 => exact hq
      | _ + 2 => exact hq
    | apply s k =>
      refine (?_ : ∀ x ∈ wordsN, Q (.tup [.int x.2, .int 1]) (hide σ) → rsts (kC w la ns fns mes xs) rp_taken_and_put [some (.str (Str.ofString "apply")), some (.str x.1)] (hide σ) ⟨fun _ σ' => Q .none σ', Q, fun _ _ => False, fun x _ σ' => X x σ'⟩) (s, k) hI hq
      exact (all_cons (fun h => h) (all_cons (fun h => h) (all_cons (fun h => h) (all_cons (fun h => h) (all_cons (fun h => h) (all_cons (fun h => h) (all_cons (fun h => h) (all_cons (fun h => h) (all_cons (fun h => h) (all_cons (fun h => h) (all_cons (fun h => h) all_nil)))))))))))
    | bad s w => exact bft hk
    | _ => exact hq
inductive SpIsPair (vs : List V) (σ : AS) (Q : PQ) (X : PXx) : Prop where
  | mk : ∀ (x : Ins) (n : Nat), (vs = [.str x.op, x.w, .int n]) → (x.In) → (Q (.bool (x.ok n)) σ) → SpIsPair vs σ Q X
noncomputable def spIsPair : Spec := SpIsPair
theorem does_is_pair (cx : CxO (kC w la ns fns mes xs) pw w hB os0 n) (y : KYP w hB) : Does pw w hB os0 (n + 1) (.ref 163) spIsPair :=
  in_is_pair cx y fun vs σ Q X ro ⟨x, n, e, hI, hq₀⟩ => by
    refine ⟨_, _, _, e, hide_to (ro23 ro) (ro24 ro) hq₀ fun hq => ?_⟩
    clear hq₀ e
    cases x with
    | jmp k g =>
      have hq2 : Q (.bool (decide ((g : Int) ≤ n))) (hide σ) := by
        have : decide ((g : Int) ≤ n) = decide (g ≤ n) := decide_eq_decide.mpr Int.ofNat_le
        rw [this]; exact hq
      match k with
      | 0 => exact hq2
      | 1 => exact hq2
      | _ + 2 => exact hq2
    | push t =>
      revert t
      exact (all_cons (fun h => h) (all_cons (fun h => h) (all_cons (fun h => h) (all_cons (fun h => h) (all_cons (fun h => h) all_nil)))))
    | arg k =>
      have hq : Q (.bool (decide ((k : Int) ≥ 1))) (hide σ) := by rw [show decide ((k : Int) ≥ 1) = true from decide_eq_true (by have := hI.1; lia)]; exact hq
      exact hq
    | list k =>
      have hq : Q (.bool (decide ((k : Int) ≥ 0))) (hide σ) := by rw [show decide ((k : Int) ≥ 0) = true from decide_eq_true (by exact Int.natCast_nonneg _)]; exact hq
      exact hq
    | two s =>
      revert s
      exact (all_cons (fun h => h) (all_cons (fun h => h) (all_cons (fun h => h) (all_cons (fun h => h) (all_cons (fun h => h) all_nil)))))
    | one s => rcases hI with rfl | rfl <;> exact hq
    | apply s k =>
      refine (?_ : ∀ x ∈ wordsN, Q (.bool true) (hide σ) → rsts (kC w la ns fns mes xs) rp_is_pair [some (.str (Str.ofString "apply")), some (.str x.1), some (.int n)] (hide σ) ⟨fun _ σ' => Q .none σ', Q, fun _ _ => False, fun x _ σ' => X x σ'⟩) (s, k) hI hq
      exact (all_cons (fun h => h) (all_cons (fun h => h) (all_cons (fun h => h) (all_cons (fun h => h) (all_cons (fun h => h) (all_cons (fun h => h) (all_cons (fun h => h) (all_cons (fun h => h) (all_cons (fun h => h) (all_cons (fun h => h) (all_cons (fun h => h) all_nil)))))))))))
    | word s =>
      revert s
      exact (all_cons (fun h => h) (all_cons (fun h => h) (all_cons (fun h => h) (all_cons (fun h => h) (all_cons (fun h => h) all_nil)))))
    | bad s t =>
      refine (?_ : ∀ x ∈ bads, Q (.bool false) (hide σ) → rsts (kC w la ns fns mes xs) rp_is_pair [some (.str x.1), some x.2, some (.int n)] (hide σ) ⟨fun _ σ' => Q .none σ', Q, fun _ _ => False, fun x _ σ' => X x σ'⟩) (s, t) hI hq
      exact (all_cons (fun h => h) (all_cons (fun h => h) (all_cons (fun h => h) (all_cons (fun h => h) (all_cons (fun h => h) (all_cons (fun h => h) (all_cons (fun h => h) (all_cons (fun h => h) (all_cons (fun h => h) (all_cons (fun h => h) (all_cons (fun h => h) all_nil)))))))))))
    | _ => exact hq
noncomputable def stV (x : Ins) (n : Nat) : V := if x.ok n then ioV x.io else .none
inductive SpStands (vs : List V) (σ : AS) (Q : PQ) (X : PXx) : Prop where
  | mk : ∀ (x : Ins) (n : Nat), (vs = [x.v, .int n]) → (x.In) → (∀ σ', Ext σ σ' → Q (stV x n) σ') → SpStands vs σ Q X
noncomputable def spStands : Spec := SpStands
noncomputable abbrev stM (x : V) (n : Nat) : M := [some x, some (.int n), none, none, none]
theorem does_stands (cx : CxO (kC w la ns fns mes xs) pw w hB os0 n) (y : KYP w hB) : Does pw w hB os0 (n + 1) (.ref 457) spStands :=
  in__law_stands cx y fun vs σ Q X ro ⟨x, n, e, hI, hq⟩ => by
    refine ⟨_, _, e, ?_⟩
    rw [← hide_eq (ro23 ro) (ro24 ro)] at hq ⊢
    have hq0 := hq _ Ext.refl
    have di : ∀ {c : Addr} {o : AO}, hide σ c = none → Q (stV x n) ((hide σ).set c o) := fun h => hq _ (Ext.new h)
    clear hq e
    cases x with
    | jmp k g =>
      have e : decide ((g : Int) ≤ n) = decide (g ≤ n) := decide_eq_decide.mpr Int.ofNat_le
      have hq0 : Q (if decide ((g : Int) ≤ n) then ioV (Ins.jmp k g).io else .none) (hide σ) := by rw [e]; exact hq0
      have yes : decide ((g : Int) ≤ n) = true → Q (ioV (Ins.jmp k g).io) (hide σ) := fun z => by rw [z] at hq0; exact hq0
      have no : decide ((g : Int) ≤ n) = false → Q .none (hide σ) := fun z => by rw [z] at hq0; exact hq0
      match k with
      | 0 => exact onB_of yes no
      | 1 => exact onB_of yes no
      | _ + 2 => exact onB_of yes no
    | push t =>
      clear di; revert t
      exact (all_cons (fun h => h) (all_cons (fun h => h) (all_cons (fun h => h) (all_cons (fun h => h) (all_cons (fun h => h) all_nil)))))
    | arg k =>
      have z : decide ((k : Int) < 1) = false := decide_eq_false (by have := hI.1; lia)
      exact onB_n z hq0
    | list k => exact hq0
    | two s =>
      clear di; revert s
      exact (all_cons (fun h => h) (all_cons (fun h => h) (all_cons (fun h => h) (all_cons (fun h => h) (all_cons (fun h => h) all_nil)))))
    | one s => rcases hI with rfl | rfl <;> exact hq0
    | apply s k =>
      refine (?_ : ∀ x ∈ wordsN, Q (.tup [.int x.2, .int 1]) (hide σ) → rsts (kC w la ns fns mes xs) rp__law_stands (stM (.tup [.str (Str.ofString "apply"), .str x.1]) n) (hide σ) ⟨fun _ σ' => Q .none σ', Q, fun _ _ => False, fun x _ σ' => X x σ'⟩) (s, k) hI hq0
      exact (all_cons (fun h => h) (all_cons (fun h => h) (all_cons (fun h => h) (all_cons (fun h => h) (all_cons (fun h => h) (all_cons (fun h => h) (all_cons (fun h => h) (all_cons (fun h => h) (all_cons (fun h => h) (all_cons (fun h => h) (all_cons (fun h => h) all_nil)))))))))))
    | word s =>
      clear di; revert s
      exact (all_cons (fun h => h) (all_cons (fun h => h) (all_cons (fun h => h) (all_cons (fun h => h) (all_cons (fun h => h) all_nil)))))
    | get => exact hq0
    | put => exact hq0
    | bad s t =>
      refine (?_ : ∀ x ∈ bads, Q .none (hide σ) → (∀ {c : Addr} {o : AO}, hide σ c = none → Q .none ((hide σ).set c o)) → rsts (kC w la ns fns mes xs) rp__law_stands (stM (.tup [.str x.1, x.2]) n) (hide σ) ⟨fun _ σ' => Q .none σ', Q, fun _ _ => False, fun x _ σ' => X x σ'⟩) (s, t) hI hq0 di
      exact (all_cons (fun h _ => h) (all_cons (fun h _ => h) (all_cons (fun h _ => h) (all_cons (fun _ di c hc _ => di hc) (all_cons (fun h _ => h) (all_cons (fun h _ => h) (all_cons (fun h _ => h)
        (all_cons (fun h _ => h) (all_cons (fun _ di c hc _ => met_ds (AS.set_same _ _ _) (oDs_i (look_same (AS.set_same _ _ _)) (di hc))) (all_cons (fun h _ => h) (all_cons (fun h _ => h) all_nil)))))))))))
    | _ => exact fun c hc _ => met_ds (AS.set_same _ _ _) (oDs_i (look_same (AS.set_same _ _ _)) (di hc))
end
structure Cons (c : List Ins) (D : Nat → Option Nat) : Prop where
  z : D 0 = some 0
  s : ∀ a (h : a < c.length) d, D a = some d → c[a].io.1 ≤ d ∧ ∀ g ∈ c[a].goals a, D g = some (d - c[a].io.1 + c[a].io.2)
  e : ∀ d, D c.length = some d → d = 0
inductive Rch (c : List Ins) : Nat → Prop where
  | z : Rch c 0
  | s {a g : Nat} (r : Rch c a) (h : a < c.length) (hg : g ∈ c[a].goals a) : Rch c g
noncomputable def AllOk (c : List Ins) : Prop := ∀ x ∈ c, x.ok c.length = true
noncomputable def Silent (c : List Ins) : Prop := AllOk c ∧ ∃ D, Cons c D
noncomputable def Frc (c : List Ins) (a d : Nat) : Prop := ∀ D, Cons c D → D a = some d
theorem goals_le {c : List Ins} (ok : AllOk c) {a : Nat} (h : a < c.length) : ∀ g ∈ c[a].goals a, g ≤ c.length := by
  have k := ok c[a] (List.getElem_mem h)
  generalize c[a] = x at k
  intro g hg
  cases x with
  | jmp k' i =>
    have kk : i ≤ c.length := of_decide_eq_true k
    match k' with
    | 0 => rw [List.mem_singleton.mp hg]; exact kk
    | m + 1 =>
      rcases List.mem_cons.mp hg with rfl | hg
      · exact h
      · rw [List.mem_singleton.mp hg]; exact kk
  | word s =>
    have hg : g ∈ (if leaving.contains s then [] else [a + 1]) := hg
    split at hg
    · cases hg
    · rw [List.mem_singleton.mp hg]; exact h
  | _ => rw [List.mem_singleton.mp hg]; exact h
theorem goals_two {x : Ins} {a : Nat} : (x.goals a).length ≤ 2 := by
  cases x with
  | jmp k i => match k with
    | 0 => exact Nat.le_succ 1
    | m + 1 => exact Nat.le_refl 2
  | word s =>
    show (if leaving.contains s then [] else [a + 1]).length ≤ 2
    split
    · exact Nat.zero_le _
    · exact Nat.le_succ 1
  | _ => exact Nat.le_succ 1
noncomputable def Ins.go (x : Ins) (d : Nat) : Nat := d - x.io.1 + x.io.2
theorem Frc.le {c : List Ins} {a d : Nat} (f : Frc c a d) (h : a < c.length) {D : Nat → Option Nat} (k : Cons c D) : c[a].io.1 ≤ d := (k.s a h d (f D k)).1
theorem Frc.go {c : List Ins} {a d : Nat} (f : Frc c a d) (h : a < c.length) {g : Nat} (hg : g ∈ c[a].goals a) : Frc c g (c[a].go d) := fun D k => (k.s a h d (f D k)).2 g hg
theorem Frc.zero {c : List Ins} : Frc c 0 0 := fun D k => k.z
noncomputable def nn : List (Option Nat) → Nat
  | [] => 0
  | none :: l => nn l + 1
  | some _ :: l => nn l
theorem nn_set {d : Nat} : ∀ {L : List (Option Nat)} {a : Nat}, L[a]? = some none → nn (L.set a (some d)) + 1 = nn L
  | [], _, h => by exact no1 h
  | x :: l, 0, h => by obtain rfl := Option.some.inj h; rfl
  | none :: l, a + 1, h => congrArg (· + 1) (nn_set (L := l) (a := a) h)
  | some _ :: l, a + 1, h => nn_set (L := l) (a := a) h
structure CkI (c : List Ins) (L : List (Option Nat)) (ws : List (Nat × Nat)) : Prop where
  len : L.length = c.length + 1
  w : ∀ p ∈ ws, p.1 ≤ c.length ∧ Frc c p.1 p.2
  l : ∀ a d, L[a]? = some (some d) → Frc c a d
  cl : ∀ a (h : a < c.length) d, L[a]? = some (some d) → c[a].io.1 ≤ d ∧ ∀ g ∈ c[a].goals a, L[g]? = some (some (c[a].go d)) ∨ (g, c[a].go d) ∈ ws
  z : L[0]? = some (some 0) ∨ (0, 0) ∈ ws
section
variable {c : List Ins} {L : List (Option Nat)} {ws r : List (Nat × Nat)} {a d : Nat}
theorem CkI.start : CkI c (List.replicate (c.length + 1) none) [(0, 0)] :=
  ⟨List.length_replicate, fun p hp => by rw [List.mem_singleton.mp hp]; exact ⟨Nat.zero_le _, .zero⟩, fun a d h => by rw [List.getElem?_replicate] at h; (split at h <;> cases h),
   fun a _ d h => by rw [List.getElem?_replicate] at h; (split at h <;> cases h), .inr (List.mem_singleton.mpr rfl)⟩
theorem snoc_mem {α : Type} {r : List α} {x y : α} (h : y ∈ r ++ [x]) : y ∈ r ∨ y = x := (List.mem_append.mp h).imp id List.mem_singleton.mp
theorem CkI.seen (x : CkI c L (r ++ [(a, d)])) (h : L[a]? = some (some d)) : CkI c L r := by
  have key : ∀ {g e : Nat}, (g, e) ∈ r ++ [(a, d)] → L[g]? = some (some e) ∨ (g, e) ∈ r := fun m => (snoc_mem m).elim .inr fun q => .inl (by
    obtain ⟨q1, q2⟩ := Prod.mk.inj q
    subst q1 q2; exact h)
  exact ⟨x.len, fun p hp => x.w p (List.mem_append_left _ hp), x.l, fun b hb e he => ⟨(x.cl b hb e he).1, fun g hg => ((x.cl b hb e he).2 g hg).elim .inl key⟩, x.z.elim .inl key⟩
theorem CkI.clash (x : CkI c L (r ++ [(a, d)])) {e : Nat} (h : L[a]? = some (some e)) (hne : e ≠ d) : ¬ Silent c := by
  rintro ⟨_, D, k⟩
  have h1 := x.l a e h D k
  have h2 := (x.w (a, d) (by simp)).2 D k
  rw [h1] at h2
  exact hne (Option.some.inj h2)
theorem CkI.short (x : CkI c L (r ++ [(a, d)])) (h : a < c.length) (hd : d < c[a].io.1) : ¬ Silent c := by
  rintro ⟨_, D, k⟩
  have : c[a].io.1 ≤ d := (x.w (a, d) (by simp)).2.le h k
  exact absurd ‹_› (Nat.not_lt_of_le ‹_›)
theorem set_get {L : List (Option Nat)} (h : L[a]? = some none) {b : Nat} {e : Nat} (q : (L.set a (some d))[b]? = some (some e)) : (b = a ∧ e = d) ∨ (b ≠ a ∧ L[b]? = some (some e)) := by
  by_cases eb : b = a
  · subst eb
    rw [List.getElem?_set_self (List.getElem?_eq_some_iff.mp h).1] at q
    exact .inl ⟨rfl, by cases q; rfl⟩
  · rw [List.getElem?_set_ne (Ne.symm eb)] at q; exact .inr ⟨eb, q⟩
theorem set_keep {L : List (Option Nat)} (h : L[a]? = some none) {b : Nat} {e : Nat} (q : L[b]? = some (some e)) : (L.set a (some d))[b]? = some (some e) := by
  rw [List.getElem?_set_ne (fun z => by rw [z, q] at h; cases h)]; exact q
theorem CkI.new (x : CkI c L (r ++ [(a, d)])) (h : L[a]? = some none) (new : List (Nat × Nat)) (hn : ∀ (ha : a < c.length), c[a].io.1 ≤ d ∧ new = (c[a].goals a).map fun g => (g, c[a].go d)) (ok : AllOk c) (hend : a = c.length → new = []) : CkI c (L.set a (some d)) (r ++ new) := by
  have lt : a < L.length := (List.getElem?_eq_some_iff.mp h).1
  have self : (L.set a (some d))[a]? = some (some d) := List.getElem?_set_self lt
  have wa := x.w (a, d) (by simp)
  have key : ∀ {g e : Nat}, (g, e) ∈ r ++ [(a, d)] → (L.set a (some d))[g]? = some (some e) ∨ (g, e) ∈ r ++ new := fun m => (snoc_mem m).elim (fun m => .inr (List.mem_append_left _ m)) fun q => .inl (by
    obtain ⟨q1, q2⟩ := Prod.mk.inj q
    subst q1 q2; exact self)
  refine ⟨by rw [List.length_set]; exact x.len, fun p hp => ?_, fun b e q => ?_, fun b hb e q => ?_, ?_⟩
  · rcases List.mem_append.mp hp with hp | hp
    · exact x.w p (List.mem_append_left _ hp)
    · have la : a < c.length := Nat.lt_of_le_of_ne wa.1 fun q => by rw [hend q] at hp; cases hp
      rw [(hn la).2] at hp
      obtain ⟨g, hg, rfl⟩ := List.mem_map.mp hp
      exact ⟨goals_le ok la g hg, wa.2.go la hg⟩
  · rcases set_get h q with ⟨rfl, rfl⟩ | ⟨_, q⟩
    · exact wa.2
    · exact x.l b e q
  · rcases set_get h q with ⟨rfl, rfl⟩ | ⟨_, q⟩
    · obtain ⟨h1, h2⟩ := hn hb
      refine ⟨h1, fun g hg => .inr (List.mem_append_right _ ?_)⟩
      rw [h2]
      exact List.mem_map.mpr ⟨g, hg, rfl⟩
    · exact ⟨(x.cl b hb e q).1, fun g hg => ((x.cl b hb e q).2 g hg).elim (fun z => .inl (set_keep h z)) key⟩
  · exact x.z.elim (fun z => .inl (set_keep h z)) key
theorem CkI.done (x : CkI c L []) (ok : AllOk c) (h : ∀ d, L[c.length]? = some (some d) → d = 0) : Silent c := by
  refine ⟨ok, fun a => (L[a]?).getD none, ?_, fun a ha d hd => ?_, fun d hd => h d ?_⟩
  · rcases x.z with z | z
    · rw [z]; rfl
    · cases z
  · have hd : L[a]? = some (some d) := by
      cases q : L[a]? with
      | none => rw [q] at hd; exact no1 hd
      | some o => rw [q] at hd; exact congrArg some hd
    refine ⟨(x.cl a ha d hd).1, fun g hg => ?_⟩
    rcases (x.cl a ha d hd).2 g hg with z | z
    · rw [z]; rfl
    · cases z
  · cases q : L[c.length]? with
    | none => rw [q] at hd; exact no1 hd
    | some o => rw [q] at hd; exact congrArg some hd
theorem CkI.left (x : CkI c L ws) (h : L[c.length]? = some (some d)) (hd : d ≠ 0) : ¬ Silent c := fun ⟨_, D, k⟩ => hd (k.e d (x.l _ d h D k))
end
theorem num_ok {a : Nat} (h : a ≤ 1001) : (a : Int).natAbs < 2 ^ 1900 := Nat.lt_of_le_of_lt (show a ≤ 1001 from h) (Nat.lt_of_lt_of_le (by decide : 1001 < 2 ^ 10) (Nat.pow_le_pow_right (by decide) (by decide)))
theorem num_add {a : Nat} {s : Str} (hs : s.length ≤ 2000) (h : a ≤ 1001) : decide (s.length + (Str.ofString (toString (a : Int))).length ≤ strMost) = true :=
  decide_eq_true (Nat.le_trans (Nat.add_le_add hs (text_small (i := a) (Nat.lt_of_le_of_lt (show a ≤ 1001 from h) (Nat.lt_of_lt_of_le (by decide : 1001 < 2 ^ 10) (Nat.pow_le_pow_right (by decide) (by decide)))))) (by decide +kernel))
noncomputable def dV : Option Nat → V
  | none => .int (-1)
  | some d => .int d
noncomputable def wV (p : Nat × Nat) : V := .tup [.int p.1, .int p.2]
noncomputable def wsV (ws : List (Nat × Nat)) : List V := ws.map wV
theorem ieq {a b : Nat} (z : ((a : Int) == (b : Int)) = true) : a = b := by have := eq_of_beq z; lia
theorem ine {a b : Nat} (z : ((a : Int) == (b : Int)) = false) : a ≠ b := fun e => by rw [e, beq_self_eq_true] at z; exact btf z
theorem nieq {a b : Nat} (z : (!((a : Int) == (b : Int))) = true) : a ≠ b := fun e => by rw [e, beq_self_eq_true] at z; exact bft z
theorem nine {a b : Nat} (z : (!((a : Int) == (b : Int))) = false) : a = b := ieq (by cases q : ((a : Int) == (b : Int)) with | true => rfl | false => rw [q] at z; exact btf z)
theorem wsV_flat : ∀ {ws : List (Nat × Nat)}, V.flats (wsV ws) = true
  | [] => rfl
  | _ :: ws => wsV_flat (ws := ws)
theorem wsV_dep : ∀ {ws : List (Nat × Nat)}, V.deps (wsV ws) ≤ 60
  | [] => Nat.zero_le _
  | _ :: ws => Nat.max_le.mpr ⟨Nat.le_of_ble_eq_true rfl, wsV_dep (ws := ws)⟩
theorem codeV_len {c : List Ins} : (codeV c).length = c.length := List.length_map ..
theorem enumV_get : ∀ {l : List V} {n i : Nat} {x : V}, (enumV n l)[i]? = some x → ∃ y, l[i]? = some y ∧ x = .tup [.int ((n + i : Nat) : Int), y]
  | [], _, _, _, h => by exact no1 h
  | v :: l, n, 0, x, h => ⟨v, rfl, by obtain rfl := Option.some.inj h; rfl⟩
  | v :: l, n, i + 1, x, h => by
    obtain ⟨y, h1, h2⟩ := enumV_get (l := l) (n := n + 1) (i := i) (x := x) h
    exact ⟨y, h1, by rw [h2, show n + 1 + i = n + (i + 1) by lia]⟩
theorem enumV_len : ∀ {l : List V} {n : Nat}, (enumV n l).length = l.length
  | [], _ => rfl
  | _ :: l, n => congrArg (· + 1) (enumV_len (l := l) (n := n + 1))
theorem enum_code {c : List Ins} {i : Nat} {x : V} (h : (enumV 0 (codeV c))[i]? = some x) : ∃ h : i < c.length, x = .tup [.int i, c[i].v] := by
  obtain ⟨y, h1, h2⟩ := enumV_get h
  have hi : i < c.length := by have := (List.getElem?_eq_some_iff.mp h1).1; rwa [codeV_len] at this
  rw [codeV_get hi] at h1
  obtain rfl := Option.some.inj h1
  exact ⟨hi, by rw [h2, Nat.zero_add]⟩
theorem wsV_snoc {r : List (Nat × Nat)} {x : Nat × Nat} : wsV (r ++ [x]) = wsV r ++ [wV x] := by unfold wsV; rw [List.map_append]; rfl
theorem wsV_len {r : List (Nat × Nat)} : (wsV r).length = r.length := List.length_map ..
theorem gV_ws {l : List Nat} {e : Nat} : (gV l).map (fun x => V.tup [x, .int e]) = wsV (l.map fun g => (g, e)) := by
  unfold gV wsV; rw [List.map_map, List.map_map]; rfl
theorem nn_rep : ∀ {m : Nat}, nn (List.replicate m none) = m
  | 0 => rfl
  | m + 1 => congrArg (· + 1) (nn_rep (m := m))
section
variable {w : World} {hB : Heap} {os0 : OsState} {n : Nat} {la : Addr} {ns : List Int} {fns : List (Str × Spec)} {mes : List ((Addr × Str) × Spec)} {xs : List (Str × Addr)}
theorem map_comp {C : Cx} {mp : List (Option Nat)} {t : Nat} {elt : RE} {m : M} {σ : AS} {items : List V} {dep : Dep} {F : V → V} {Q : PQ} (hd : dep.ok σ) (hl : items.length ≤ 1000)
    (step : ∀ x ∈ items, ∀ (Q' : PQ), Q' (F x) σ → rev C elt ((innerM mp m).set t (some x)) σ Q' (fun _ _ => False)) (q : anew C (.list (items.map F)) σ Q) :
    ∃ I : Nat → List V → AS → Prop, I 0 [] σ ∧ items.length ≤ 1000 ∧ (∀ i acc σ₂, I i acc σ₂ → dep.ok σ₂ ∧ acc.length ≤ i) ∧
          (∀ i acc σ₂ x, items[i]? = some x → I i acc σ₂ →
            rcond C .no ((innerM mp m).set t (some x)) σ₂ (fun b σ₃ => onB b (rev C elt ((innerM mp m).set t (some x)) σ₃ (fun v σ₄ => I (i + 1) (acc ++ [v]) σ₄) (fun _ _ => False)) (I (i + 1) acc σ₃)) (fun _ _ => False)) ∧
          (∀ acc σ₂, I items.length acc σ₂ → anew C (.list acc) σ₂ Q) := by
  refine ⟨fun i acc σ₂ => σ₂ = σ ∧ acc = (items.take i).map F, ⟨rfl, rfl⟩, hl, ?_, ?_, ?_⟩
  · rintro i acc σ₂ ⟨rfl, rfl⟩
    refine ⟨hd, ?_⟩
    rw [List.length_map, List.length_take]
    exact Nat.min_le_left _ _
  · rintro i acc σ₂ x hx ⟨rfl, rfl⟩
    refine step x (List.mem_of_getElem? hx) _ ⟨rfl, ?_⟩
    rw [List.take_succ, hx, List.map_append]
    rfl
  · rintro acc σ₂ ⟨rfl, rfl⟩
    rw [List.take_length]
    exact q
inductive SpCheck (vs : List V) (σ : AS) (Q : PQ) (X : PXx) : Prop where
  | mk : ∀ ca c, (vs = [.ref ca]) → (σ ca = some (.list (codeV c))) → (∀ x ∈ c, x.In) → (c.length ≤ 100) → (∀ σ', Ext σ σ' → Silent c → Q .none σ') → (∀ t σ', Ext σ σ' → ¬ Silent c → X ⟨62, .str t⟩ σ') → SpCheck vs σ Q X
noncomputable def spCheck : Spec := SpCheck
theorem hidC {C : Cx} {rp : RP} {m : M} {σ : AS} {P₀ : Post} (h : ∀ P : Post, (∀ m σ, P₀.n m σ → P.n m σ) → (∀ m σ, P₀.c m σ → P.c m σ) → (∀ x m σ, P₀.x x m σ → P.x x m σ) → rsts C rp m σ P) : rsts C rp m σ P₀ := h P₀ (fun _ _ h => h) (fun _ _ h => h) fun _ _ _ h => h
noncomputable def mCk (ca da wa : Addr) (x1 x2 x5 x6 x7 : Option V) : M := [some (.ref ca), x1, x2, some (.ref da), some (.ref wa), x5, x6, x7]
inductive CkA (ca da wa : Addr) (c : List Ins) (σ : AS) (k : Nat) (m' : M) (σ' : AS) : Prop where
  | mk (L : List (Option Nat)) (ws : List (Nat × Nat)) (x1 x2 x5 x6 x7 : Option V) (e : m' = mCk ca da wa x1 x2 x5 x6 x7) (ext : Ext σ σ') (hd : σ' da = some (.list (L.map dV))) (hw : σ' wa = some (.list (wsV ws))) (ck : CkI c L ws) (h4 : 3 * nn L + ws.length ≤ 400) (hk : k = 3 * nn L + ws.length)
theorem does_check_code (cx : CxO (kC w la ns fns mes xs) pw w hB os0 n) (y : KYP w hB) (hx : xs.lookup (Str.ofString "ActionError") = some 62) (h1 : fns.lookup (Str.ofString "is_pair") = some spIsPair) (h2 : fns.lookup (Str.ofString "taken_and_put") = some spTake) (h3 : fns.lookup (Str.ofString "goals_behind") = some (spGoals w la ns)) : Does pw w hB os0 (n + 1) (.ref 168) spCheck :=
  in_check_code cx y fun vs σ Q X ro ⟨ca, c, e, hl, hI, hz, hq, hX⟩ => ⟨_, e, post_gen fun P _ hxx hn => by
    have bad : ∀ t σ' m, Ext σ σ' → ¬ Silent c → P.x ⟨62, .str t⟩ m σ' := fun t σ' m e h => hxx _ _ _ (hX t σ' e h)
    have hN : ∀ σ' m, Ext σ σ' → Silent c → P.n m σ' := fun σ' m e h => hn _ _ (hq σ' e h)
    have hlen := codeV_len (c := c)
    refine oL_i hl ⟨by lia, fun i m' σ' => σ = σ' ∧ (∃ a b, m' = [some (.ref ca), a, b, none, none, none, none, none]) ∧ ∀ k (h : k < c.length), k < i → c[k].ok c.length = true, ⟨rfl, ⟨_, _, rfl⟩, fun k _ h => absurd h (Nat.not_lt_zero k)⟩, ?_, ?_, ?_⟩
    · rintro i m' σ' ⟨rfl, _⟩; exact hl
    · rintro i m' σ' x hx' ⟨rfl, ⟨a, b, rfl⟩, hk⟩
      obtain ⟨hi, rfl⟩ := enum_code hx'
      refine oS_i h1 (len_list hl ⟨c[i], c.length, by rw [hlen], hI _ (List.getElem_mem hi), onB_of (fun z => ?_) fun z => ⟨rfl, ⟨_, _, rfl⟩, fun k h q => ?_⟩⟩)
      · refine oS_i hx ⟨num_ok (by lia), onB_i (num_add (by decide +kernel) (by lia)) (bad _ _ _ Ext.refl fun s => ?_)⟩
        have := s.1 c[i] (List.getElem_mem hi)
        rw [this] at z; exact bft z
      · rcases Nat.lt_succ_iff_lt_or_eq.mp q with q | rfl
        · exact hk k h q
        · simpa using z
    · rintro m' σ' ⟨rfl, ⟨a0, b0, rfl⟩, hk⟩
      have ok : AllOk c := fun x hx => by
        obtain ⟨k, hk', rfl⟩ := List.getElem_of_mem hx
        exact hk k hk' (by rw [enumV_len, hlen]; exact hk')
      clear hk
      refine len_list hl ⟨⟨by exact Int.natCast_nonneg _, by lia⟩, map_comp (F := fun _ => .int (-1)) trivial ?_ (fun _ _ _ h => h) fun da hda _ => fun wa hwa _ => ?_⟩
      · rw [rangeV_len, hlen]; exact Nat.lt_of_le_of_lt ‹_› (by decide)
      have eL : (rangeV ((codeV c).length + 1)).map (fun _ => V.int (-1)) = (List.replicate (c.length + 1) none).map dV := by
        rw [List.map_replicate, List.eq_replicate_iff]
        refine ⟨by rw [List.length_map, rangeV_len, hlen]; rfl, fun x h => by obtain ⟨_, _, rfl⟩ := List.mem_map.mp h; rfl⟩
      rw [eL] at hwa ⊢
      refine ⟨CkA ca da wa c σ,
        ⟨_, _, [(0, 0)], _, _, _, _, _, rfl, (Ext.new hda).trans (Ext.new hwa), set_of (AS.set_same _ _ _) hwa, AS.set_same _ _ _, .start, by rw [nn_rep]; show 3 * (c.length + 1) + 1 ≤ 400; lia, rfl⟩, ?_⟩
      rintro k m' σ' ⟨L, ws, x1, x2, x5, x6, x7, rfl, hE, hd, hw, ck, h400, rfl⟩
      have hca : ∀ {σ' : AS}, Ext σ σ' → σ' ca = some (.list (codeV c)) := fun e => (e ca (by rw [hl]; simp)).trans hl
      have hdw : da ≠ wa := fun q => by rw [q, AS.set_same] at hwa; exact no3 hwa
      refine ne_nil hw wsV_flat wsV_dep fun e he hew => ?_
      have hE := hE.trans (Ext.new (o := .list []) he)
      have hd := set_of (x := .list []) hd he
      have hw := set_of (x := .list []) hw he
      generalize σ'.set e (.list []) = σ₁ at hE hd hw
      clear he hew
      rcases snoc_cases ws with rfl | ⟨r, ⟨a, d⟩, rfl⟩
      · have fin : ∀ o, L[c.length]? = some o → L[c.length]? = some none ∨ ∃ d, L[c.length]? = some (some d) := fun o h => by cases o with | none => exact .inl h | some d => exact .inr ⟨d, h⟩
        have hlt : c.length < L.length := by rw [ck.len]; lia
        refine len_list (hca hE) (oLD_l hd (onB_i (decide_eq_true (by exact Int.natCast_nonneg _)) (oS_i (a := dV L[c.length]) (by
          rw [show ((codeV c).length : Int).toNat = c.length from hlen, List.getElem?_map, List.getElem?_eq_getElem hlt]; rfl) ?_)))
        have eL := List.getElem?_eq_getElem hlt
        generalize L[c.length] = o at eL
        cases o with
        | none => exact hN _ _ hE (ck.done ok fun d h => by rw [eL] at h; cases h)
        | some d =>
          refine onB_of (fun z => oS_i hx (bad _ _ _ hE (ck.left eL ?_))) fun z => hN _ _ hE (ck.done ok fun d' h => ?_)
          · have := of_decide_eq_true z; lia
          · rw [eL] at h; cases h
            have := of_decide_eq_false z; lia
      rw [wsV_snoc] at hw
      have e1 : (!(wsV r ++ [wV (a, d)]).isEmpty) = true := by cases wsV r <;> rfl
      rw [wsV_snoc, e1]
      refine hidC fun P' hn hc hx' => ?_
      have bad := fun t σ' m e h => hx' _ _ _ (bad t σ' m e h)
      clear hx'
      refine met_list hw ⟨_, _, hw, ?_⟩
      have hE : Ext σ (σ₁.set wa (.list (wsV r))) := hE.turn (by
        refine isN fun o q => ?_
        have := Ext.new (o := .list ((List.replicate (c.length + 1) none).map dV)) hda wa (by rw [q]; simp); rw [hwa, q] at this; exact no1 this)
      have hd : (σ₁.set wa (.list (wsV r))) da = some (.list (L.map dV)) := (AS.set_ne _ _ hdw).trans hd
      have hw : (σ₁.set wa (.list (wsV r))) wa = some (.list (wsV r)) := AS.set_same _ _ _
      generalize σ₁.set wa (.list (wsV r)) = σ₂ at hE hd hw
      have hka : a ≤ c.length := (ck.w (a, d) (by simp)).1
      have hlt : a < L.length := by rw [ck.len]; exact Nat.succ_le_succ ‹_›
      have ts : (3 * nn L + (r ++ [(a, d)]).length) = 3 * nn L + r.length + 1 := by rw [List.length_append]; rfl
      rw [ts] at h400 hn hc
      obtain ⟨o, eL⟩ : ∃ o, L[a]? = some o := ⟨_, List.getElem?_eq_getElem hlt⟩
      have gL : (L.map dV)[(a : Int).toNat]? = some (dV o) := by rw [Int.toNat_natCast, List.getElem?_map, eL]; rfl
      refine oLD_l hd (oS_i gL ?_)
      cases o with
      | some d0 =>
        exact oLD_l hd (oS_i gL (onB_of (fun z => oS_i hx ⟨num_ok (by lia), onB_i (num_add (by decide +kernel) (by lia)) (bad _ _ _ hE (ck.clash eL (nieq z)))⟩) fun z => hc _ _ ⟨_, Nat.lt_succ_self _, L, r, _, _, _, _, _, rfl, hE, hd, hw, ck.seen ((nine z : d0 = d) ▸ eL), by exact Nat.le_of_lt ‹_›, rfl⟩))
      | none =>
        have eS : (L.map dV).set (a : Int).toNat (.int d) = (L.set a (some d)).map dV := by rw [Int.toNat_natCast, List.map_set]; rfl
        refine oL_i hd ⟨⟨Int.natCast_nonneg _, by rw [List.length_map]; lia⟩, ?_⟩
        rw [eS]
        have hE : Ext σ (σ₂.set da (.list ((L.set a (some d)).map dV))) := hE.turn hda
        have hw : (σ₂.set da (.list ((L.set a (some d)).map dV))) wa = some (.list (wsV r)) := (AS.set_ne _ _ (Ne.symm hdw)).trans hw
        have hd : (σ₂.set da (.list ((L.set a (some d)).map dV))) da = some (.list ((L.set a (some d)).map dV)) := AS.set_same _ _ _
        generalize σ₂.set da (.list ((L.set a (some d)).map dV)) = σ₃ at hE hd hw
        have hnn := nn_set (d := d) eL
        refine len_list (hca hE) (onB_of (fun z => ?_) fun z => ?_)
        · have z : a = c.length := (ieq z).trans hlen
          have ck' := ck.new eL [] (fun h => absurd h (by lia)) ok fun _ => rfl
          rw [List.append_nil] at ck'
          exact hc _ _ ⟨_, by lia, _, r, _, _, _, _, _, rfl, hE, hd, hw, ck', by lia, rfl⟩
        have z : a ≠ (codeV c).length := ine z
        have ha : a < c.length := by lia
        have hIa := hI _ (List.getElem_mem ha)
        have hka := ok _ (List.getElem_mem ha)
        refine oS_i h2 (oLD_l (hca hE) (oS_i (codeV_get ha) (oLD_l (hca hE) (oS_i (codeV_get ha) ⟨c[a], c.length, rfl, hIa, hka, ?_⟩))))
        refine onB_of (fun z => oS_i hx ⟨num_ok (by lia), onB_i (num_add (by decide +kernel) (by lia)) (bad _ _ _ hE (ck.short ha ?_))⟩) fun z => ?_
        · have := of_decide_eq_true z; lia
        have ht : c[a].io.1 ≤ d := by have := of_decide_eq_false z; lia
        have ego : (d : Int) - (c[a].io.1 : Int) + (c[a].io.2 : Int) = ((c[a].go d : Nat) : Int) := by unfold Ins.go; grind
        refine met_list hw (oS_i h3 ⟨ca, c, a, ha, rfl, hca hE, hIa, hka, fun g hg _ => oL_i (AS.set_same _ _ _) (map_comp (F := fun x => .tup [x, .int ((d : Int) - (c[a].io.1 : Int) + (c[a].io.2 : Int))]) (AS.set_same _ _ _) ?_ (fun x _ Q' h => h) fun f hf _ => ?_)⟩)
        · unfold gV; rw [List.length_map]; exact Nat.le_trans goals_two (by decide)
        rw [ego, gV_ws]
        have hwg := set_of (x := .list (gV (c[a].goals a))) hw hg
        have hwf := set_of (x := .list (wsV ((c[a].goals a).map fun g => (g, c[a].go d)))) (set_of (x := .list (gV (c[a].goals a))) hw hg) hf
        have hdf := set_of (x := .list (wsV ((c[a].goals a).map fun g => (g, c[a].go d)))) (set_of (x := .list (gV (c[a].goals a))) hd hg) hf
        have hEf := hE.trans ((Ext.new (o := .list (gV (c[a].goals a))) hg).trans (Ext.new (o := .list (wsV ((c[a].goals a).map fun g => (g, c[a].go d)))) hf))
        have hwa0 : σ wa = none := by
          refine isN fun o q => ?_
          have := Ext.new (o := .list ((List.replicate (c.length + 1) none).map dV)) hda wa (by rw [q]; simp); rw [hwa, q] at this; exact no1 this
        have ck' := ck.new eL ((c[a].goals a).map fun g => (g, c[a].go d)) (fun _ => ⟨ht, rfl⟩) ok fun h => absurd h (by exact Nat.ne_of_lt ‹_›)
        have g2 : ((c[a].goals a).map fun g => (g, c[a].go d)).length ≤ 2 := by rw [List.length_map]; exact goals_two
        have eW : wsV r ++ wsV ((c[a].goals a).map fun g => (g, c[a].go d)) = wsV (r ++ (c[a].goals a).map fun g => (g, c[a].go d)) := (List.map_append ..).symm
        generalize (c[a].goals a).map (fun g => (g, c[a].go d)) = new at hf hwf hdf hEf ck' g2 eW
        refine oL_i hwf (oL_i (AS.set_same _ _ _) ⟨⟨fun q => by rw [← q, hwg] at hf; (exact no3 hf), ?_⟩, hn _ _ ⟨_, ?_, _, r ++ new, _, _, _, _, _, rfl, hEf.turn hwa0, (AS.set_ne _ _ hdw).trans hdf, ?_, ck', ?_, rfl⟩⟩)
        · rw [wsV_len, wsV_len]
          show _ ≤ 1000000
          lia
        · rw [List.length_append]; lia
        · rw [← eW]; exact AS.set_same _ _ _
        · rw [List.length_append]; lia⟩
end
noncomputable def Best (c : List Ins) (b : Nat) : Prop := (∃ a, Rch c a ∧ Frc c a b) ∧ ∀ a, Rch c a → ∀ d, Frc c a d → d ≤ b
noncomputable def Dn (c : List Ins) (L : List (Option Nat)) (e : Bool) (g : Nat) : Prop := (g < c.length ∧ ∃ x, L[g]? = some (some x)) ∨ (g = c.length ∧ e = true)
structure MdI (c : List Ins) (b : Nat) (L : List (Option Nat)) (e : Bool) (ws : List (Nat × Nat)) : Prop where
  len : L.length = c.length + 1
  w : ∀ p ∈ ws, p.1 ≤ c.length ∧ Rch c p.1 ∧ Frc c p.1 p.2
  bt : ∃ a, Rch c a ∧ Frc c a b
  dn : ∀ a, Dn c L e a → ∀ d, Frc c a d → d ≤ b
  cl : ∀ a (h : a < c.length), (∃ x, L[a]? = some (some x)) → ∀ g ∈ c[a].goals a, Dn c L e g ∨ ∃ d, (g, d) ∈ ws
  z : Dn c L e 0 ∨ ∃ d, (0, d) ∈ ws
section
variable {c : List Ins} {L : List (Option Nat)} {ws r : List (Nat × Nat)} {a b d : Nat} {e : Bool}
theorem MdI.start : MdI c 0 (List.replicate (c.length + 1) none) false [(0, 0)] := by
  have no : ∀ g, ¬ Dn c (List.replicate (c.length + 1) none) false g := fun g h => h.elim (fun h => by obtain ⟨_, x, this⟩ := h; rw [List.getElem?_replicate] at this; split at this <;> cases this) fun h => by cases h.2
  exact ⟨List.length_replicate, fun p hp => by rw [List.mem_singleton.mp hp]; exact ⟨Nat.zero_le _, .z, .zero⟩, ⟨0, .z, .zero⟩, fun a h => (no a h).elim, fun a h q => (no a (.inl ⟨h, q⟩)).elim, .inr ⟨0, List.mem_singleton.mpr rfl⟩⟩
theorem Frc.eq {a d d' : Nat} (s : Silent c) (f : Frc c a d) (f' : Frc c a d') : d = d' := by
  obtain ⟨_, D, k⟩ := s
  have h1 := f D k
  rw [f' D k] at h1
  exact (Option.some.inj h1).symm
theorem MdI.next (s : Silent c) (x : MdI c b L e (r ++ [(a, d)])) {L' : List (Option Nat)} {e' : Bool} {new : List (Nat × Nat)} (hl : L'.length = L.length) (keep : ∀ g, Dn c L e g → Dn c L' e' g) (now : Dn c L' e' a)
    (back : ∀ g, Dn c L' e' g → Dn c L e g ∨ g = a) (hw : ∀ p ∈ new, ∃ h : a < c.length, p.1 ∈ c[a].goals a ∧ p.2 = c[a].go d) (hc : ∀ h : a < c.length, (¬ ∃ x, L[a]? = some (some x)) → ∀ g ∈ c[a].goals a, ∃ d, (g, d) ∈ new) : MdI c (max b d) L' e' (r ++ new) := by
  have wa := x.w (a, d) (by simp)
  have key : ∀ {g : Nat}, (Dn c L e g ∨ ∃ d', (g, d') ∈ r ++ [(a, d)]) → Dn c L' e' g ∨ ∃ d', (g, d') ∈ r ++ new := fun m => m.elim (fun h => .inl (keep _ h)) fun ⟨d', m⟩ => (snoc_mem m).elim (fun m => .inr ⟨d', List.mem_append_left _ m⟩) fun q => .inl ((Prod.mk.inj q).1 ▸ now)
  refine ⟨hl.trans x.len, fun p hp => ?_, ?_, fun g h d' f => ?_, fun g h q t ht => ?_, key x.z⟩
  · rcases List.mem_append.mp hp with hp | hp
    · exact x.w p (List.mem_append_left _ hp)
    · obtain ⟨ha, hg, e2⟩ := hw p hp
      exact ⟨goals_le s.1 ha _ hg, .s wa.2.1 ha hg, e2 ▸ wa.2.2.go ha hg⟩
  · rcases Nat.le_total b d with h | h
    · rw [Nat.max_eq_right h]; exact ⟨a, wa.2⟩
    · rw [Nat.max_eq_left h]; exact x.bt
  · rcases back g h with h | rfl
    · exact Nat.le_trans (x.dn g h d' f) (Nat.le_max_left _ _)
    · rw [f.eq s wa.2.2]; exact Nat.le_max_right _ _
  · rcases back g (.inl ⟨h, q⟩) with h' | rfl
    · rcases h' with h' | h'
      · exact key (x.cl g h h'.2 t ht)
      · lia
    · by_cases q' : ∃ x, L[g]? = some (some x)
      · exact key (x.cl g h q' t ht)
      · obtain ⟨d', m⟩ := hc h q' t ht
        exact .inr ⟨d', List.mem_append_right _ m⟩
theorem MdI.done (s : Silent c) (x : MdI c b L e []) : Best c b := by
  refine ⟨x.bt, fun a h => x.dn a ?_⟩
  induction h with
  | z => exact x.z.elim id fun ⟨_, h⟩ => by cases h
  | s r h hg ih =>
    rcases ih with q | q
    · exact (x.cl _ h q.2 _ hg).elim id fun ⟨_, h⟩ => by cases h
    · lia
end
noncomputable def bV : Option Nat → V
  | none => .bool false
  | some _ => .bool true
theorem maxI {b d : Nat} : (if (d : Int) > (b : Int) then (d : Int) else (b : Int)) = ((max b d : Nat) : Int) := by
  split <;> lia
section
variable {w : World} {hB : Heap} {os0 : OsState} {n : Nat} {la : Addr} {ns : List Int} {fns : List (Str × Spec)} {mes : List ((Addr × Str) × Spec)} {xs : List (Str × Addr)}
inductive SpMost (vs : List V) (σ : AS) (Q : PQ) (X : PXx) : Prop where
  | mk : ∀ ca c, (vs = [.ref ca]) → (σ ca = some (.list (codeV c))) → (∀ x ∈ c, x.In) → (c.length ≤ 100) → (Silent c) → (∀ b σ', Ext σ σ' → Best c b → Q (.int (b : Nat)) σ') → SpMost vs σ Q X
noncomputable def spMost : Spec := SpMost
noncomputable def mMd (ca da wa : Addr) (b : Nat) (x1 x5 x6 x7 : Option V) : M := [some (.ref ca), x1, some (.int b), some (.ref da), some (.ref wa), x5, x6, x7]
theorem mMd_eq {ca da wa : Addr} {k : Nat} {x1 x5 x6 x7 : Option V} {i : Int} (h : i = (k : Int)) : ([some (.ref ca), x1, some (.int i), some (.ref da), some (.ref wa), x5, x6, x7] : M) = mMd ca da wa k x1 x5 x6 x7 := by rw [h]; rfl
inductive MdA (ca da wa : Addr) (c : List Ins) (σ : AS) (k : Nat) (m' : M) (σ' : AS) : Prop where
  | mk (b : Nat) (L : List (Option Nat)) (f : Bool) (ws : List (Nat × Nat)) (x1 x5 x6 x7 : Option V) (e : m' = mMd ca da wa b x1 x5 x6 x7) (ext : Ext σ σ') (hd : σ' da = some (.list (L.map bV))) (hw : σ' wa = some (.list (wsV ws))) (md : MdI c b L f ws) (h4 : 3 * nn L + ws.length ≤ 400) (hk : k = 3 * nn L + ws.length)
theorem does_most_depth (cx : CxO (kC w la ns fns mes xs) pw w hB os0 n) (y : KYP w hB) (h2 : fns.lookup (Str.ofString "taken_and_put") = some spTake) (h3 : fns.lookup (Str.ofString "goals_behind") = some (spGoals w la ns)) : Does pw w hB os0 (n + 1) (.ref 173) spMost :=
  in_most_depth cx y fun vs σ Q X ro ⟨ca, c, e, hl, hI, hz, hs, hq⟩ => ⟨_, e, post_gen fun P hr _ _ => by
    have hlen := codeV_len (c := c)
    have ok := hs.1
    refine len_list hl ⟨⟨by exact Int.natCast_nonneg _, by lia⟩, map_comp (F := fun _ => .bool false) trivial ?_ (fun _ _ _ h => h) fun da hda _ => fun wa hwa _ => ?_⟩
    · rw [rangeV_len, hlen]; exact Nat.lt_of_le_of_lt ‹_› (by decide)
    have eL : (rangeV ((codeV c).length + 1)).map (fun _ => V.bool false) = (List.replicate (c.length + 1) none).map bV := by
      rw [List.map_replicate, List.eq_replicate_iff]
      refine ⟨by rw [List.length_map, rangeV_len, hlen]; rfl, fun x h => by obtain ⟨_, _, rfl⟩ := List.mem_map.mp h; rfl⟩
    rw [eL] at hwa ⊢
    have hwa0 : σ wa = none := by
      refine isN fun o q => ?_
      have := Ext.new (o := .list ((List.replicate (c.length + 1) none).map bV)) hda wa (by rw [q]; simp); rw [hwa, q] at this; exact no1 this
    refine ⟨MdA ca da wa c σ,
      ⟨_, 0, _, false, [(0, 0)], _, _, _, _, rfl, (Ext.new hda).trans (Ext.new hwa), set_of (AS.set_same _ _ _) hwa, AS.set_same _ _ _, .start, by rw [nn_rep]; show 3 * (c.length + 1) + 1 ≤ 400; lia, rfl⟩, ?_⟩
    rintro k m' σ' ⟨b, L, e, ws, x1, x5, x6, x7, rfl, hE, hd, hw, md, h400, rfl⟩
    have hca : ∀ {σ' : AS}, Ext σ σ' → σ' ca = some (.list (codeV c)) := fun e => (e ca (by rw [hl]; simp)).trans hl
    have hdw : da ≠ wa := fun q => by rw [q, AS.set_same] at hwa; exact no3 hwa
    refine ne_nil hw wsV_flat wsV_dep fun e₁ he hew => ?_
    have hE := hE.trans (Ext.new (o := .list []) he)
    have hd := set_of (x := .list []) hd he
    have hw := set_of (x := .list []) hw he
    generalize σ'.set e₁ (.list []) = σ₁ at hE hd hw
    clear he hew
    rcases snoc_cases ws with rfl | ⟨r, ⟨a, d⟩, rfl⟩
    · exact hr _ _ (hq b _ hE (md.done hs))
    rw [wsV_snoc] at hw
    have e1 : (!(wsV r ++ [wV (a, d)]).isEmpty) = true := by cases wsV r <;> rfl
    rw [wsV_snoc, e1]
    refine hidC fun P' hn hc _ => ?_
    refine met_list hw ⟨_, _, hw, ?_⟩
    have hE : Ext σ (σ₁.set wa (.list (wsV r))) := hE.turn hwa0
    have hd : (σ₁.set wa (.list (wsV r))) da = some (.list (L.map bV)) := (AS.set_ne _ _ hdw).trans hd
    have hw : (σ₁.set wa (.list (wsV r))) wa = some (.list (wsV r)) := AS.set_same _ _ _
    generalize σ₁.set wa (.list (wsV r)) = σ₂ at hE hd hw
    have hka : a ≤ c.length := (md.w (a, d) (by simp)).1
    have hlt : a < L.length := by rw [md.len]; exact Nat.succ_le_succ ‹_›
    have ts : (3 * nn L + (r ++ [(a, d)]).length) = 3 * nn L + r.length + 1 := by rw [List.length_append]; rfl
    rw [ts] at h400 hn hc
    obtain ⟨o, eL⟩ : ∃ o, L[a]? = some o := ⟨_, List.getElem?_eq_getElem hlt⟩
    have gL : (L.map bV)[(a : Int).toNat]? = some (bV o) := by rw [Int.toNat_natCast, List.getElem?_map, eL]; rfl
    have dn0 : ∀ g, Dn c L (e || decide (a = c.length)) g → Dn c L e g ∨ g = a := fun g h => h.elim (fun h => .inl (.inl h)) fun ⟨h1, h2⟩ => (Bool.or_eq_true_iff.mp h2).elim (fun h => .inl (.inr ⟨h1, h⟩)) fun h => .inr (h1.trans (of_decide_eq_true h).symm)
    have kp0 : ∀ g, Dn c L e g → Dn c L (e || decide (a = c.length)) g := fun g h => h.elim .inl fun ⟨h1, h2⟩ => .inr ⟨h1, by rw [h2]; rfl⟩
    have cont : (∃ x, L[a]? = some (some x)) ∨ a = c.length → MdI c (max b d) L (e || decide (a = c.length)) r := fun h => by
      have := md.next hs (L' := L) (e' := e || decide (a = c.length)) (new := []) rfl kp0 ?_ dn0 (fun _ h => by cases h) fun h' q => ?_
      · rw [List.append_nil] at this; exact this
      · by_cases q : a = c.length
        · exact .inr ⟨q, by rw [decide_eq_true q, Bool.or_true]⟩
        · exact .inl ⟨by lia, h.resolve_right q⟩
      · exact absurd (h.resolve_right (by exact Nat.ne_of_lt ‹_›)) q
    refine oLD_l hd (oS_i gL ?_)
    cases o with
    | some x => exact hc _ _ ⟨_, Nat.lt_succ_self _, max b d, L, _, r, _, _, _, _, mMd_eq maxI, hE, hd, hw, cont (.inl ⟨x, eL⟩), by exact Nat.le_of_lt ‹_›, rfl⟩
    | none =>
      refine len_list (hca hE) (onB_of (fun z => hc _ _ ⟨_, Nat.lt_succ_self _, max b d, L, _, r, _, _, _, _, mMd_eq maxI, hE, hd, hw, cont (.inr ((ieq z).trans hlen)), by exact Nat.le_of_lt ‹_›, rfl⟩) fun z => ?_)
      have z : a ≠ (codeV c).length := ine z
      have ha : a < c.length := by lia
      have eS : (L.map bV).set (a : Int).toNat (.bool true) = (L.set a (some 0)).map bV := by rw [Int.toNat_natCast, List.map_set]; rfl
      refine oL_i hd ⟨⟨Int.natCast_nonneg _, by rw [List.length_map]; lia⟩, ?_⟩
      rw [eS]
      have hE : Ext σ (σ₂.set da (.list ((L.set a (some 0)).map bV))) := hE.turn hda
      have hw : (σ₂.set da (.list ((L.set a (some 0)).map bV))) wa = some (.list (wsV r)) := (AS.set_ne _ _ (Ne.symm hdw)).trans hw
      have hd : (σ₂.set da (.list ((L.set a (some 0)).map bV))) da = some (.list ((L.set a (some 0)).map bV)) := AS.set_same _ _ _
      generalize σ₂.set da (.list ((L.set a (some 0)).map bV)) = σ₃ at hE hd hw
      have hnn := nn_set (d := 0) eL
      have hIa := hI _ (List.getElem_mem ha)
      have hka := ok _ (List.getElem_mem ha)
      have ht : c[a].io.1 ≤ d := by
        obtain ⟨_, D, k⟩ := id hs
        exact (md.w (a, d) (by simp)).2.2.le ha k
      refine oS_i h2 (oLD_l (hca hE) (oS_i (codeV_get ha) (oLD_l (hca hE) (oS_i (codeV_get ha) ⟨c[a], c.length, rfl, hIa, hka, ?_⟩))))
      have ego : (d : Int) - (c[a].io.1 : Int) + (c[a].io.2 : Int) = ((c[a].go d : Nat) : Int) := by unfold Ins.go; grind
      refine met_list hw (oS_i h3 ⟨ca, c, a, ha, rfl, hca hE, hIa, hka, fun g hg _ => oL_i (AS.set_same _ _ _) (map_comp (F := fun x => .tup [x, .int ((d : Int) - (c[a].io.1 : Int) + (c[a].io.2 : Int))]) (AS.set_same _ _ _) ?_ (fun x _ Q' h => h) fun f hf _ => ?_)⟩)
      · unfold gV; rw [List.length_map]; exact Nat.le_trans goals_two (by decide)
      rw [ego, gV_ws]
      have hwg := set_of (x := .list (gV (c[a].goals a))) hw hg
      have hwf := set_of (x := .list (wsV ((c[a].goals a).map fun g => (g, c[a].go d)))) hwg hf
      have hdf := set_of (x := .list (wsV ((c[a].goals a).map fun g => (g, c[a].go d)))) (set_of (x := .list (gV (c[a].goals a))) hd hg) hf
      have hEf := hE.trans ((Ext.new (o := .list (gV (c[a].goals a))) hg).trans (Ext.new (o := .list (wsV ((c[a].goals a).map fun g => (g, c[a].go d)))) hf))
      have md' := md.next hs (L' := L.set a (some 0)) (e' := e) (new := (c[a].goals a).map fun g => (g, c[a].go d)) List.length_set (fun g h => h.elim (fun ⟨h1, x, h2⟩ => .inl ⟨h1, x, set_keep eL h2⟩) .inr) (.inl ⟨ha, 0, List.getElem?_set_self hlt⟩)
        (fun g h => h.elim (fun ⟨h1, x, h2⟩ => (set_get eL h2).elim (fun q => .inr q.1) fun q => .inl (.inl ⟨h1, x, q.2⟩)) fun h => .inl (.inr h)) (fun p hp => by obtain ⟨g, hg, rfl⟩ := List.mem_map.mp hp; exact ⟨ha, hg, rfl⟩) fun _ _ g hg => ⟨_, List.mem_map.mpr ⟨g, hg, rfl⟩⟩
      have g2 : ((c[a].goals a).map fun g => (g, c[a].go d)).length ≤ 2 := by rw [List.length_map]; exact goals_two
      have eW : wsV r ++ wsV ((c[a].goals a).map fun g => (g, c[a].go d)) = wsV (r ++ (c[a].goals a).map fun g => (g, c[a].go d)) := (List.map_append ..).symm
      generalize (c[a].goals a).map (fun g => (g, c[a].go d)) = new at hf hwf hdf hEf md' g2 eW
      refine oL_i hwf (oL_i (AS.set_same _ _ _) ⟨⟨fun q => by rw [← q, hwg] at hf; (exact no3 hf), ?_⟩, hn _ _ ⟨_, ?_, max b d, _, e, r ++ new, _, _, _, _, mMd_eq maxI, hEf.turn hwa0, (AS.set_ne _ _ hdw).trans hdf, ?_, md', ?_, rfl⟩⟩)
      · rw [wsV_len, wsV_len]
        show _ ≤ 1000000
        lia
      · rw [List.length_append]; lia
      · rw [← eW]; exact AS.set_same _ _ _
      · rw [List.length_append]; lia⟩
end
structure DpI (c : List Ins) (es : List (Nat × Nat)) : Prop where
  nd : (es.map (·.1)).Nodup
  w : ∀ p ∈ es, p.1 ≤ c.length ∧ Rch c p.1 ∧ Frc c p.1 p.2
  z : (0, 0) ∈ es
noncomputable def ClAt (c : List Ins) (es : List (Nat × Nat)) (a : Nat) : Prop := ∀ h : a < c.length, ∀ d, es.lookup a = some d → c[a].io.1 ≤ d ∧ ∀ g ∈ c[a].goals a, es.lookup g = some (c[a].go d)
noncomputable def Labels (c : List Ins) (es : List (Nat × Nat)) : Prop := es.length ≤ c.length + 1 ∧ (∀ p ∈ es, Rch c p.1 ∧ Frc c p.1 p.2) ∧ ∀ a, Rch c a → ∃ d, (a, d) ∈ es
theorem lk_mem {es : List (Nat × Nat)} {a d : Nat} (h : (es.map (·.1)).Nodup) : (a, d) ∈ es → es.lookup a = some d := by
  induction es with
  | nil => intro h; cases h
  | cons p r ih =>
    obtain ⟨b, e⟩ := p
    intro m
    rw [List.map_cons, List.nodup_cons] at h
    rw [List.lookup_cons]
    rcases List.mem_cons.mp m with q | m
    · obtain ⟨rfl, rfl⟩ := Prod.mk.inj q
      rw [beq_self_eq_true]
    · have : a ≠ b := fun q => h.1 (q ▸ List.mem_map.mpr ⟨(a, d), m, rfl⟩)
      rw [beq_eq_false_iff_ne.mpr this]
      exact ih h.2 m
theorem lk_none {es : List (Nat × Nat)} {a : Nat} (h : es.lookup a = none) : a ∉ es.map (·.1) := by
  induction es with
  | nil => intro h; cases h
  | cons p r ih =>
    obtain ⟨b, e⟩ := p
    rw [List.lookup_cons] at h
    cases q : a == b with
    | true => rw [q] at h; exact no3 h
    | false =>
      rw [q] at h
      intro m
      rcases List.mem_cons.mp m with m | m
      · rw [m] at q; simp at q
      · exact ih h m
section
variable {c : List Ins} {es es0 : List (Nat × Nat)} {a d g j : Nat}
theorem DpI.start : DpI c [(0, 0)] := ⟨by simp, fun p hp => by rw [List.mem_singleton.mp hp]; exact ⟨Nat.zero_le _, .z, .zero⟩, List.mem_singleton.mpr rfl⟩
theorem DpI.lk (x : DpI c es) (h : es.lookup a = some d) : a ≤ c.length ∧ Rch c a ∧ Frc c a d := x.w (a, d) (mem_lk h)
theorem DpI.len (x : DpI c es) : es.length ≤ c.length + 1 := by
  have h : (es.map (·.1)).length ≤ (List.range (c.length + 1)).length := x.nd.length_le_of_subset fun b hb => by
    obtain ⟨p, hp, rfl⟩ := List.mem_map.mp hb
    exact List.mem_range.mpr (Nat.lt_succ_of_le (x.w p hp).1)
  simpa using h
theorem DpI.short (x : DpI c es) (h : es.lookup a = some d) (ha : a < c.length) (hd : d < c[a].io.1) : ¬ Silent c := by
  rintro ⟨_, D, k⟩
  have : c[a].io.1 ≤ d := (x.lk h).2.2.le ha k
  exact absurd ‹_› (Nat.not_lt_of_le ‹_›)
theorem DpI.clash (x : DpI c es) (h : es.lookup a = some d) (ha : a < c.length) (hg : g ∈ c[a].goals a) {e : Nat} (q : es.lookup g = some e) (hne : e ≠ c[a].go d) : ¬ Silent c := fun s => hne (((x.lk q).2.2).eq s ((x.lk h).2.2.go ha hg))
theorem DpI.add (x : DpI c es) (ok : AllOk c) (h : es.lookup a = some d) (ha : a < c.length) (hg : g ∈ c[a].goals a) (q : es.lookup g = none) : DpI c (es ++ [(g, c[a].go d)]) := by
  refine ⟨?_, fun p hp => ?_, List.mem_append_left _ x.z⟩
  · rw [List.map_append, List.nodup_append]
    refine ⟨x.nd, by simp, fun p hp b hb => ?_⟩
    rw [List.mem_singleton.mp hb]
    exact fun (q' : p = g) => lk_none q (by rw [← q']; exact hp)
  · rcases snoc_mem hp with hp | rfl
    · exact x.w p hp
    · exact ⟨goals_le ok ha _ hg, .s (x.lk h).2.1 ha hg, (x.lk h).2.2.go ha hg⟩
theorem DpI.done (x : DpI c es) (ok : AllOk c) (cl : ∀ a, ClAt c es a) : Labels c es ∧ ((∀ d, es.lookup c.length = some d → d = 0) → Silent c) := by
  have z := lk_mem x.nd x.z
  refine ⟨⟨?_, fun p hp => (x.w p hp).2, fun a r => ?_⟩, fun h => ⟨ok, fun a => es.lookup a, z, fun a ha d hd => cl a ha d hd, h⟩⟩
  · exact x.len
  · have : ∃ d, es.lookup a = some d := by
      induction r with
      | z => exact ⟨0, z⟩
      | s r h hg ih => obtain ⟨d, e⟩ := ih; exact ⟨_, (cl _ h d e).2 _ hg⟩
    obtain ⟨d, e⟩ := this
    exact ⟨d, mem_lk e⟩
noncomputable def Lap (c : List Ins) (es0 es : List (Nat × Nat)) (j : Nat) (ex : Prop) : Prop := (es = es0 ∧ (∀ a, a < j → ClAt c es0 a) ∧ ex) ∨ ((¬ ∀ a, ClAt c es0 a) ∧ es0.length + 1 ≤ es.length)
theorem Lap.end (x : Lap c es0 es c.length True) {i : Nat} (h : (∀ a, ClAt c es0 a) ∨ i + 1 ≤ es0.length) : (∀ a, ClAt c es a) ∨ i + 1 + 1 ≤ es.length := by
  rcases x with ⟨rfl, h1, _⟩ | ⟨h1, h2⟩
  · exact .inl fun a ha => h1 a ha ha
  · exact .inr (by have := h.resolve_left h1; exact Nat.lt_of_le_of_lt ‹_› ‹_›)
theorem Lap.skip {ex : Prop} (x : Lap c es0 es j ex) (h : es.lookup j = none) : Lap c es0 es (j + 1) True :=
  x.imp (fun ⟨h1, h2, _⟩ => ⟨h1, fun a ha => (Nat.lt_succ_iff_lt_or_eq.mp ha).elim (h2 a) fun q => by rw [q, ← h1]; exact fun _ d e => (by exact no2 h e), trivial⟩) id
theorem Lap.mono {ex ex' : Prop} (x : Lap c es0 es j ex) (h : ex → ex') : Lap c es0 es j ex' := x.imp (fun ⟨h1, h2, h3⟩ => ⟨h1, h2, h h3⟩) id
theorem Lap.fill (hj : j < c.length) (x : Lap c es0 es j (∀ g ∈ c[j].goals j, es.lookup g = some (c[j].go d))) (h : es.lookup j = some d) (ht : c[j].io.1 ≤ d) : Lap c es0 es (j + 1) True :=
  x.imp (fun ⟨h1, h2, h3⟩ => ⟨h1, fun a ha => (Nat.lt_succ_iff_lt_or_eq.mp ha).elim (h2 a) fun q => by
    subst q; rw [← h1]
    exact fun hh d' e => (by obtain rfl := inj2 h e; exact ⟨ht, h3⟩), trivial⟩) id
theorem Lap.add {ex ex' : Prop} (x : Lap c es0 es j ex) (ha : j < c.length) (h : es.lookup j = some d) (hg : g ∈ c[j].goals j) (q : es.lookup g = none) {e : Nat} : Lap c es0 (es ++ [(g, e)]) j ex' := by
  refine .inr ?_
  rcases x with ⟨rfl, _, _⟩ | ⟨h1, h2⟩
  · refine ⟨fun cl => ?_, by rw [List.length_append]; exact Nat.le_refl _⟩
    have := (cl j ha d h).2 g hg
    exact no2 q this
  · exact ⟨h1, by rw [List.length_append]; exact Nat.le_succ_of_le h2⟩
end
noncomputable def esV (es : List (Nat × Nat)) : List (Int × V) := es.map fun p => ((p.1 : Int), .int p.2)
theorem esV_lk {a : Nat} : ∀ {es : List (Nat × Nat)}, (esV es).lookup (a : Int) = (es.lookup a).map fun d => .int (d : Nat)
  | [] => rfl
  | (b, e) :: r => by
    show (((b : Int), V.int e) :: esV r).lookup (a : Int) = _
    rw [List.lookup_cons, List.lookup_cons]
    by_cases q : a = b
    · rw [q, beq_self_eq_true, beq_self_eq_true]; rfl
    · rw [beq_eq_false_iff_ne.mpr q, beq_eq_false_iff_ne.mpr (fun z : (a : Int) = b => q (by lia))]
      exact esV_lk
theorem lk_app {a d : Nat} {r : List (Nat × Nat)} : ∀ {es : List (Nat × Nat)}, es.lookup a = some d → (es ++ r).lookup a = some d
  | [], h => by exact no1 h
  | (b, e) :: es, h => by
    rw [List.cons_append, List.lookup_cons]
    rw [List.lookup_cons] at h
    cases q : a == b with
    | true => rw [q] at h; exact h
    | false => rw [q] at h; exact lk_app h
theorem gV_get {l : List Nat} {i : Nat} {x : V} (h : (gV l)[i]? = some x) : ∃ hi : i < l.length, x = .int l[i] := by
  unfold gV at h
  rw [List.getElem?_map] at h
  obtain ⟨g, hg, rfl⟩ := Option.map_eq_some_iff.mp h
  obtain ⟨hi, rfl⟩ := List.getElem?_eq_some_iff.mp hg
  exact ⟨hi, rfl⟩
section
variable {w : World} {hB : Heap} {os0 : OsState} {n : Nat} {la : Addr} {ns : List Int} {fns : List (Str × Spec)} {mes : List ((Addr × Str) × Spec)} {xs : List (Str × Addr)}
theorem law_goals {C : Cx} {P : Post} {R : RP} {x : Ins} {j : Nat} {a0 a1 a2 a3 a7 a8 o9 o10 : Option V} {σ : AS} {k : Nat} (hI : x.In) (hk : x.ok k = true)
    (h : ∀ g σ', Ext σ σ' → σ g = none → σ' g = some (.list (gV (x.goals j))) → rsts C R [a0, a1, a2, a3, some (.int j), some (.str x.op), some x.w, a7, a8, some (.ref g), o10] σ' P) :
    rsts C (.cons (.setl 9 (.ife (.cmp .Eq (.loc 5) (.cst (.str "jump"))) (.lst (.cons (.loc 6) .nil)) (.ife (.cmp .In (.loc 5) (.tup (.cons (.cst (.str "unless")) (.cons (.cst (.str "when")) .nil)))) (.lst (.cons (.bin .Add (.loc 4) (.cst (.int 1))) (.cons (.loc 6) .nil))) (.lst (.cons (.bin .Add (.loc 4) (.cst (.int 1))) .nil)))))
      (.cons (.ife (.and (.cons (.cmp .Eq (.loc 5) (.cst (.str "word"))) (.cons (.cmp .Eq (.sli (.loc 6) .no (.some (.cst (.int 2)))) (.cst (.str "YY"))) .nil))) (.cons (.setl 9 (.lst .nil)) .nil) .nil) R))
      [a0, a1, a2, a3, some (.int j), some (.str x.op), some x.w, a7, a8, o9, o10] σ P := by
  have key : ∀ {l : List V}, gV (x.goals j) = l → ∀ g, σ g = none → rsts C R [a0, a1, a2, a3, some (.int j), some (.str x.op), some x.w, a7, a8, some (.ref g), o10] (σ.set g (.list l)) P := fun e g hg => h g _ (Ext.new hg) hg (by rw [e]; exact AS.set_same _ _ _)
  have nil : gV (x.goals j) = [] → ∀ {l : List V} g, σ g = none → ∀ f, (σ.set g (.list l)) f = none → rsts C R [a0, a1, a2, a3, some (.int j), some (.str x.op), some x.w, a7, a8, some (.ref f), o10] ((σ.set g (.list l)).set f (.list [])) P := fun e l g hg f hf => h f _ ((Ext.new hg).trans (Ext.new hf)) (by
    refine isN fun o q => ?_
    have := Ext.new (o := .list l) hg f (by rw [q]; simp); rw [hf, q] at this; exact no1 this) (by rw [e]; exact AS.set_same _ _ _)
  clear h
  cases x with
  | jmp k g => match k with
    | 0 => exact fun g hg _ => key rfl g hg
    | 1 => exact fun g hg _ => key rfl g hg
    | _ + 2 => exact fun g hg _ => key rfl g hg
  | word s =>
    clear hk
    revert s
    exact all_cons (fun key _ g hg _ => ⟨trivial, ⟨by decide, by decide⟩, by decide +kernel, key rfl g hg⟩) (all_cons (fun key _ g hg _ => ⟨trivial, ⟨by decide, by decide⟩, by decide +kernel, key rfl g hg⟩)
      (all_cons (fun _ nil g hg _ => ⟨trivial, ⟨by decide, by decide⟩, by decide +kernel, fun f hf _ => nil rfl g hg f hf⟩) (all_cons (fun _ nil g hg _ => ⟨trivial, ⟨by decide, by decide⟩, by decide +kernel, fun f hf _ => nil rfl g hg f hf⟩) (all_cons (fun _ nil g hg _ => ⟨trivial, ⟨by decide, by decide⟩, by decide +kernel, fun f hf _ => nil rfl g hg f hf⟩) all_nil))))
  | bad s w => exact bft hk
  | _ => exact fun g hg _ => key rfl g hg
inductive SpDepths (vs : List V) (σ : AS) (Q : PQ) (X : PXx) : Prop where
  | mk : ∀ ca c, (vs = [.ref ca]) → (σ ca = some (.list (codeV c))) → (∀ x ∈ c, x.In) → (c.length ≤ 100) → (∀ σ', Ext σ σ' → ¬ Silent c → Q .none σ') → (∀ da es σ', Ext σ σ' → σ da = none → σ' da = some (.di (esV es)) → Silent c → Labels c es → Q (.ref da) σ') → SpDepths vs σ Q X
noncomputable def spDepths : Spec := SpDepths
theorem stV_ok {x : Ins} {n : Nat} (h : x.ok n = true) : stV x n = ioV x.io := by unfold stV; rw [if_pos h]
theorem stV_none {x : Ins} {n : Nat} : (stV x n).isNone = !x.ok n := by
  unfold stV
  cases x.ok n <;> rfl
theorem flat_snoc {l : List V} {v : V} (h : V.flats l = true ∧ V.deps l ≤ 60) (hv : v.flat = true ∧ v.dep ≤ 60) : V.flats (l ++ [v]) = true ∧ V.deps (l ++ [v]) ≤ 60 := by
  refine ⟨?_, by rw [V.deps_append]; exact Nat.max_le.mpr ⟨h.2, Nat.max_le.mpr ⟨hv.2, Nat.zero_le _⟩⟩⟩
  induction l with
  | nil => exact Bool.and_eq_true_iff.mpr ⟨hv.1, rfl⟩
  | cons a l ih => exact Bool.and_eq_true_iff.mpr ⟨(and2 h.1).1, ih ⟨(and2 h.1).2, Nat.le_trans (Nat.le_max_right _ _) h.2⟩⟩
theorem Ins.In.wf {x : Ins} (h : x.In) : x.w.flat = true ∧ x.w.dep ≤ 0 := by
  cases x with
  | push w => exact (all_cons ⟨rfl, Nat.le_refl _⟩ (all_cons ⟨rfl, Nat.le_refl _⟩ (all_cons ⟨rfl, Nat.le_refl _⟩ (all_cons ⟨rfl, Nat.le_refl _⟩ (all_cons ⟨rfl, Nat.le_refl _⟩ all_nil)))) : ∀ w ∈ pushed, w.flat = true ∧ w.dep ≤ 0) w h
  | bad s t => exact (all_cons ⟨rfl, Nat.le_refl _⟩ (all_cons ⟨rfl, Nat.le_refl _⟩ (all_cons ⟨rfl, Nat.le_refl _⟩ (all_cons ⟨rfl, Nat.le_refl _⟩ (all_cons ⟨rfl, Nat.le_refl _⟩ (all_cons ⟨rfl, Nat.le_refl _⟩ (all_cons ⟨rfl, Nat.le_refl _⟩ (all_cons ⟨rfl, Nat.le_refl _⟩ (all_cons ⟨rfl, Nat.le_refl _⟩ (all_cons ⟨rfl, Nat.le_refl _⟩ (all_cons ⟨rfl, Nat.le_refl _⟩ all_nil)))))))))) : ∀ x ∈ bads, x.2.flat = true ∧ x.2.dep ≤ 0) (s, t) h
  | _ => exact ⟨rfl, Nat.le_refl _⟩
theorem Ins.In.vf {x : Ins} (h : x.In) : x.v.flat = true ∧ x.v.dep ≤ 1 :=
  ⟨Bool.and_eq_true_iff.mpr ⟨h.wf.1, rfl⟩, Nat.succ_le_succ (Nat.max_le.mpr ⟨Nat.le_refl _, Nat.max_le.mpr ⟨h.wf.2, Nat.le_refl _⟩⟩)⟩
noncomputable def mLd (ca da : Addr) (k : Nat) (x3 x4 x5 x6 x7 x8 x9 x10 : Option V) : M := [some (.ref ca), some (.int k), some (.ref da), x3, x4, x5, x6, x7, x8, x9, x10]
inductive LdA (ca da : Addr) (c : List Ins) (σ : AS) (q : List (Nat × Nat) → Prop) (m' : M) (σ' : AS) : Prop where
  | mk (es : List (Nat × Nat)) (x3 x4 x5 x6 x7 x8 x9 x10 : Option V) (e : m' = mLd ca da c.length x3 x4 x5 x6 x7 x8 x9 x10) (ext : Ext σ σ') (hd : σ' da = some (.di (esV es))) (dp : DpI c es) (hq : q es)
inductive LdB (ca da g : Addr) (c : List Ins) (x : Option V) (j d : Nat) (y : Ins) (σ : AS) (q : List (Nat × Nat) → Prop) (m' : M) (σ' : AS) : Prop where
  | mk (es : List (Nat × Nat)) (x10 : Option V) (e : m' = mLd ca da c.length x (some (.int j)) (some (.str y.op)) (some y.w) (some (.int y.io.1)) (some (.int y.io.2)) (some (.ref g)) x10) (ext : Ext σ σ') (hd : σ' da = some (.di (esV es))) (hg : σ' g = some (.list (gV (y.goals j)))) (dp : DpI c es) (ql : es.lookup j = some d) (hq : q es)
theorem LdB.g' {ca da g : Addr} {c : List Ins} {x : Option V} {j d : Nat} {y : Ins} {σ : AS} {q : List (Nat × Nat) → Prop} {m' : M} {σ' : AS} (h : LdB ca da g c x j d y σ q m' σ') : σ' g = some (.list (gV (y.goals j))) := by cases h; assumption
theorem does_law_depths (cx : CxO (kC w la ns fns mes xs) pw w hB os0 n) (y : KYP w hB) (h1 : fns.lookup (Str.ofString "_law_stands") = some spStands) : Does pw w hB os0 (n + 1) (.ref 462) spDepths :=
  in__law_depths cx y fun vs σ Q X ro ⟨ca, c, e, hl, hI, hz, hq0, hq1⟩ => ⟨_, e, post_gen fun P hr _ _ => by
    have hlen := codeV_len (c := c)
    have bad : ∀ σ', Ext σ σ' → ¬ Silent c → P.r .none σ' := fun σ' e h => hr _ _ (hq0 σ' e h)
    have hca : ∀ {σ' : AS}, Ext σ σ' → σ' ca = some (.list (codeV c)) := fun e => (e ca (by rw [hl]; simp)).trans hl
    refine len_list hl ?_
    rw [hlen]
    refine oL_i hl ⟨fun i acc σ' => Ext σ σ' ∧ acc.length ≤ i ∧ (acc = [] → ∀ k (h : k < c.length), k < i → c[k].ok c.length = true) ∧ (acc ≠ [] → ¬ Silent c) ∧ V.flats acc = true ∧ V.deps acc ≤ 60,
      ⟨Ext.refl, Nat.le_refl _, fun _ k _ h => absurd h (Nat.not_lt_zero k), fun h => absurd rfl h, rfl, Nat.zero_le _⟩, by rw [hlen]; exact Nat.le_trans ‹_› (by decide), fun i acc σ₂ h => ⟨hca h.1, h.2.1⟩, ?_, ?_⟩
    · rintro i acc σ₂ x hx ⟨hE, hal, ha1, ha2, hf⟩
      have hi : i < c.length := by have := (List.getElem?_eq_some_iff.mp hx).1; rwa [hlen] at this
      rw [codeV_get hi] at hx
      obtain rfl := Option.some.inj hx
      have hIi := hI _ (List.getElem_mem hi)
      refine oS_i h1 ⟨c[i], c.length, rfl, hIi, fun σ₃ e₃ => ?_⟩
      refine onB_of (fun z => ⟨hE.trans e₃, by rw [List.length_append]; exact Nat.succ_le_succ hal, fun q => absurd q (by simp), fun _ s => ?_, flat_snoc hf ⟨hIi.vf.1, Nat.le_trans hIi.vf.2 (by decide)⟩⟩) fun z => ⟨hE.trans e₃, Nat.le_succ_of_le hal, fun q k h hk => ?_, ha2, hf⟩
      · rw [stV_none, s.1 _ (List.getElem_mem hi)] at z; exact bft z
      · rcases Nat.lt_succ_iff_lt_or_eq.mp hk with hk | rfl
        · exact ha1 q k h hk
        · rw [stV_none] at z
          simpa using z
    · rintro acc σ₂ ⟨hE, _, ha1, ha2, hf⟩ fa hfa _
      refine ne_nil (AS.set_same _ _ _) hf.1 hf.2 fun e₁ he _ => ?_
      have hE := (hE.trans (Ext.new (o := .list acc) hfa)).trans (Ext.new (o := .list []) he)
      generalize (σ₂.set fa (.list acc)).set e₁ (.list []) = σ₃ at hE
      cases acc with
      | cons v r => exact bad _ hE (ha2 (by simp))
      | nil =>
        have ok : AllOk c := fun x hx => by
          obtain ⟨k, hk', rfl⟩ := List.getElem_of_mem hx
          exact ha1 rfl k hk' (by rw [hlen]; exact hk')
        clear ha1 ha2 hf
        refine fun da hda _ => ⟨⟨by exact Int.natCast_nonneg _, by lia⟩, ?_⟩
        have hda0 : σ da = none := by
          refine isN fun o q => ?_
          have := hE da (by rw [q]; simp); rw [hda, q] at this; exact no1 this
        refine ⟨fun i => LdA ca da c σ fun es => (∀ a, ClAt c es a) ∨ i + 1 ≤ es.length,
          ⟨[(0, 0)], _, _, _, _, _, _, _, _, rfl, hE.trans (Ext.new hda), AS.set_same _ _ _, .start, .inr (Nat.le_refl _)⟩, fun _ _ _ _ => trivial, ?_, ?_⟩
        · rintro i m' σ' x hx ⟨es0, x3, x4, x5, x6, x7, x8, x9, x10, rfl, hE, hd, dp, hc⟩
          refine ⟨⟨by exact Int.natCast_nonneg _, by lia⟩, fun j => LdA ca da c σ fun es => Lap c es0 es j True,
            ⟨es0, _, _, _, _, _, _, _, _, rfl, hE, hd, dp, .inl ⟨rfl, fun a h => absurd h (Nat.not_lt_zero a), trivial⟩⟩, fun _ _ _ _ => trivial, ?_, ?_⟩
          · rintro j m' σ' x' hx' ⟨es, x3, x4, x5, x6, x7, x8, x9, x10, rfl, hE, hd, dp, lap⟩
            have hj : j < c.length := by have := (List.getElem?_eq_some_iff.mp hx').1; rw [rangeV_len] at this; assumption
            obtain rfl := rangeV_get hx'
            refine hidP fun P' hn hr' => ?_
            have bad := fun σ e h => hr' _ _ (bad σ e h)
            clear hr'
            refine oDi_i (look_same hd) ?_
            rw [esV_lk]
            cases q : es.lookup j with
            | none => exact hn _ _ ⟨es, _, _, _, _, _, _, _, _, rfl, hE, hd, dp, lap.skip q⟩
            | some d =>
              have lkj : ∀ {es : List (Nat × Nat)}, es.lookup j = some d → (esV es).lookup (j : Int) = some (.int (d : Nat)) := fun q => by rw [esV_lk, q]; rfl
              have hIj := hI _ (List.getElem_mem hj)
              have hkj := ok _ (List.getElem_mem hj)
              refine oLD_l (hca hE) (oS_i (codeV_get hj) (oS_i h1 (oLD_l (hca hE) (oS_i (codeV_get hj) ⟨c[j], c.length, rfl, hIj, fun σ₁ e₁ => ?_⟩))))
              rw [stV_ok hkj]
              have hE := hE.trans e₁
              have hd : σ₁ da = some (.di (esV es)) := (e₁ da (by rw [hd]; simp)).trans hd
              refine oLD_d hd (oS_i (lkj q) (onB_of (fun z => bad _ hE (dp.short q hj (by have := of_decide_eq_true z; lia))) fun z => ?_))
              have ht : c[j].io.1 ≤ d := by have := of_decide_eq_false z; lia
              refine law_goals hIj hkj fun g σ₂ e₂ hg0 hg => ?_
              have hE := hE.trans e₂
              have hd : σ₂ da = some (.di (esV es)) := (e₂ da (by rw [hd]; simp)).trans hd
              have hgd : g ≠ da := fun q => by rw [q, hd] at hg; cases hg
              have ego : (d : Int) - (c[j].io.1 : Int) + (c[j].io.2 : Int) = ((c[j].go d : Nat) : Int) := by unfold Ins.go; grind
              refine oL_i hg ⟨fun t => LdB ca da g c x3 j d c[j] σ fun es => Lap c es0 es j (∀ s (h : s < (c[j].goals j).length), s < t → es.lookup (c[j].goals j)[s] = some (c[j].go d)),
                ⟨es, _, rfl, hE, hd, hg, dp, q, lap.mono fun _ s _ h => absurd h (Nat.not_lt_zero s)⟩, fun t m' σ' h => h.g', ?_, ?_⟩
              · rintro t m' σ' x' hx' ⟨es, x10, rfl, hE, hd, hg, dp, q, lap⟩
                obtain ⟨ht', rfl⟩ := gV_get hx'
                refine hidP fun P' hn hr' => ?_
                have bad := fun σ e h => hr' _ _ (bad σ e h)
                clear hr'
                have hmem := List.getElem_mem ht'
                refine met_di hd (oLD_d hd (oS_i (lkj q) (oDi_i hd ⟨?_, ?_⟩)))
                · unfold esV; rw [List.length_map]; have := dp.len; lia
                rw [ego, esV_lk]
                cases qg : es.lookup (c[j].goals j)[t] with
                | some e =>
                  refine oLD_d (AS.set_same _ _ _) (oS_i (lkj q) (onB_of (fun z => ?_) fun z => ?_))
                  · have z : (!((e : Int) == (d : Int) - (c[j].io.1 : Int) + (c[j].io.2 : Int))) = true := z
                    rw [ego] at z
                    exact bad _ (hE.turn hda0) (dp.clash q hj hmem qg (nieq z))
                  · have z2 : (!((e : Int) == (d : Int) - (c[j].io.1 : Int) + (c[j].io.2 : Int))) = false := z
                    rw [ego] at z2
                    refine hn _ _ ⟨es, _, rfl, hE.turn hda0, AS.set_same _ _ _, (AS.set_ne _ _ hgd).trans hg, dp, q, lap.mono fun h s hs hst => ?_⟩
                    rcases Nat.lt_succ_iff_lt_or_eq.mp hst with hst | rfl
                    · exact h s hs hst
                    · rw [qg, nine z2]
                | none =>
                  have eE : esV es ++ [(((c[j].goals j)[t] : Int), V.int ((c[j].go d : Nat) : Int))] = esV (es ++ [((c[j].goals j)[t], c[j].go d)]) := by unfold esV; rw [List.map_append]; rfl
                  show (fun v σ₁ => _) (V.int ((c[j].go d : Nat) : Int)) (σ'.set da (.di (esV es ++ [(((c[j].goals j)[t] : Int), V.int ((c[j].go d : Nat) : Int))])))
                  rw [eE]
                  refine oLD_d (AS.set_same _ _ _) (oS_i (lkj (lk_app q)) (onB_of (fun z => ?_) fun z => ?_))
                  · have z : (!((c[j].go d : Nat) : Int) == (d : Int) - (c[j].io.1 : Int) + (c[j].io.2 : Int)) = true := z
                    rw [ego] at z
                    exact absurd rfl (nieq z)
                  · exact hn _ _ ⟨_, _, rfl, hE.turn hda0, AS.set_same _ _ _, (AS.set_ne _ _ hgd).trans hg, dp.add ok q hj hmem qg, lk_app q, lap.add hj q hmem qg⟩
              · rintro m' σ' ⟨es, x10, rfl, hE, hd, hg, dp, q, lap⟩
                refine hn _ _ ⟨es, _, _, _, _, _, _, _, _, rfl, hE, hd, dp, Lap.fill hj (lap.mono fun h g hg => ?_) q ht⟩
                obtain ⟨s, hs, rfl⟩ := List.getElem_of_mem hg
                exact h s hs (by unfold gV; rw [List.length_map]; exact hs)
          · rintro m' σ' ⟨es, x3, x4, x5, x6, x7, x8, x9, x10, rfl, hE, hd, dp, lap⟩
            have e3 : (rangeV (c.length : Int)).length = c.length := by rw [rangeV_len]; rfl
            rw [e3] at lap
            exact ⟨es, _, _, _, _, _, _, _, _, rfl, hE, hd, dp, lap.end hc⟩
        · rintro m' σ' ⟨es, x3, x4, x5, x6, x7, x8, x9, x10, rfl, hE, hd, dp, hc⟩
          rw [rangeV_len] at hc
          have cl : ∀ a, ClAt c es a := hc.resolve_right fun h => by have := dp.len; exact absurd ‹_› (Nat.not_lt_of_le ‹_›)
          obtain ⟨lb, sil⟩ := dp.done ok cl
          refine met_di hd (oDi_i hd ?_)
          rw [esV_lk]
          cases q : es.lookup c.length with
          | none => exact hr _ _ (hq1 da es _ hE hda0 hd (sil fun d h => by exact no2 q h) lb)
          | some d =>
            refine onB_of (fun z => bad _ hE fun ⟨_, D, k⟩ => ?_) fun z => hr _ _ (hq1 da es _ hE hda0 hd (sil fun d' h => by obtain rfl := inj2 q h; have := of_decide_eq_false z; lia) lb)
            have h1 := k.e d ((dp.lk q).2.2 D k)
            have := of_decide_eq_true z
            lia⟩
end
noncomputable def free10 (s : Str) : Prop := (10 : Nat) ∉ s.cps.toList
theorem cut_at {a b x y : List Nat} (ha : (10 : Nat) ∉ a) (hb : (10 : Nat) ∉ b) (h : a ++ 10 :: x = b ++ 10 :: y) : a = b ∧ x = y := by
  induction a generalizing b with
  | nil => cases b with
    | nil => exact ⟨rfl, (List.cons.inj h).2⟩
    | cons k r => exact absurd (by rw [← (List.cons.inj h).1]; exact .head _) hb
  | cons k a ih => cases b with
    | nil => exact absurd (by rw [(List.cons.inj h).1]; exact .head _) ha
    | cons k' r =>
      obtain ⟨h1, h2⟩ := List.cons.inj h
      obtain ⟨h3, h4⟩ := ih (fun m => ha (.tail _ m)) (fun m => hb (.tail _ m)) h2
      exact ⟨by rw [h1, h3], h4⟩
theorem str_ext {a b : Str} (h : a.cps.toList = b.cps.toList) : a = b := by
  obtain ⟨a⟩ := a; obtain ⟨b⟩ := b
  exact congrArg _ (Array.toList_inj.mp h)
theorem join_list (a b : Str) (r : List Str) : (Str.join ⟨#[10]⟩ (a :: b :: r)).cps.toList = a.cps.toList ++ 10 :: (Str.join ⟨#[10]⟩ (b :: r)).cps.toList := by
  show ((a.cps ++ #[10]) ++ (Str.join ⟨#[10]⟩ (b :: r)).cps).toList = _
  rw [Array.toList_append, Array.toList_append, List.append_assoc]; rfl
theorem join_inj {A : List Str} : ∀ {B : List Str}, A ≠ [] → B ≠ [] → (∀ s ∈ A, free10 s) → (∀ s ∈ B, free10 s) → Str.join ⟨#[10]⟩ A = Str.join ⟨#[10]⟩ B → A = B := by
  induction A with
  | nil => exact fun h => absurd rfl h
  | cons a r ih =>
    intro B _ h0 ha hb h
    cases B with
    | nil => exact absurd rfl h0
    | cons b r' =>
      have h2 := congrArg (fun s : Str => s.cps.toList) h
      cases r with
      | nil =>
        cases r' with
        | nil => exact congrArg (fun x => [x]) h
        | cons b' r' =>
          rw [join_list] at h2
          exact absurd (by rw [show a.cps.toList = _ from h2]; simp) (ha a (.head _))
      | cons a' r =>
        cases r' with
        | nil =>
          rw [join_list] at h2
          exact absurd (by rw [show b.cps.toList = _ from h2.symm]; simp) (hb b (.head _))
        | cons b' r' =>
          rw [join_list, join_list] at h2
          obtain ⟨h1, h2⟩ := cut_at (ha a (.head _)) (hb b (.head _)) h2
          rw [str_ext h1, ih (B := b' :: r') nofun nofun (fun s m => ha s (.tail _ m)) (fun s m => hb s (.tail _ m)) (str_ext h2)]
theorem split_rows {ss : List Str} (h0 : ss ≠ []) (h : ∀ s ∈ ss, free10 s) : Txt.split (Txt.join (Str.ofString "\n") ss) (Str.ofString "\n") = ss := by
  have e : Str.ofString "\n" = ⟨#[10]⟩ := by kernel_rfl
  rw [e, show Txt.join ⟨#[10]⟩ ss = Str.join ⟨#[10]⟩ ss from StrLaws.glued_eq_join ..]
  refine join_inj (fun q => ?_) h0 (fun s m => StrLaws.split_free _ _ _ m) h (StrLaws.join_split _ _)
  have := split_pos (Str.join ⟨#[10]⟩ ss) ⟨#[10]⟩
  rw [q] at this
  exact absurd this (by decide)
noncomputable def niceB (n : Nat) (s : Str) : Bool := decide (s.length ≤ n) && s.cps.toList.all (· != 10)
theorem nice_free {n : Nat} {s : Str} (h : niceB n s = true) : free10 s := fun m => by
  have := List.all_eq_true.mp (and2 h).2 10 m
  exact bft this
theorem nice_len {n : Nat} {s : Str} (h : niceB n s = true) : s.length ≤ n := of_decide_eq_true (and2 h).1
theorem nice_add {n m : Nat} {a b : Str} (h : niceB n a = true) (h' : niceB m b = true) : niceB (n + m) (a ++ b) = true := by
  have l : (a ++ b).length = a.length + b.length := strLen_append a b
  refine Bool.and_eq_true_iff.mpr ⟨decide_eq_true (by rw [l]; exact Nat.add_le_add (nice_len h) (nice_len h')), ?_⟩
  show (a.cps ++ b.cps).toList.all _ = true
  rw [Array.toList_append, List.all_append, (and2 h).2, (and2 h').2]; rfl
theorem nice_num : ((List.range 1004).all fun k => niceB 10 (Str.ofString (toString ((k : Int) - 1)))) = true := by decide +kernel
theorem num_nice {k : Int} (h0 : -1 ≤ k) (h : k ≤ 1002) : niceB 10 (Str.ofString (toString k)) = true := by
  have := List.all_eq_true.mp nice_num (k + 1).toNat (List.mem_range.mpr (by lia))
  have e : (((k + 1).toNat : Int) - 1) = k := by lia
  rw [e] at this
  exact this
noncomputable def wS : V → Str
  | .int k => Str.ofString " " ++ Str.ofString (toString k)
  | .str s => Str.ofString " " ++ PySem.reprText s
  | _ => Str.ofString ""
noncomputable def rowS (i : Nat) (x : Ins) : Str := ((Str.ofString (toString (i : Int)) ++ Str.ofString " ") ++ x.op) ++ wS x.w
noncomputable def rowsS : Nat → List Ins → List Str
  | _, [] => []
  | i, x :: r => rowS i x :: rowsS (i + 1) r
theorem rowsS_len : ∀ {c : List Ins} {i : Nat}, (rowsS i c).length = c.length
  | [], _ => rfl
  | _ :: c, i => congrArg (· + 1) (rowsS_len (c := c) (i := i + 1))
theorem rowsS_get : ∀ {c : List Ins} {i k : Nat} (h : k < c.length), (rowsS i c)[k]? = some (rowS (i + k) c[k])
  | x :: c, i, 0, _ => rfl
  | x :: c, i, k + 1, h => by
    have := rowsS_get (c := c) (i := i + 1) (k := k) (Nat.lt_of_succ_lt_succ h)
    rw [show i + 1 + k = i + (k + 1) by lia] at this
    exact this
noncomputable def textB (s : Str) : Bool := sfB (PySem.reprText s) && niceB 30 (PySem.reprText s)
noncomputable def wOk (v : V) : Prop := v = .none ∨ (∃ k : Int, v = .int k ∧ -1 ≤ k ∧ k ≤ 1002) ∨ ∃ s, v = .str s ∧ textB s = true
theorem wOk_int {k : Int} (h : -1 ≤ k := by decide) (h' : k ≤ 1002 := by decide) : wOk (.int k) := .inr (.inl ⟨k, rfl, h, h'⟩)
theorem wOk_str {s : Str} (h : textB s = true := by decide +kernel) : wOk (.str s) := .inr (.inr ⟨s, rfl, h⟩)
theorem opn (s : String) (h : niceB 10 (Str.ofString s) = true := by decide +kernel) : niceB 10 (Str.ofString s) = true := h
theorem Ins.In.wOk {x : Ins} (h : x.In) : Mine.wOk x.w ∧ niceB 10 x.op = true := by
  cases x with
  | jmp k i => exact ⟨wOk_int (by exact Int.natCast_nonneg _) (by have := h.2; lia), match k with | 0 => opn "jump" | 1 => opn "unless" | _ + 2 => opn "when"⟩
  | push w => exact ⟨(all_cons wOk_int (all_cons wOk_int (all_cons wOk_str (all_cons wOk_str (all_cons wOk_int all_nil)))) : ∀ w ∈ pushed, Mine.wOk w) w h, opn "push"⟩
  | arg k => exact ⟨wOk_int (by exact Int.natCast_nonneg _) (by have := h.2; lia), opn "arg"⟩
  | two s => exact ⟨(all_cons wOk_str (all_cons wOk_str (all_cons wOk_str (all_cons wOk_str (all_cons wOk_str all_nil)))) : ∀ s ∈ signs, Mine.wOk (.str s)) s h, opn "two"⟩
  | one s => exact ⟨by rcases h with rfl | rfl <;> exact wOk_str, opn "one"⟩
  | list k => exact ⟨wOk_int (by exact Int.natCast_nonneg _) (by have : k ≤ 2 := h; lia), opn "list"⟩
  | apply s k => exact ⟨(all_cons wOk_str (all_cons wOk_str (all_cons wOk_str (all_cons wOk_str (all_cons wOk_str (all_cons wOk_str (all_cons wOk_str (all_cons wOk_str (all_cons wOk_str (all_cons wOk_str (all_cons wOk_str all_nil)))))))))) : ∀ x ∈ wordsN, Mine.wOk (.str x.1)) (s, k) h, opn "apply"⟩
  | word s => exact ⟨(all_cons wOk_str (all_cons wOk_str (all_cons wOk_str (all_cons wOk_str (all_cons wOk_str all_nil)))) : ∀ s ∈ words0, Mine.wOk (.str s)) s h, opn "word"⟩
  | get => exact ⟨wOk_str, opn "get"⟩
  | put => exact ⟨wOk_str, opn "put"⟩
  | bad s t =>
    have all : (bads.all fun x => niceB 10 x.1) = true := by decide +kernel
    exact ⟨(all_cons wOk_str (all_cons wOk_int (all_cons wOk_int (all_cons wOk_int (all_cons wOk_str (all_cons wOk_str (all_cons wOk_str (all_cons wOk_str (all_cons (.inl rfl) (all_cons (.inl rfl) (all_cons wOk_str all_nil)))))))))) : ∀ x ∈ bads, Mine.wOk x.2) (s, t) h, List.all_eq_true.mp all (s, t) h⟩
  | own => exact ⟨.inl rfl, opn "own"⟩
  | truth => exact ⟨.inl rfl, opn "truth"⟩
  | set => exact ⟨.inl rfl, opn "set"⟩
  | drop => exact ⟨.inl rfl, opn "drop"⟩
  | fresh => exact ⟨.inl rfl, opn "fresh"⟩
theorem wS_nice {v : V} (h : wOk v) : niceB 40 (wS v) = true := by
  rcases h with rfl | ⟨k, rfl, h0, h1⟩ | ⟨s, rfl, h⟩
  · decide +kernel
  · have := nice_add (n := 30) (a := Str.ofString " ") (by decide +kernel) (num_nice h0 h1)
    exact this
  · have := nice_add (n := 10) (a := Str.ofString " ") (by decide +kernel) (and2 h).2
    exact this
theorem row_nice {x : Ins} (h : x.In) {i : Nat} (hi : i ≤ 1000) : niceB 70 (rowS i x) = true := by
  have := nice_add (nice_add (nice_add (num_nice (k := i) (by exact Int.natCast_nonneg _) (by lia)) (show niceB 10 (Str.ofString " ") = true by decide +kernel)) h.wOk.2) (wS_nice h.wOk.1)
  exact this
theorem rows_nice : ∀ {c : List Ins} {i : Nat}, (∀ x ∈ c, x.In) → i + c.length ≤ 1000 → ∀ s ∈ rowsS i c, niceB 70 s = true
  | [], _, _, _, _, h => by cases h
  | x :: c, i, hI, hi, s, h => by
    rcases List.mem_cons.mp h with rfl | h
    · exact row_nice (hI x (.head _)) (by simp at hi; lia)
    · exact rows_nice (fun x m => hI x (.tail _ m)) (by simp at hi; lia) s h
theorem le_most {n : Nat} (h : n ≤ 2000) : decide (n ≤ strMost) = true := decide_eq_true (le_str h)
noncomputable abbrev worthE (p : Nat) : RE := .ife (.cmp .Is (.sub (.loc p) (.cst (.int 1))) (.cst .none)) (.cst (.str "")) (.bin .Add (.cst (.str " ")) (.ife (.isi (.sub (.loc p) (.cst (.int 1))) ["int"]) (.bi .str (.cons (.sub (.loc p) (.cst (.int 1))) .nil)) (.bi .repr (.cons (.sub (.loc p) (.cst (.int 1))) .nil))))
noncomputable abbrev rowE (q p r : Nat) : RE := .bin .Add (.bin .Add (.bin .Add (.bi .str (.cons (.loc q) .nil)) (.cst (.str " "))) (.sub (.loc p) (.cst (.int 0)))) (.loc r)
section
variable {C : Cx} {m : M} {σ : AS} {x : Ins} {Q : PQ} {E : PXx}
theorem oSS {α : Type} {o : Option (Option α)} {k : α → Prop} {v : α} (h : o = some (some v)) (q : k v) : oS o fun x => oS x k := by cases h; exact q
theorem worth_ok {p : Nat} (hm : m[p]? = some (some x.v)) (h : x.In) (q : Q (.str (wS x.w)) σ) : rev C (worthE p) m σ Q E := by
  have k := wS_nice h.wOk.1
  refine oSS hm ?_
  unfold Ins.v at hm ⊢
  rcases h.wOk.1 with e | ⟨k, e, h0, h1⟩ | ⟨s, e, ht⟩
  · rw [e] at q ⊢; exact q
  · rw [e] at hm q ⊢
    have l := nice_len (num_nice h0 h1)
    have z : (Str.ofString " ").length + (Str.ofString (toString k)).length ≤ 2000 := Nat.le_trans (Nat.add_le_add (by decide +kernel : _ ≤ 10) l) (by decide)
    exact oSS hm (oSS hm ⟨Nat.lt_of_lt_of_le (show k.natAbs < 2 ^ 10 by lia) (Nat.pow_le_pow_right (by decide) (by decide)), onB_i (le_most z) q⟩)
  · rw [e] at hm q ⊢
    have l := nice_len (and2 ht).2
    have z : (Str.ofString " ").length + (PySem.reprText s).length ≤ 2000 := Nat.le_trans (Nat.add_le_add (by decide +kernel : _ ≤ 10) l) (by decide)
    exact oSS hm (oSS hm ⟨sfB_ok (and2 ht).1, le_str (Nat.le_trans l (by decide)), onB_i (le_most z) q⟩)
theorem row_ok {i p qq r : Nat} (hi : i ≤ 1000) (hq : m[qq]? = some (some (.int i))) (hp : m[p]? = some (some x.v)) (hr : m[r]? = some (some (.str (wS x.w)))) (h : x.In) (q : Q (.str (rowS i x)) σ) : rev C (rowE qq p r) m σ Q E := by
  have n1 := num_nice (k := i) (by exact Int.natCast_nonneg _) (by lia)
  have n2 := nice_add n1 (show niceB 10 (Str.ofString " ") = true by decide +kernel)
  have n3 := nice_add n2 h.wOk.2
  have z1 : (Str.ofString (toString (i : Int))).length + (Str.ofString " ").length ≤ 2000 := Nat.le_trans (Nat.add_le_add (nice_len n1) (by decide +kernel : _ ≤ 10)) (by decide)
  have z2 := Nat.le_trans (Nat.add_le_add (nice_len n2) (nice_len h.wOk.2)) (by decide : 10 + 10 + 10 ≤ 2000)
  have z3 := Nat.le_trans (Nat.add_le_add (nice_len n3) (nice_len (wS_nice h.wOk.1))) (by decide : 10 + 10 + 10 + 40 ≤ 2000)
  exact oSS hq ⟨num_ok (by exact Nat.le_succ_of_le ‹_›), onB_i (le_most z1) (oSS hp (onB_i (le_most z2) (oSS hr (onB_i (le_most z3) q))))⟩
theorem row_step {i p qq r l : Nat} {ra : Addr} {rows : List V} {P : Post} (hi : i ≤ 1000) (hl : σ ra = some (.list rows)) (hz : rows.length ≤ 1000) (h0 : m[p]? = some (some x.v)) (hlt : r < m.length) (h1 : ∀ v, (m.set r v)[p]? = some (some x.v)) (h2 : ∀ v, (m.set r v)[qq]? = some (some (.int i)))
    (h3 : ∀ v, (m.set r v)[l]? = some (some (.ref ra))) (h : x.In) (q : P.n (m.set r (some (.str (wS x.w)))) (σ.set ra (.list (rows ++ [.str (rowS i x)])))) :
    rsts C (.cons (.setl r (worthE p)) (.cons (.exp (.met (.loc l) "append" (.cons (rowE qq p r) .nil))) .nil)) m σ P :=
  worth_ok h0 h (onB_i (decide_eq_true hlt) (oSS (h3 _) (met_list hl (row_ok hi (h2 _) (h1 _) (by rw [List.getElem?_set_self hlt]) h (oL_i hl ⟨Nat.lt_of_le_of_lt hz (by decide +kernel), q⟩)))))
end
section
variable {w : World} {hB : Heap} {os0 : OsState} {n : Nat} {la : Addr} {ns : List Int} {fns : List (Str × Spec)} {mes : List ((Addr × Str) × Spec)} {xs : List (Str × Addr)}
inductive SpShow (vs : List V) (σ : AS) (Q : PQ) (X : PXx) : Prop where
  | mk : ∀ ca c, (vs = [.ref ca]) → (σ ca = some (.list (codeV c))) → (∀ x ∈ c, x.In) → (c.length ≤ 100) → (∀ σ', Ext σ σ' → Q (.str (Txt.join (Str.ofString "\n") (rowsS 0 c))) σ') → SpShow vs σ Q X
noncomputable def spShow : Spec := SpShow
theorem does_show_code (cx : CxO (kC w la ns fns mes xs) pw w hB os0 n) (y : KYP w hB) : Does pw w hB os0 (n + 1) (.ref 180) spShow :=
  in_show_code cx y fun vs σ Q X ro ⟨ca, c, e, hl, hI, hz, hq⟩ => ⟨_, e, post_gen fun P hr _ _ => fun ra hra _ => by
    have hlen := codeV_len (c := c)
    have hca : ∀ {σ' : AS}, Ext σ σ' → σ' ca = some (.list (codeV c)) := fun e => (e ca (by rw [hl]; simp)).trans hl
    refine oL_i (hca (Ext.new hra)) ⟨by lia, fun i m' σ' => ∃ a b d : Option V, m' = [some (.ref ca), some (.ref ra), a, b, d] ∧ Ext σ σ' ∧ σ' ra = some (.list (((rowsS 0 c).take i).map .str)), ⟨_, _, _, rfl, Ext.new hra, AS.set_same _ _ _⟩, fun i m' σ' ⟨_, _, _, _, h, _⟩ => hca h, ?_, ?_⟩
    · rintro i m' σ' x hx ⟨a, b, d, rfl, hE, hd⟩
      obtain ⟨hi, rfl⟩ := enum_code hx
      refine row_step (m := [some (.ref ca), some (.ref ra), some (.int i), some c[i].v, d]) (i := i) (p := 3) (qq := 2) (r := 4) (l := 1) (ra := ra) (x := c[i]) (by lia) hd (by rw [List.length_map, List.length_take]; lia) rfl (Nat.le_of_ble_eq_true rfl) (fun _ => rfl) (fun _ => rfl) (fun _ => rfl) (hI _ (List.getElem_mem hi)) ⟨_, _, _, rfl, hE.turn hra, ?_⟩
      rw [AS.set_same, List.take_succ, rowsS_get hi, Nat.zero_add, List.map_append]
      rfl
    · rintro m' σ' ⟨a, b, d, rfl, hE, hd⟩
      rw [enumV_len, hlen, ← rowsS_len (i := 0), List.take_length] at hd
      refine ⟨.ty "str", rfl, trivial, rfl, rowsS 0 c, hd, ?_, hr _ _ (hq _ hE)⟩
      unfold JoinOk
      rw [StrLaws.joinFits (B := 70) (fun s m => nice_len (rows_nice hI (by lia) s m)) (by
        rw [rowsS_len, show (Str.ofString "\n").length = 1 by decide +kernel]; lia)]
      rfl⟩
end
structure Z where
  σ0 : AS
  fa : Addr
  dx : Addr
  va : Addr
  na : Addr
  vals : List V
  sa : Addr
  nm : V
  own : V
  k : Nat
noncomputable def Z.flds (z : Z) : List (Str × V) := [(Str.ofString "values", .ref z.va), (Str.ofString "names", .ref z.na), (Str.ofString "control", .none), (Str.ofString "own", z.own), (Str.ofString "stack", .ref z.sa), (Str.ofString "steps", .int z.k), (Str.ofString "most", .int 40), (Str.ofString "is_left", .bool false)]
noncomputable def K0 (σ0 : AS) (na : Addr) (σ : AS) : Prop := ∀ a, σ0 a ≠ none → a ≠ na → σ a = σ0 a
noncomputable def Bad (z : Z) (X : PXx) : Prop := ∀ t σ', K0 z.σ0 z.na σ' → t ≠ Str.ofString "the stack is empty" → X ⟨74, .str t⟩ σ'
structure Fr (z : Z) (σ : AS) (stk : List V) : Prop where
  k0 : K0 z.σ0 z.na σ
  hv : z.σ0 z.va = some (.list z.vals)
  hn : ∃ e, z.σ0 z.na = some (.ds e)
  n : σ z.na = some (.ds [(Str.ofString "n", z.nm)])
  i : σ z.fa = some (.inst 337 z.dx)
  f : σ z.dx = some (.fld z.flds)
  s : σ z.sa = some (.list stk)
  df : z.σ0 z.dx = none
  sf : z.σ0 z.sa = none
section
variable {σ0 σ σ' : AS} {z : Z} {stk : List V}
theorem ne_of {σ : AS} {a b : Addr} {o o' : AO} (h : σ a = some o) (h' : σ b = some o') (ne : o ≠ o') : a ≠ b := fun q => by rw [q, h'] at h; exact ne (Option.some.inj h).symm
theorem some_ne {o : Option AO} {x : AO} (h : o = some x) : o ≠ none := by rw [h]; exact nofun
theorem K0.ext {na : Addr} (x : K0 σ0 na σ) (e : Ext σ σ') : K0 σ0 na σ' := fun a h h' => (e a (by rw [x a h h']; exact h)).trans (x a h h')
theorem K0.turn {na : Addr} (x : K0 σ0 na σ) {b : Addr} {o : AO} (h : σ0 b = none) : K0 σ0 na (σ.set b o) := fun a h1 h2 => (AS.set_ne _ _ fun q => h1 (by rw [q]; exact h)).trans (x a h1 h2)
theorem Fr.v (x : Fr z σ stk) : σ z.va = some (.list z.vals) := by
  obtain ⟨e, hn⟩ := x.hn
  exact (x.k0 _ (some_ne x.hv) (ne_of x.hv hn (by simp))).trans x.hv
theorem Fr.fresh (x : Fr z σ stk) {c : Addr} (h : σ c = none) : z.σ0 c = none := by
  refine isN fun o q => ?_
  have := x.k0 c (some_ne q) fun e => by rw [e, x.n] at h; exact no3 h
  rw [h, q] at this; exact no1 this
theorem Fr.ext (x : Fr z σ stk) (e : Ext σ σ') : Fr z σ' stk :=
  ⟨x.k0.ext e, x.hv, x.hn, (e _ (some_ne x.n)).trans x.n, (e _ (some_ne x.i)).trans x.i, (e _ (some_ne x.f)).trans x.f, (e _ (some_ne x.s)).trans x.s, x.df, x.sf⟩
theorem Fr.stack (x : Fr z σ stk) (l : List V) : Fr z (σ.set z.sa (.list l)) l :=
  ⟨x.k0.turn x.sf, x.hv, x.hn, (AS.set_ne _ _ (ne_of x.n x.s (by simp))).trans x.n, (AS.set_ne _ _ (ne_of x.i x.s (by simp))).trans x.i, (AS.set_ne _ _ (ne_of x.f x.s (by simp))).trans x.f, AS.set_same _ _ _, x.df, x.sf⟩
theorem Fr.turn (x : Fr z σ stk) {sa' : Addr} {own' : V} {stk' : List V} {k' : Nat} (hs : σ sa' = some (.list stk')) (hf : z.σ0 sa' = none) : Fr { z with sa := sa', own := own', k := k' } (σ.set z.dx (.fld { z with sa := sa', own := own', k := k' : Z }.flds)) stk' :=
  ⟨x.k0.turn x.df, x.hv, x.hn, (AS.set_ne _ _ (ne_of x.n x.f (by simp))).trans x.n, (AS.set_ne _ _ (ne_of x.i x.f (by simp))).trans x.i, AS.set_same _ _ _, (AS.set_ne _ _ (ne_of hs x.f (by simp))).trans hs, x.df, hf⟩
theorem Fr.names (x : Fr z σ stk) (v : V) : Fr { z with nm := v } (σ.set z.na (.ds [(Str.ofString "n", v)])) stk :=
  ⟨fun a h h' => (AS.set_ne _ _ h').trans (x.k0 a h h'), x.hv, x.hn, AS.set_same _ _ _, (AS.set_ne _ _ (ne_of x.i x.n (by simp))).trans x.i, (AS.set_ne _ _ (ne_of x.f x.n (by simp))).trans x.f, (AS.set_ne _ _ (ne_of x.s x.n (by simp))).trans x.s, x.df, x.sf⟩
theorem met_inst {C : Cx} {σ : AS} {a K dx : Addr} {fs : List (Str × V)} {x : Str} {kk : MK → Prop} {sp : Spec} (h : σ a = some (.inst K dx)) (h2 : σ dx = some (.fld fs)) (hm : C.Me K x = some sp) (q : kk (.own K)) (h3 : fs.lookup x = none := by rfl) : metG C σ (.ref a) x kk :=
  ⟨.own K, by unfold mkind; simp only [h], fun K' dx' e => by rw [h] at e; cases e; exact ⟨fs, h2, h3⟩, by show (C.Me K x).isSome = true; rw [hm]; rfl, q⟩
end
section
variable {w : World} {hB : Heap} {os0 : OsState} {n : Nat} {la : Addr} {ns : List Int} {fns : List (Str × Spec)} {mes : List ((Addr × Str) × Spec)} {xs : List (Str × Addr)}
inductive SpCount (vs : List V) (σ : AS) (Q : PQ) (X : PXx) : Prop where
  | mk : ∀ z stk, (vs = [.ref z.fa]) → (Fr z σ stk) → (z.k + 1 ≤ 40 → ∀ σ', Fr { z with k := z.k + 1 } σ' stk → Q .none σ') → (Bad z X) → SpCount vs σ Q X
noncomputable def spCount : Spec := SpCount
theorem does_count (cx : CxO (kC w la ns fns mes xs) pw w hB os0 n) (y : KYP w hB) (h1 : fns.lookup (Str.ofString "need") = some spNeed) : Does pw w hB os0 (n + 1) (.ref 306) spCount :=
  in_Frame_count cx y fun vs σ Q X ro ⟨z, stk, e, x, hq, hX⟩ => ⟨_, e, by
    have x' := x.turn (own' := z.own) (k' := z.k + 1) x.s x.sf
    refine oI_i x.i (oF_i x.f (oI_i x.i (oF_i x.f ⟨Nat.le_of_ble_eq_true rfl, ?_⟩)))
    exact oS_i h1 (oI_i x'.i (oF_i x'.f (oI_i x'.i (oF_i x'.f (onB_of (fun z => hq (Int.ofNat_le.mp (of_decide_eq_true z)) _ x') fun _ => hX _ _ x'.k0 (by decide +kernel))))))⟩
inductive SpPush (vs : List V) (σ : AS) (Q : PQ) (X : PXx) : Prop where
  | mk : ∀ z stk v, (vs = [.ref z.fa, v]) → (Fr z σ stk) → (stk.length ≤ 1000) → (∀ σ', Fr z σ' (stk ++ [v]) → Q .none σ') → SpPush vs σ Q X
noncomputable def spPush : Spec := SpPush
theorem does_push (cx : CxO (kC w la ns fns mes xs) pw w hB os0 n) (y : KYP w hB) : Does pw w hB os0 (n + 1) (.ref 313) spPush :=
  in_Frame_push cx y fun vs σ Q X ro ⟨z, stk, v, e, x, hz, hq⟩ => ⟨_, _, e, oI_i x.i (oF_i x.f (met_list x.s (oL_i x.s ⟨Nat.lt_of_le_of_lt hz (by decide +kernel), hq _ (x.stack _)⟩)))⟩
inductive SpPop (vs : List V) (σ : AS) (Q : PQ) (X : PXx) : Prop where
  | mk : ∀ z r v, (vs = [.ref z.fa]) → (Fr z σ (r ++ [v])) → (V.goods (r ++ [v]) ∧ V.deps (r ++ [v]) ≤ 60) → (∀ σ', Fr z σ' r → Q v σ') → SpPop vs σ Q X
noncomputable def spPop : Spec := SpPop
theorem does_pop (cx : CxO (kC w la ns fns mes xs) pw w hB os0 n) (y : KYP w hB) (h1 : fns.lookup (Str.ofString "need") = some spNeed) : Does pw w hB os0 (n + 1) (.ref 320) spPop :=
  in_Frame_pop cx y fun vs σ Q X ro ⟨z, r, v, e, x, hg, hq⟩ => ⟨_, e, by
    refine oS_i h1 (oI_i x.i (oF_i x.f (ne_nil x.s hg.1.flat hg.2 fun d hd' _ => ?_)))
    have x := x.ext (Ext.new (o := .list []) hd')
    rw [show (!(r ++ [v]).isEmpty) = true by cases r <;> rfl]
    exact oI_i x.i (oF_i x.f (met_list x.s ⟨r, v, x.s, hq _ (x.stack _)⟩))⟩
inductive SpPopSome (vs : List V) (σ : AS) (Q : PQ) (X : PXx) : Prop where
  | mk : ∀ z r l, (vs = [.ref z.fa, .int ((l.length : Nat) : Int)]) → (Fr z σ (r ++ l)) → ((r ++ l).length ≤ 1000) → (∀ fd sa' σ', Fr { z with sa := sa' } σ' r → σ' fd = some (.list l) → Q (.ref fd) σ') → SpPopSome vs σ Q X
noncomputable def spPopSome : Spec := SpPopSome
theorem does_pop_some (cx : CxO (kC w la ns fns mes xs) pw w hB os0 n) (y : KYP w hB) (h1 : fns.lookup (Str.ofString "need") = some spNeed) : Does pw w hB os0 (n + 1) (.ref 327) spPopSome :=
  in_Frame_pop_some cx y fun vs σ Q X ro ⟨z, r, l, e, x, hz, hq⟩ => ⟨_, _, e, by
    have hl : (r ++ l).length = r.length + l.length := List.length_append
    have z1 : decide (((r ++ l).length : Int) ≥ (l.length : Int)) = true := decide_eq_true (by lia)
    have e1 : ((r ++ l).length : Int) - (l.length : Int) = (r.length : Int) := by lia
    have c1 : cutL (r ++ l) (some (((r ++ l).length : Int) - (l.length : Int))) none = l := by rw [e1]; exact List.drop_left ..
    have c2 : cutL (r ++ l) none (some (((r ++ l).length : Int) - (l.length : Int))) = r := by rw [e1]; exact List.take_left ..
    have ok1 : cutOk (some (((r ++ l).length : Int) - (l.length : Int))) := by rw [e1]; exact ⟨Int.natCast_nonneg _, by lia⟩
    refine oS_i h1 (oI_i x.i (oF_i x.f (len_list x.s (onB_i z1 ?_))))
    refine oI_i x.i (oF_i x.f (oI_i x.i (oF_i x.f (len_list x.s ⟨ok1, trivial, oL_i (look_same x.s) fun fd hfd _ => ?_⟩))))
    rw [c1]
    have x := x.ext (Ext.new (o := .list l) hfd)
    refine oI_i x.i (oF_i x.f (oI_i x.i (oF_i x.f (len_list x.s ⟨trivial, ok1, oL_i (look_same x.s) fun sa' hsa' _ => ?_⟩))))
    rw [c2]
    have hfd' : ((σ.set fd (.list l)).set sa' (.list r)) fd = some (.list l) := set_of (AS.set_same _ _ _) hsa'
    have sf := x.fresh hsa'
    have x := x.ext (Ext.new (o := .list r) hsa')
    exact oI_i x.i (oF_i x.f ⟨Nat.le_of_ble_eq_true rfl, hq fd sa' _ (x.turn (sa' := sa') (own' := z.own) (k' := z.k) (AS.set_same _ _ _) sf) ((AS.set_ne _ _ (ne_of hfd' x.f (by simp))).trans hfd')⟩)⟩
end
structure Gs (d : Nat) (z : Z) (stk : List V) : Prop where
  v : ∀ v ∈ z.vals, v.gd d
  o : z.own.gd d
  n : z.nm.gd d
  s : ∀ v ∈ stk, v.gd d
theorem Gs.up {d e : Nat} {z : Z} {stk : List V} (x : Gs d z stk) (h : d ≤ e) : Gs e z stk := ⟨fun v m => (x.v v m).up h, x.o.up h, x.n.up h, fun v m => (x.s v m).up h⟩
theorem Gs.goods {d : Nat} {z : Z} {stk : List V} (x : Gs d z stk) (h : d ≤ 60) : V.goods stk ∧ V.deps stk ≤ 60 := ⟨V.goods_iff.mpr fun v m => (x.s v m).1, V.deps_le.mpr fun v m => Nat.le_trans (x.s v m).2 h⟩
theorem Gs.sub {d : Nat} {z : Z} {stk stk' : List V} (x : Gs d z stk) (h : ∀ v ∈ stk', v ∈ stk) : Gs d z stk' := ⟨x.v, x.o, x.n, fun v m => x.s v (h v m)⟩
structure Mh (z : Z) (ma mx : Addr) : Prop where
  m : z.σ0 ma = some (.inst 413 mx)
  f : z.σ0 mx = some (.fld [(Str.ofString "most", .int 40)])
section
variable {z : Z} {σ : AS} {stk : List V} {ma mx : Addr}
theorem Fr.keep (x : Fr z σ stk) {a : Addr} {o : AO} (h : z.σ0 a = some o) (ho : ∀ e, o ≠ .ds e) : σ a = some o := by
  obtain ⟨e, hn⟩ := x.hn
  exact (x.k0 a (some_ne h) (ne_of h hn (ho e))).trans h
theorem Fr.m (x : Fr z σ stk) (h : Mh z ma mx) : σ ma = some (.inst 413 mx) := x.keep h.m nofun
theorem Fr.mf (x : Fr z σ stk) (h : Mh z ma mx) : σ mx = some (.fld [(Str.ofString "most", .int 40)]) := x.keep h.f nofun
theorem snoc_of {n : Nat} (h : n + 1 ≤ stk.length) : ∃ r v, stk = r ++ [v] := by
  rcases snoc_cases stk with rfl | h'
  · cases h
  · exact h'
end
noncomputable def Ins.eff : Ins → Nat × Nat
  | .jmp _ _ => (0, 0)
  | x => x.io
noncomputable def Next (z : Z) (stk : List V) (d : Nat) (io : Nat × Nat) (R : AS → Prop) : Prop :=
  ∀ sa nm own σ' stk', Fr { z with sa := sa, nm := nm, own := own } σ' stk' → Gs (d + 1) { z with sa := sa, nm := nm, own := own } stk' → stk'.length + io.1 = stk.length + io.2 → R σ'
section
variable {w : World} {hB : Heap} {os0 : OsState} {n : Nat} {la : Addr} {ns : List Int} {fns : List (Str × Spec)} {mes : List ((Addr × Str) × Spec)} {xs : List (Str × Addr)}
inductive SpJumped (vs : List V) (σ : AS) (Q : PQ) (X : PXx) : Prop where
  | mk : ∀ ma z k i a, (vs = [.ref ma, .ref z.fa, .str (jumpOp k), .int (i : Nat), .int (a : Nat)]) → ((k = 0 ∧ Q (.int i) σ) ∨ (k ≠ 0 ∧ ∃ r v, Fr z σ (r ++ [v]) ∧ (V.goods (r ++ [v]) ∧ V.deps (r ++ [v]) ≤ 60) ∧ ∀ g σ', (g = i ∨ g = a + 1) → Fr z σ' r → Q (.int (g : Nat)) σ')) → SpJumped vs σ Q X
noncomputable def spJumped : Spec := SpJumped
theorem does_jumped (cx : CxO (kC w la ns fns mes xs) pw w hB os0 n) (y : KYP w hB) (h1 : fns.lookup (Str.ofString "is_true") = some spIsTrue) (h2 : mes.lookup (337, Str.ofString "pop") = some spPop) : Does pw w hB os0 (n + 1) (.ref 370) spJumped :=
  in_Machine_jumped cx y fun vs σ Q X ro ⟨ma, z, k, i, a, e, h⟩ => by
    refine ⟨_, _, _, _, _, e, ?_⟩
    rcases h with ⟨rfl, hq⟩ | ⟨hk, r, v, x, hg, hq⟩
    · exact hq
    have gv : plainB v = true := Bool.and_eq_true_iff.mpr ⟨(V.goods_iff.mp hg.1 v (by simp)).flat, decide_eq_true (V.deps_le.mp hg.2 v (by simp))⟩
    have fin : ∀ σ' (b c : Bool), Fr z σ' r → onB (b == c) (Q (.int (i : Nat)) σ') (Q (.int ((a : Int) + 1)) σ') := fun σ' b c x => onB_of (fun _ => hq i σ' (.inl rfl) x) fun _ => hq (a + 1) σ' (.inr rfl) x
    match k with
    | 0 => exact absurd rfl hk
    | 1 => exact oS_i h1 (met_inst x.i x.f h2 (oS_i h2 ⟨z, r, v, rfl, x, hg, fun σ' x' => onB_i gv fun b => fin σ' b false x'⟩))
    | _ + 2 => exact oS_i h1 (met_inst x.i x.f h2 (oS_i h2 ⟨z, r, v, rfl, x, hg, fun σ' x' => onB_i gv fun b => fin σ' b true x'⟩))
noncomputable def stores : Ins → Bool
  | .jmp _ _ | .set | .put | .drop | .fresh => true
  | _ => false
inductive SpStore (vs : List V) (σ : AS) (Q : PQ) (X : PXx) : Prop where
  | mk : ∀ ma z x stk d, (vs = [.ref ma, .ref z.fa, .str (Ins.op x), x.w]) → (Fr z σ stk) → (Gs d z stk) → (d ≤ 59) → (stores x = true) → (x.eff.1 ≤ stk.length) → (Next z stk d x.eff fun σ' => Q .none σ') → SpStore vs σ Q X
noncomputable def spStore : Spec := SpStore
theorem does_store (cx : CxO (kC w la ns fns mes xs) pw w hB os0 n) (y : KYP w hB) (h2 : mes.lookup (337, Str.ofString "pop") = some spPop) : Does pw w hB os0 (n + 1) (.ref 384) spStore :=
  in_Machine_store cx y fun vs σ Q X ro ⟨ma, z, x, stk, d, e, fr, gs, hd, hs, hl, hq⟩ => by
    refine ⟨_, _, _, _, e, ?_⟩
    have gg := gs.goods (Nat.le_succ_of_le hd)
    cases x with
    | jmp k i => match k with
      | 0 => exact hq z.sa z.nm z.own σ stk fr (gs.up (Nat.le_succ _)) rfl
      | 1 => exact hq z.sa z.nm z.own σ stk fr (gs.up (Nat.le_succ _)) rfl
      | _ + 2 => exact hq z.sa z.nm z.own σ stk fr (gs.up (Nat.le_succ _)) rfl
    | fresh => exact oI_i fr.i (oF_i fr.f ⟨Nat.le_of_ble_eq_true rfl, hq z.sa z.nm .none _ stk (fr.turn (own' := .none) (k' := z.k) fr.s fr.sf) ⟨fun v m => (gs.v v m).up (Nat.le_succ _), ⟨trivial, Nat.zero_le _⟩, gs.n.up (Nat.le_succ _), fun v m => (gs.s v m).up (Nat.le_succ _)⟩ rfl⟩)
    | drop =>
      obtain ⟨r, v, rfl⟩ := snoc_of (n := 0) hl
      exact met_inst fr.i fr.f h2 (oS_i h2 ⟨z, r, v, rfl, fr, gg, fun σ' fr' => hq z.sa z.nm z.own σ' r fr' ((gs.up (Nat.le_succ _)).sub fun v m => List.mem_append_left _ m) (by rw [List.length_append]; rfl)⟩)
    | set =>
      obtain ⟨r, v, rfl⟩ := snoc_of (n := 0) hl
      exact met_inst fr.i fr.f h2 (oS_i h2 ⟨z, r, v, rfl, fr, gg, fun σ' fr' => oI_i fr'.i (oF_i fr'.f ⟨Nat.le_of_ble_eq_true rfl, hq z.sa z.nm v _ r (fr'.turn (own' := v) (k' := z.k) fr'.s fr'.sf) ⟨fun v m => (gs.v v m).up (Nat.le_succ _), (gs.s v (by simp)).up (Nat.le_succ _), gs.n.up (Nat.le_succ _), fun u m => (gs.s u (List.mem_append_left _ m)).up (Nat.le_succ _)⟩ (by rw [List.length_append]; rfl)⟩)⟩)
    | put =>
      obtain ⟨r, v, rfl⟩ := snoc_of (n := 0) hl
      exact met_inst fr.i fr.f h2 (oS_i h2 ⟨z, r, v, rfl, fr, gg, fun σ' fr' => oI_i fr'.i (oF_i fr'.f (oDs_i fr'.n ⟨Nat.le_of_ble_eq_true rfl, hq z.sa v z.own _ r (fr'.names v) ⟨fun v m => (gs.v v m).up (Nat.le_succ _), gs.o.up (Nat.le_succ _), (gs.s v (by simp)).up (Nat.le_succ _), fun u m => (gs.s u (List.mem_append_left _ m)).up (Nat.le_succ _)⟩ (by rw [List.length_append]; rfl)⟩))⟩)
    | _ => exact bft hs
end
noncomputable def runs : Ins → Bool
  | .bad _ _ | .word _ => false
  | _ => true
theorem split_end {l : List V} {k : Nat} (h : k ≤ l.length) : ∃ r t, l = r ++ t ∧ t.length = k := ⟨l.take (l.length - k), l.drop (l.length - k), (List.take_append_drop ..).symm, by rw [List.length_drop]; lia⟩
theorem words_args {s : Str} {k : Nat} (h : (s, k) ∈ wordsN) {l : List V} (hl : l.length = k) : argsOk s l ∧ functions.lookup s = some (.int k) := by
  subst hl
  refine (?_ : ∀ x ∈ wordsN, x.2 = l.length → argsOk x.1 l ∧ functions.lookup x.1 = some (.int x.2)) (s, l.length) h rfl
  have one : ∀ {s : Str}, s ∈ words1 → 1 = l.length → functions.lookup s = some (.int ((1 : Nat) : Int)) → argsOk s l ∧ functions.lookup s = some (.int ((1 : Nat) : Int)) := fun m e q => ⟨.inl ⟨m, e.symm⟩, q⟩
  exact all_cons (fun e => one (.head _) e (by kernel_rfl)) (all_cons (fun e => one (.tail _ (.head _)) e (by kernel_rfl)) (all_cons (fun e => one (.tail _ (.tail _ (.head _))) e (by kernel_rfl)) (all_cons (fun e => one (.tail _ (.tail _ (.tail _ (.head _)))) e (by kernel_rfl))
    (all_cons (fun e => one (.tail _ (.tail _ (.tail _ (.tail _ (.head _))))) e (by kernel_rfl)) (all_cons (fun e => one (.tail _ (.tail _ (.tail _ (.tail _ (.tail _ (.head _)))))) e (by kernel_rfl)) (all_cons (fun e => one (.tail _ (.tail _ (.tail _ (.tail _ (.tail _ (.tail _ (.head _))))))) e (by kernel_rfl))
    (all_cons (fun e => ⟨.inr (.inl ⟨.inl rfl, e.symm⟩), by kernel_rfl⟩) (all_cons (fun e => ⟨.inr (.inl ⟨.inr (.inl rfl), e.symm⟩), by kernel_rfl⟩) (all_cons (fun e => ⟨.inr (.inl ⟨.inr (.inr rfl), e.symm⟩), by kernel_rfl⟩) (all_cons (fun e => ⟨.inr (.inr ⟨rfl, e.symm⟩), by kernel_rfl⟩) all_nil))))))))))
noncomputable def opsOf : List (Str × RP) → RP → RP
  | [], r => r
  | (s, b) :: l, r => .cons (.ife (.cmp .Eq (.loc 2) (.cst (.str s))) b (opsOf l r)) .nil
noncomputable def opsAt (op : Str) : List (Str × RP) → RP → RP
  | [], r => r
  | (s, b) :: l, r => bif op == s then b else opsAt op l r
theorem ops_ok {C : Cx} {m : M} {σ : AS} {P : Post} {op : Str} {l : List (Str × RP)} {r : RP} (hm : m[2]? = some (some (.str op))) (h : rsts C (opsAt op l r) m σ P) : rsts C (opsOf l r) m σ P := by
  induction l with
  | nil => exact h
  | cons a l ih =>
    obtain ⟨s, b⟩ := a
    refine oS_i hm ?_
    unfold opsAt at h
    cases q : op == s with
    | true => rw [q] at h; exact (show onB (op == s) (rsts C b m σ P) (rsts C (opsOf l r) m σ P) by rw [q]; exact h)
    | false => rw [q] at h; exact (show onB (op == s) (rsts C b m σ P) (rsts C (opsOf l r) m σ P) by rw [q]; exact ih h)
noncomputable def stepL : List (Str × RP) := [(Str.ofString "push", (.cons (.exp (.met (.loc 1) "push" (.cons (.loc 3) .nil))) .nil)),
  (Str.ofString "arg", (.cons (.exp (.met (.loc 1) "push" (.cons (.call "value_at" (.cons (.att (.loc 1) "values") (.cons (.loc 3) .nil))) .nil))) .nil)),
  (Str.ofString "own", (.cons (.exp (.met (.loc 1) "push" (.cons (.att (.loc 1) "own") .nil))) .nil)),
  (Str.ofString "get", (.cons (.exp (.met (.loc 1) "push" (.cons (.met (.att (.loc 1) "names") "get" (.cons (.loc 3) (.cons (.cst (.int 0)) .nil))) .nil))) .nil)),
  (Str.ofString "two", (.cons (.setl 4 (.met (.loc 1) "pop" .nil)) (.cons (.exp (.met (.loc 1) "push" (.cons (.call "two_worth" (.cons (.loc 3) (.cons (.met (.loc 1) "pop" .nil) (.cons (.loc 4) .nil)))) .nil))) .nil))),
  (Str.ofString "one", (.cons (.exp (.met (.loc 1) "push" (.cons (.call "one_worth" (.cons (.loc 3) (.cons (.met (.loc 1) "pop" .nil) .nil))) .nil))) .nil)),
  (Str.ofString "truth", (.cons (.exp (.met (.loc 1) "push" (.cons (.bi .int (.cons (.call "is_true" (.cons (.met (.loc 1) "pop" .nil) .nil)) .nil)) .nil))) .nil)),
  (Str.ofString "list", (.cons (.exp (.met (.loc 1) "push" (.cons (.bi .tuple (.cons (.met (.loc 1) "pop_some" (.cons (.loc 3) .nil)) .nil)) .nil))) .nil)),
  (Str.ofString "apply", (.cons (.exp (.met (.loc 1) "push" (.cons (.call "applied" (.cons (.loc 3) (.cons (.met (.loc 1) "pop_some" (.cons (.met (.glb "FUNCTIONS") "get" (.cons (.loc 3) (.cons (.cst (.int 0)) .nil))) .nil)) .nil))) .nil))) .nil))]
noncomputable def stepR : RP := (.cons (.exp (.met (.loc 0) "store" (.cons (.loc 1) (.cons (.loc 2) (.cons (.loc 3) .nil))))) .nil)
theorem stores_ops {x : Ins} (h : stores x = true) : opsAt x.op stepL stepR = stepR := by
  cases x with
  | jmp k i => cases k with
    | zero => kernel_rfl
    | succ k => cases k <;> kernel_rfl
  | set => kernel_rfl
  | put => kernel_rfl
  | drop => kernel_rfl
  | fresh => kernel_rfl
  | _ => exact bft h
noncomputable def mSt (a b c d : V) (e : Option V) : M := [some a, some b, some c, some d, e]
section
variable {w : World} {hB : Heap} {os0 : OsState} {n : Nat} {la : Addr} {ns : List Int} {fns : List (Str × Spec)} {mes : List ((Addr × Str) × Spec)} {xs : List (Str × Addr)}
theorem met_fun {σ : AS} {k : MK → Prop} (ro : σ 24 = none) (q : k (.ty "dict")) : metG (kC w la ns fns mes xs) σ (.ref 24) (Str.ofString "get") k :=
  ⟨.ty "dict", by
    unfold mkind; simp only [ro]
    rw [show (kC w la ns fns mes xs).ro 24 = some (.ds functions) by kernel_rfl], fun K dx q => (by exact no2 ro q), rfl, q⟩
inductive SpStep (vs : List V) (σ : AS) (Q : PQ) (X : PXx) : Prop where
  | mk : ∀ ma mx z x stk d, (vs = [.ref ma, .ref z.fa, .str (Ins.op x), x.w]) → (Fr z σ stk) → (Mh z ma mx) → (Gs d z stk) → (d ≤ 58 ∧ stk.length ≤ 500 ∧ x.In ∧ runs x = true ∧ x.eff.1 ≤ stk.length) → (Next z stk d x.eff fun σ' => Q .none σ') → (Bad z X) → SpStep vs σ Q X
noncomputable def spStep : Spec := SpStep
theorem does_step (cx : CxO (kC w la ns fns mes xs) pw w hB os0 n) (y : KYP w hB) (m1 : mes.lookup (337, Str.ofString "push") = some spPush) (m2 : mes.lookup (337, Str.ofString "pop") = some spPop) (m3 : mes.lookup (337, Str.ofString "pop_some") = some spPopSome) (m4 : mes.lookup (413, Str.ofString "store") = some spStore)
    (h1 : fns.lookup (Str.ofString "value_at") = some spValueAt) (h2 : fns.lookup (Str.ofString "two_worth") = some spTwoWorth) (h3 : fns.lookup (Str.ofString "one_worth") = some spOneWorth) (h4 : fns.lookup (Str.ofString "is_true") = some spIsTrue) (h5 : fns.lookup (Str.ofString "applied") = some spApplied) : Does pw w hB os0 (n + 1) (.ref 377) spStep :=
  in_Machine_step cx y fun vs σ Q X ro ⟨ma, mx, z, x, stk, d, e, fr, mh, gs, ⟨hd, hz, hI, hr, hl⟩, hq, hX⟩ => by
    refine ⟨_, _, _, _, e, ?_⟩
    refine post_gen fun P _ hxx hn => ?_
    have gg := gs.goods (Nat.le_trans hd (by decide))
    have gu := gs.up (Nat.le_succ d)
    have push : ∀ {r : List V} {σ' : AS} {v : V} {sa : Addr} {m : M}, Fr { z with sa := sa } σ' r → (∀ v ∈ r, v ∈ stk) → v.gd (d + 1) → r.length + 1 + x.eff.1 = stk.length + x.eff.2 → x.eff.2 ≤ 1 → spPush [.ref z.fa, v] σ' (fun v σ₁ => P.n m σ₁) (fun x σ₁ => P.x x m σ₁) :=
      fun {r σ' v sa m} fr' hr hv he h1 => ⟨{ z with sa := sa }, r, v, rfl, fr', by lia, fun σ'' fr'' => hn _ _ (hq sa z.nm z.own σ'' (r ++ [v]) fr'' ⟨gu.v, gu.o, gu.n, fun u m => (List.mem_append.mp m).elim (fun m => gu.s u (hr u m)) fun m => by rw [List.mem_singleton.mp m]; exact hv⟩ (by rw [List.length_append]; exact he))⟩
    have bad : ∀ {r : List V} {σ' : AS} {sa : Addr} (m : M), Fr { z with sa := sa } σ' r → fails (fun x σ₁ => P.x x m σ₁) σ' := fun m fr' t σ'' e ne => hxx _ _ _ (hX t σ'' (fr'.k0.ext e) ne)
    refine ops_ok (m := mSt (.ref ma) (.ref z.fa) (.str x.op) x.w none) (l := stepL) (r := stepR) (op := x.op) rfl ?_
    by_cases hst : stores x = true
    · rw [stores_ops hst]
      exact met_inst (fr.m mh) (fr.mf mh) m4 (oS_i m4 ⟨ma, z, x, stk, d, rfl, fr, gs, Nat.le_succ_of_le hd, hst, hl, fun sa nm own σ' stk' a b c => hn _ _ (hq sa nm own σ' stk' a b c)⟩)
    clear hq hX hxx hn e
    cases x with
    | jmp k i => exact (hst rfl).elim
    | set => exact (hst rfl).elim
    | put => exact (hst rfl).elim
    | drop => exact (hst rfl).elim
    | fresh => exact (hst rfl).elim
    | push v =>
      have gv : v.gd (d + 1) := (all_cons ⟨good_int (by decide), Nat.zero_le _⟩ (all_cons ⟨good_int (by decide), Nat.zero_le _⟩ (all_cons ⟨(by decide +kernel : _ ≤ 2000), Nat.zero_le _⟩ (all_cons ⟨(by decide +kernel : _ ≤ 2000), Nat.zero_le _⟩ (all_cons ⟨good_int (by decide), Nat.zero_le _⟩ all_nil)))) : ∀ v ∈ pushed, v.gd (d + 1)) v hI
      exact (met_inst fr.i fr.f m1 (oS_i m1 (push (sa := z.sa) fr (fun _ m => m) gv rfl (Nat.le_refl _))))
    | arg k => exact met_inst fr.i fr.f m1 (oS_i h1 (oI_i fr.i (oF_i fr.f ⟨z.va, k, z.vals, rfl, fr.v, ⟨Int.ofNat_le.mpr hI.1, Int.ofNat_le.mpr hI.2⟩, fun v m => oS_i m1 (push (sa := z.sa) fr (fun _ m => m) (gu.v v m) rfl (Nat.le_refl _)), bad (sa := z.sa) _ fr⟩)))
    | own => exact met_inst fr.i fr.f m1 (oI_i fr.i (oF_i fr.f (oS_i rfl (oS_i m1 (push (sa := z.sa) fr (fun _ m => m) gu.o rfl (Nat.le_refl _))))))
    | get => exact met_inst fr.i fr.f m1 (oI_i fr.i (oF_i fr.f (met_ds fr.n (oDs_i (look_same fr.n) (oS_i m1 (push (sa := z.sa) fr (fun _ m => m) gu.n rfl (Nat.le_refl _)))))))
    | truth =>
      obtain ⟨r, v, rfl⟩ := snoc_of (n := 0) hl
      exact met_inst fr.i fr.f m1 (oS_i h4 (met_inst fr.i fr.f m2 (oS_i m2 ⟨z, r, v, rfl, fr, gg, fun σ' fr' => onB_i ((gs.s v (by simp)).plain (Nat.le_trans hd (by decide))) fun b => oS_i m1 (push (sa := z.sa) fr' (fun _ m => List.mem_append_left _ m) gd_bool (by rw [List.length_append]; rfl) (Nat.le_refl _))⟩)))
    | one s =>
      obtain ⟨r, v, rfl⟩ := snoc_of (n := 0) hl
      exact met_inst fr.i fr.f m1 (oS_i h3 (met_inst fr.i fr.f m2 (oS_i m2 ⟨z, r, v, rfl, fr, gg, fun σ' fr' => ⟨s, v, d, rfl, hI, gs.s v (by simp), Nat.le_trans hd (by decide), ⟨fun u σ'' e' hu => oS_i m1 (push (sa := z.sa) (fr'.ext e') (fun _ m => List.mem_append_left _ m) (hu.up (Nat.le_succ _)) (by rw [List.length_append]; rfl) (Nat.le_refl _)), bad (sa := z.sa) _ fr'⟩⟩⟩)))
    | two s =>
      obtain ⟨r', u, rfl⟩ := snoc_of (n := 1) hl
      obtain ⟨r, v, rfl⟩ := snoc_of (stk := r') (n := 0) (by have : 2 ≤ (r' ++ [u]).length := hl; rw [List.length_append] at this; exact Nat.le_of_succ_le_succ this)
      have gr := (gs.sub fun v m => List.mem_append_left _ m : Gs d z (r ++ [v])).goods (Nat.le_trans hd (by decide))
      exact met_inst fr.i fr.f m2 (oS_i m2 ⟨z, r ++ [v], u, rfl, fr, gg, fun σ' fr' => met_inst fr'.i fr'.f m1 (oS_i h2 (met_inst fr'.i fr'.f m2 (oS_i m2 ⟨z, r, v, rfl, fr', gr, fun σ'' fr'' => ⟨s, v, u, d, rfl, hI, gs.s v (by simp), gs.s u (by simp), Nat.le_trans hd (by decide), ⟨fun t σ₃ e' ht => oS_i m1 (push (sa := z.sa) (fr''.ext e') (fun _ m => List.mem_append_left _ (List.mem_append_left _ m)) (ht.up (Nat.le_succ _)) (by rw [List.length_append, List.length_append]; rfl) (Nat.le_refl _)), bad (sa := z.sa) _ fr''⟩⟩⟩)))⟩)
    | list k =>
      obtain ⟨r, l, rfl, rfl⟩ := split_end (l := stk) hl
      have gl : (V.tup l).gd (d + 1) := ⟨⟨by rw [List.length_append] at hz; lia, V.goods_iff.mpr fun v m => (gs.s v (List.mem_append_right _ m)).1⟩, Nat.succ_le_succ (V.deps_le.mpr fun v m => (gs.s v (List.mem_append_right _ m)).2)⟩
      exact met_inst fr.i fr.f m1 (met_inst fr.i fr.f m3 (oS_i m3 ⟨z, r, l, rfl, fr, Nat.le_trans hz (by decide), fun fd sa' σ' fr' hf => oL_i hf (oS_i m1 (push (sa := sa') fr' (fun _ m => List.mem_append_left _ m) gl (by rw [List.length_append]; show r.length + 1 + l.length = r.length + l.length + 1; lia) (Nat.le_refl _)))⟩))
    | apply s k =>
      obtain ⟨r, l, rfl, rfl⟩ := split_end (l := stk) hl
      obtain ⟨ha, hlk⟩ := words_args hI (l := l) rfl
      have lk := look24 ro
      refine met_inst fr.i fr.f m1 (oS_i h5 (met_inst fr.i fr.f m3 (met_fun (ro24 ro) (oDs_i lk ?_))))
      rw [hlk]
      exact oS_i m3 ⟨z, r, l, rfl, fr, Nat.le_trans hz (by decide), fun fd sa' σ' fr' hf => ⟨s, fd, l, d, rfl, hf, ha, fun v m => gs.s v (List.mem_append_right _ m), Nat.le_trans hd (by decide), ⟨fun t σ'' e' ht => oS_i m1 (push (sa := sa') (fr'.ext e') (fun _ m => List.mem_append_left _ m) ht (by rw [List.length_append]; show r.length + 1 + l.length = r.length + l.length + 1; lia) (Nat.le_refl _)), bad (sa := sa') _ fr'⟩⟩⟩
    | word s => exact bft hr
    | bad s w => exact bft hr
end
section
variable {w : World} {hB : Heap} {os0 : OsState} {n : Nat} {la : Addr} {ns : List Int} {fns : List (Str × Spec)} {mes : List ((Addr × Str) × Spec)} {xs : List (Str × Addr)}
theorem seta_step {C : Cx} {e : RE} {r : RP} {x : Str} {v : V} {m : M} {P : Post} {σ σ1 : AS} {fa dx : Addr} {fs : List (Str × V)} (h0 : m[0]? = some (some (.ref fa))) (hF : C.F 337 x = true) (he : ∀ Q : PQ, Q v σ1 → rev C e m σ1 Q (fun y σ₁ => P.x y m σ₁)) (hi : σ1 fa = some (.inst 337 dx)) (hf : σ1 dx = some (.fld fs)) (hl : fs.length ≤ 20)
    (hk : ∀ a, σ a ≠ none → a ≠ dx → σ1 a = σ a) (q : ∀ σ2, σ2 fa = some (.inst 337 dx) → σ2 dx = some (.fld (put fs x v)) → (∀ a, σ a ≠ none → a ≠ dx → σ2 a = σ a) → (∀ a, σ1 a ≠ none → a ≠ dx → σ2 a = σ1 a) → rsts C r m σ2 P) : rsts C (.cons (.seta (.loc 0) x e) r) m σ1 P :=
  he (fun v σ₁ => rev C (.loc 0) m σ₁ (fun w σ₂ => onRef w fun a => oI (σ₂ a) fun K dx => onB (C.F K x) (oF (σ₂ dx) fun fs => fs.length ≤ 20 ∧ rsts C r m (σ₂.set dx (.fld (put fs x v))) P) False) (fun y σ₁ => P.x y m σ₁))
    (oSS h0 (oI_i hi (onB_i hF (oF_i hf ⟨hl, q _ ((AS.set_ne _ _ (ne_of hi hf (by simp))).trans hi) (AS.set_same _ _ _) (fun a h h' => (AS.set_ne _ _ h').trans (hk a h h')) fun a h h' => AS.set_ne _ _ h'⟩))))
inductive SpInit (vs : List V) (σ : AS) (Q : PQ) (X : PXx) : Prop where
  | mk : ∀ (z : Z), (vs = [.ref z.fa, .ref z.va, .ref z.na, .none, z.own, .int 40]) → (z.k = 0) → (σ z.fa = some (.inst 337 z.dx)) → (σ z.dx = some (.fld [])) → (∀ sa σ', σ' z.fa = some (.inst 337 z.dx) → σ' z.dx = some (.fld { z with sa := sa : Z }.flds) → σ' sa = some (.list []) → σ sa = none → (∀ a, σ a ≠ none → a ≠ z.dx → σ' a = σ a) → Q .none σ') → SpInit vs σ Q X
noncomputable def spInit : Spec := SpInit
theorem does_init (cx : CxO (kC w la ns fns mes xs) pw w hB os0 n) (y : KYP w hB) : Does pw w hB os0 (n + 1) (.ref 299) spInit :=
  in_Frame___init__ cx y fun vs σ Q X ro ⟨z, e, hk, h1, h2, hq⟩ => ⟨_, _, _, _, _, _, e, by
    refine seta_step (σ := σ) rfl rfl (fun Q q => q) h1 h2 (Nat.le_of_ble_eq_true rfl) (fun _ _ _ => rfl) fun σ1 i1 f1 k1 _ => ?_
    refine seta_step (σ := σ) rfl rfl (fun Q q => q) i1 f1 (Nat.le_of_ble_eq_true rfl) k1 fun σ2 i2 f2 k2 _ => ?_
    refine seta_step (σ := σ) rfl rfl (fun Q q => q) i2 f2 (Nat.le_of_ble_eq_true rfl) k2 fun σ3 i3 f3 k3 _ => ?_
    refine seta_step (σ := σ) rfl rfl (fun Q q => q) i3 f3 (Nat.le_of_ble_eq_true rfl) k3 fun σ4 i4 f4 k4 _ => ?_
    refine fun sa hsa _ => ?_
    have i5 := set_of (x := .list []) i4 hsa
    have f5 := set_of (x := .list []) f4 hsa
    have hs0 : σ sa = none := by
      cases q : σ sa with
      | none => rfl
      | some o =>
        have := k4 sa (some_ne q) fun e => by rw [e, f4] at hsa; exact no3 hsa
        rw [hsa, q] at this; exact no1 this
    have k5 : ∀ a, σ a ≠ none → a ≠ z.dx → (σ4.set sa (.list [])) a = σ a := fun a h h' => (AS.set_ne _ _ fun q => h (by rw [q]; exact hs0)).trans (k4 a h h')
    refine oI_i i5 (oF_i f5 ⟨Nat.le_of_ble_eq_true rfl, ?_⟩)
    have s5 : ∀ fs, ((σ4.set sa (.list [])).set z.dx (.fld fs)) sa = some (.list []) := fun fs => (AS.set_ne _ _ fun q => by rw [q, f4] at hsa; exact no3 hsa).trans (AS.set_same _ _ _)
    refine seta_step (σ := σ) rfl rfl (fun Q q => q) ((AS.set_ne _ _ (ne_of i5 f5 (by simp))).trans i5) (AS.set_same _ _ _) (Nat.le_of_ble_eq_true rfl) (fun a h h' => (AS.set_ne _ _ h').trans (k5 a h h')) fun σ6 i6 f6 k6 l6 => ?_
    have hne : sa ≠ z.dx := fun q => by rw [q, f4] at hsa; exact no3 hsa
    have s6 := (l6 sa (some_ne (s5 _)) hne).trans (s5 _)
    refine seta_step (σ := σ) rfl rfl (fun Q q => q) i6 f6 (Nat.le_of_ble_eq_true rfl) k6 fun σ7 i7 f7 k7 l7 => ?_
    have s7 := (l7 sa (some_ne s6) hne).trans s6
    refine seta_step (σ := σ) rfl rfl (fun Q q => q) i7 f7 (Nat.le_of_ble_eq_true rfl) k7 fun σ8 i8 f8 k8 l8 => ?_
    have s8 := (l8 sa (some_ne s7) hne).trans s7
    exact hq sa σ8 i8 (by rw [f8]; unfold Z.flds; rw [hk]; rfl) s8 hs0 k8⟩
inductive SpMInit (vs : List V) (σ : AS) (Q : PQ) (X : PXx) : Prop where
  | mk : ∀ ma mx, (vs = [.ref ma, .int 40]) → (σ ma = some (.inst 413 mx)) → (σ mx = some (.fld [])) → (Q .none (σ.set mx (.fld [(Str.ofString "most", .int 40)]))) → SpMInit vs σ Q X
noncomputable def spMInit : Spec := SpMInit
theorem does_minit (cx : CxO (kC w la ns fns mes xs) pw w hB os0 n) (y : KYP w hB) : Does pw w hB os0 (n + 1) (.ref 356) spMInit :=
  in_Machine___init__ cx y fun vs σ Q X ro ⟨ma, mx, e, h1, h2, hq⟩ => ⟨_, _, e, oI_i h1 (oF_i h2 ⟨Nat.le_of_ble_eq_true rfl, hq⟩)⟩
end
noncomputable def isJ : Ins → Bool
  | .jmp _ _ => true
  | _ => false
noncomputable def jumpsV : List V := [.str (Str.ofString "jump"), .str (Str.ofString "unless"), .str (Str.ofString "when")]
theorem not_jump {x : Ins} (h : isJ x = false) (hr : runs x = true) : ((V.pys jumpsV).any fun d => PyData.eqv d (V.py (.str x.op))) = false := by
  cases x with
  | jmp k i => exact btf h
  | word s => exact bft hr
  | bad s w => exact bft hr
  | _ => kernel_rfl
theorem isJ_inv {x : Ins} (h : isJ x = true) : ∃ k i, x = .jmp k i := by cases x <;> first | exact ⟨_, _, rfl⟩ | exact bft h
theorem is_jump (k i : Nat) : ((V.pys jumpsV).any fun d => PyData.eqv d (V.py (.str (Ins.jmp k i).op))) = true := by cases k with
  | zero => kernel_rfl
  | succ k => cases k <;> kernel_rfl
theorem jmp_ne {k i a : Nat} (h : k ≠ 0) : (Ins.jmp k i).io = (1, 0) ∧ (Ins.jmp k i).goals a = [a + 1, i] := by cases k with
  | zero => exact absurd rfl h
  | succ k => exact ⟨rfl, rfl⟩
theorem one_goal {x : Ins} (h : isJ x = false) (hr : runs x = true) (a : Nat) : x.goals a = [a + 1] ∧ x.eff = x.io ∧ x.io.2 ≤ 1 := by
  cases x with
  | jmp k i => exact btf h
  | word s => exact bft hr
  | bad s w => exact bft hr
  | _ => exact ⟨rfl, rfl, Nat.le_of_ble_eq_true rfl⟩
structure RunIn (σ : AS) (ma mx ca va na : Addr) (nm own : V) (vals : List V) (c : List Ins) : Prop where
  mm : σ ma = some (.inst 413 mx)
  mf : σ mx = some (.fld [(Str.ofString "most", .int 40)])
  hc : σ ca = some (.list (codeV c))
  hv : σ va = some (.list vals)
  hn : σ na = some (.ds [(Str.ofString "n", nm)])
  gv : ∀ v ∈ vals, v.gd 1
  gn : nm.gd 1
  go : own.gd 1
  hI : ∀ x ∈ c, x.In
  hz : c.length ≤ 100
  hs : Silent c
  hr : ∀ x ∈ c, runs x = true
noncomputable def mRun (ma ca va na fa : Addr) (own : V) (a : Nat) (x8 x9 : Option V) : M := [some (.ref ma), some (.ref ca), some (.ref va), some (.ref na), some .none, some own, some (.ref fa), some (.int a), x8, x9]
inductive RunI (σ : AS) (ma ca va na fa dx : Addr) (own : V) (vals : List V) (c : List Ins) (k : Nat) (m : M) (σ' : AS) : Prop where
  | mk (sa : Addr) (nm own' : V) (stk : List V) (a : Nat) (x8 x9 : Option V) (e : m = mRun ma ca va na fa own a x8 x9) (fr : Fr ⟨σ, fa, dx, va, na, vals, sa, nm, own', k⟩ σ' stk) (gs : Gs (k + 1) ⟨σ, fa, dx, va, na, vals, sa, nm, own', k⟩ stk) (ha : a ≤ c.length) (fc : Frc c a stk.length) (hs : stk.length ≤ k) (hk : k ≤ 40)
inductive RunJ (σ : AS) (ma ca va na fa dx : Addr) (own : V) (vals : List V) (c : List Ins) (k' : Nat) (m : M) (σ' : AS) : Prop where
  | mk (k : Nat) (h : RunI σ ma ca va na fa dx own vals c k m σ') (e : k' = 41 - k)
section
variable {w : World} {hB : Heap} {os0 : OsState} {n : Nat} {la : Addr} {ns : List Int} {fns : List (Str × Spec)} {mes : List ((Addr × Str) × Spec)} {xs : List (Str × Addr)}
inductive SpRun (vs : List V) (σ : AS) (Q : PQ) (X : PXx) : Prop where
  | mk : ∀ ma mx ca va na nm own vals c, (vs = [.ref ma, .ref ca, .ref va, .ref na, .none, own]) → (RunIn σ ma mx ca va na nm own vals c) → (∀ v σ', K0 σ na σ' → Q v σ') → (∀ t σ', K0 σ na σ' → t ≠ Str.ofString "the stack is empty" → X ⟨74, .str t⟩ σ') → SpRun vs σ Q X
noncomputable def spRun : Spec := SpRun
theorem does_run (cx : CxO (kC w la ns fns mes xs) pw w hB os0 n) (y : KYP w hB) (h1 : fns.lookup (Str.ofString "Frame") = some (mkSpec 337 spInit)) (m1 : mes.lookup (337, Str.ofString "count") = some spCount) (m2 : mes.lookup (413, Str.ofString "jumped") = some spJumped) (m3 : mes.lookup (413, Str.ofString "step") = some spStep) : Does pw w hB os0 (n + 1) (.ref 363) spRun :=
  in_Machine_run cx y fun vs σ Q X ro ⟨ma, mx, ca, va, na, nm, own, vals, c, e, ri, hq, hX⟩ => ⟨_, _, _, _, _, _, e, post_gen fun P hr hxx _ => by
    have hlen := codeV_len (c := c)
    refine oS_i h1 (oI_i ri.mm (oF_i ri.mf fun fa dx hfa hdx hne => ⟨{ σ0 := σ, fa := fa, dx := dx, va := va, na := na, vals := vals, sa := 0, nm := nm, own := own, k := 0 }, rfl, rfl, AS.set_same _ _ _, (AS.set_ne _ _ (Ne.symm hne)).trans (AS.set_same _ _ _), fun sa σ1 i1 f1 s1 hs0 k1 => ⟨rfl, ?_⟩⟩))
    have told : ∀ a, σ a ≠ none → σ1 a = σ a := fun a h => by
      have d1 : a ≠ dx := fun q => h (by rw [q]; exact hdx)
      have d2 : a ≠ fa := fun q => h (by rw [q]; exact hfa)
      have e1 : ((σ.set dx (.fld [])).set fa (.inst 337 dx)) a = σ a := (AS.set_ne _ _ d2).trans (AS.set_ne _ _ d1)
      exact (k1 a (by rw [e1]; exact h) d1).trans e1
    have hsa : σ sa = none := by
      refine isN fun o q => ?_
      have d1 : sa ≠ dx := fun z => by rw [z, hdx] at q; exact no1 q
      have d2 : sa ≠ fa := fun z => by rw [z, hfa] at q; exact no1 q
      rw [show ((σ.set dx (.fld [])).set fa (.inst 337 dx)) sa = σ sa from (AS.set_ne _ _ d2).trans (AS.set_ne _ _ d1), q] at hs0
      exact no3 hs0
    have fr0 : Fr { σ0 := σ, fa := fa, dx := dx, va := va, na := na, vals := vals, sa := sa, nm := nm, own := own, k := 0 } σ1 [] := ⟨fun a h _ => told a h, ri.hv, ⟨_, ri.hn⟩, (told na (some_ne ri.hn)).trans ri.hn, i1, f1, s1, hdx, hsa⟩
    clear k1 hs0 s1 f1 i1 told
    refine ⟨RunJ σ ma ca va na fa dx own vals c,
      ⟨41, 0, ⟨sa, nm, own, [], 0, _, _, rfl, fr0, ⟨ri.gv, ri.go, ri.gn, fun _ h => (nomatch h)⟩, Nat.zero_le _, .zero, Nat.le_refl _, Nat.zero_le _⟩, rfl⟩, ?_⟩
    clear fr0 hsa
    rintro k' m' σ' ⟨k, ⟨sa, nm, own', stk, a, x8, x9, rfl, fr, gs, ha, fc, hsk, hk40⟩, rfl⟩
    refine len_list (fr.keep ri.hc nofun) (onB_of (fun z1 => oI_i fr.i (oF_i fr.f ?_)) fun z => onB_n z (oI_i fr.i (oF_i fr.f (hr _ _ (hq _ _ fr.k0)))))
    have hat : a < c.length := by have := of_decide_eq_true z1; rw [hlen] at this; omega
    clear z1
    refine hidNX fun P' hn hx' => ?_
    have bad : ∀ k (m : M), Bad ⟨σ, fa, dx, va, na, vals, sa, nm, own', k⟩ (fun x σ₁ => P'.x x m σ₁) := fun _ m t σ'' h ne => hx' _ _ _ (hxx _ _ _ (hX t σ'' h ne))
    clear hx' hxx hX hr hq
    refine met_inst fr.i fr.f m1 (oS_i m1 ⟨_, stk, rfl, fr, fun hk σ2 fr => ?_, bad _ _⟩)
    have hk : k + 1 ≤ 40 := hk
    have hca := fr.keep ri.hc nofun
    have hIx := ri.hI _ (List.getElem_mem hat)
    have hrx := ri.hr _ (List.getElem_mem hat)
    refine oLD_l hca (onB_i (decide_eq_true (Int.natCast_nonneg _)) (oS_i (codeV_get hat) ?_))
    have ft : c[a].io.1 ≤ stk.length := by
      obtain ⟨_, D, kD⟩ := ri.hs
      exact fc.le hat kD
    have fg : ∀ g ∈ c[a].goals a, g ≤ c.length ∧ Frc c g (c[a].go stk.length) := fun g hg => ⟨goals_le ri.hs.1 hat g hg, fc.go hat hg⟩
    unfold Ins.go at fg
    generalize c[a] = x at hIx hrx ft fg
    have go : ∀ {r : List V} {σ3 : AS} (a' : Nat), Fr ⟨σ, fa, dx, va, na, vals, sa, nm, own', k + 1⟩ σ3 r → (∀ v ∈ r, v ∈ stk) → r.length ≤ stk.length → x.eff.1 ≤ r.length → (a' ≤ c.length ∧ Frc c a' (r.length - x.eff.1 + x.eff.2)) → r.length + x.eff.2 ≤ k + 1 + x.eff.1 →
        rsts (kC w la ns fns mes xs) (.cons (.exp (.met (.loc 0) "step" (.cons (.loc 6) (.cons (.loc 8) (.cons (.loc 9) .nil))))) .nil) (mRun ma ca va na fa own a' (some (.str x.op)) (some x.w)) σ3 P' :=
      fun {r σ3} a' fr3 hr3 hrl he hfa hlen' => met_inst (fr3.m ⟨ri.mm, ri.mf⟩) (fr3.mf ⟨ri.mm, ri.mf⟩) m3 (oS_i m3 ⟨ma, mx, _, x, r, k + 1, rfl, fr3, ⟨ri.mm, ri.mf⟩, ⟨gs.v, gs.o, gs.n, fun v m => gs.s v (hr3 v m)⟩, ⟨by exact Nat.lt_of_le_of_lt ‹_› (by decide), by lia, hIx, hrx, he⟩,
        fun sa2 nm2 own2 σ4 stk2 fr4 gs4 e4 => hn _ _ ⟨41 - (k + 1), by grind, k + 1, ⟨sa2, nm2, own2, stk2, a', _, _, rfl, fr4, gs4, hfa.1, (show stk2.length = r.length - x.eff.1 + x.eff.2 by grind) ▸ hfa.2, by lia, hk⟩, rfl⟩, bad _ _⟩)
    clear hn bad
    cases hj : isJ x with
    | false =>
      obtain ⟨g1, g2, g3⟩ := one_goal hj hrx a
      rw [g1] at fg
      have f1 := fg (a + 1) (.head _)
      refine onB_n (not_jump hj hrx) (go (a + 1) fr (fun _ m => m) (Nat.le_refl _) (by rw [g2]; exact ft) (by rw [g2]; exact f1) (by rw [g2]; lia))
    | true =>
      obtain ⟨j, i, rfl⟩ := isJ_inv hj
      clear hj hIx hrx hat hca
      refine onB_i (is_jump j i) (met_inst (fr.m ⟨ri.mm, ri.mf⟩) (fr.mf ⟨ri.mm, ri.mf⟩) m2 (oS_i m2 ⟨ma, ⟨σ, fa, dx, va, na, vals, sa, nm, own', k + 1⟩, j, i, a, rfl, ?_⟩))
      by_cases h0 : j = 0
      · subst h0
        exact .inl ⟨rfl, go i fr (fun _ m => m) (Nat.le_refl _) (Nat.zero_le _) (fg i (.head _)) (Nat.le_succ_of_le hsk)⟩
      · rw [(jmp_ne h0 (a := a)).1] at ft fg
        rw [(jmp_ne h0).2] at fg
        obtain ⟨r, v, rfl⟩ := snoc_of (n := 0) ft
        have el : (r ++ [v]).length = r.length + 1 := List.length_append
        rw [el] at fg hsk
        refine .inr ⟨h0, r, v, fr, gs.goods (Nat.lt_of_le_of_lt ‹_› (by decide)), fun g σ' e fr' => go g fr' (fun _ m => List.mem_append_left _ m) (by lia) (Nat.zero_le _) (fg g ?_) (Nat.le_succ_of_le (Nat.le_of_succ_le hsk))⟩
        rcases e with rfl | rfl <;> simp⟩
end
structure Pen (σ : AS) (p q : Addr) (ns : List Int) (k : Nat) (a b : Int) : Prop where
  hp : σ p = some (.list [.ref q, .int a, .int b])
  hq : σ q = some (.list (ns.map .int))
  a0 : 0 ≤ a
  ak : a ≤ k
  b0 : 0 ≤ b
noncomputable def OnlyP (p : Addr) (σ σ' : AS) : Prop := ∀ a, a ≠ p → σ' a = σ a
theorem fmod_nat {x : Int} {n : Nat} (h : 0 < n) : ∃ d : Nat, x.fmod n = d ∧ d < n := by
  have h1 := Int.fmod_nonneg_of_pos x (show (0 : Int) < n by lia)
  have h2 := Int.fmod_lt_of_pos x (show (0 : Int) < n by lia)
  exact ⟨(x.fmod n).toNat, by lia, by omega⟩
theorem fdiv_nn {x : Int} {n : Nat} (h : 0 ≤ x) : 0 ≤ x.fdiv n := Int.fdiv_nonneg h (Int.natCast_nonneg _)
theorem big_of {x : Int} (h : x.natAbs < 2 ^ 200) : x.natAbs < 2 ^ 1000 := Nat.lt_trans h (Nat.pow_lt_pow_right (by exact Nat.le_add_left _ _) (by exact Nat.le_add_left _ _))
theorem small_of {n : Nat} {x : Int} (h : x.natAbs ≤ n) (h' : n < 2 ^ 200) : x.natAbs < 2 ^ 1000 := big_of (Nat.lt_of_le_of_lt h h')
theorem oLD_at {o : Option AO} {l : List V} {i : Int} {v : V} {k : V → Prop} {kd : List (Int × V) → Prop} (h : o = some (.list l)) (hv : l[i.toNat]? = some v) (q : k v) (h0 : 0 ≤ i := by decide) : oLD o (fun l => onB (decide (0 ≤ i)) (oS (l[i.toNat]?) k) False) kd := by cases h; exact onB_i (decide_eq_true h0) (oS_i hv q)
section
variable {w : World} {hB : Heap} {os0 : OsState} {n : Nat} {la : Addr} {ns0 : List Int} {fns : List (Str × Spec)} {mes : List ((Addr × Str) × Spec)} {xs : List (Str × Addr)}
inductive SpDraw (vs : List V) (σ : AS) (Q : PQ) (X : PXx) : Prop where
  | mk : ∀ p q ns k a b many, (vs = [.ref p, .int (many : Nat)]) → (Pen σ p q ns k a b) → (0 < many ∧ many ≤ 2000 ∧ k ≤ 1000000) → (∀ (d : Nat) a' b' σ', d < many → OnlyP p σ σ' → Pen σ' p q ns (k + 1) a' b' → Q (.int d) σ') → SpDraw vs σ Q X
noncomputable def spDraw : Spec := SpDraw
theorem does_draw (cx : CxO (kC w la ns0 fns mes xs) pw w hB os0 n) (y : KYP w hB) : Does pw w hB os0 (n + 1) (.ref 431) spDraw :=
  in__law_draw cx y fun vs σ Q X ro ⟨p, q, ns, k, a, b, many, e, pen, ⟨hm, hm2, hk⟩, hQ⟩ => ⟨_, _, e, post_gen fun P hr _ _ => by
    have mne : (many : Int) ≠ 0 := by lia
    have mbig : (many : Int).natAbs < 2 ^ 1000 := small_of (n := 2000) (by assumption) (by decide)
    have qp : q ≠ p := ne_of pen.hq pen.hp (by
      intro h
      injection h with h
      cases ns with
      | nil => cases h
      | cons x r => injection h with h _; cases h)
    have fin : ∀ {σ1 : AS} {a' b' x : Int}, OnlyP p σ σ1 → σ1 p = some (.list [.ref q, .int a', .int b']) → 0 ≤ a' → a' ≤ (k : Int) + 1 → 0 ≤ b' → P.r (.int (x.fmod many)) σ1 := fun {σ1 a' b' x} ht h1 h2 h3 h4 => by
      obtain ⟨d, e1, e2⟩ := fmod_nat (x := x) hm
      rw [e1]
      exact hr _ _ (hQ d a' b' σ1 e2 ht ⟨h1, (ht q qp).trans pen.hq, h2, by assumption, h4⟩)
    have set1 : ∀ {o : AO}, OnlyP p σ (σ.set p o) := fun a h => AS.set_ne _ _ h
    have set2 : ∀ {σ1 : AS} {o : AO}, OnlyP p σ σ1 → OnlyP p σ (σ1.set p o) := fun h1 a h => (AS.set_ne _ _ h).trans (h1 a h)
    have l2 : (2 : Int) < ((([V.ref q, .int a, .int b] : List V).length : Nat) : Int) := by show (2 : Int) < 3; decide
    have l1 : (1 : Int) < ((([V.ref q, .int a, .int b] : List V).length : Nat) : Int) := by show (1 : Int) < 3; decide
    have p32 : (32 : Int).natAbs < 2 ^ 1000 := small_of (n := 32) (by decide) (by decide)
    have rest2 : ∀ {σ1 : AS} (cell : Int) (o2 : Option V), OnlyP p σ σ1 → σ1 p = some (.list [.ref q, .int (a + 1), .int b]) → rsts (kC w la ns0 fns mes xs) (rp__law_draw.drop 6) [some (.ref p), some (.int many), o2, some (.int a), some (.int cell), none] σ1 P := fun {σ1} cell o2 ht h1 => by
      have f1 := Int.fmod_nonneg_of_pos cell (show (0 : Int) < 2147483579 by decide)
      have f2 := Int.fmod_lt_of_pos cell (show (0 : Int) < 2147483579 by decide)
      have a0 := pen.a0
      have ak := pen.ak
      refine ⟨by decide, .inl (by decide), .inl ⟨rfl, small_of (n := 1000000000000) (by lia) (by decide), by decide, ?_⟩⟩
      have g1 := Int.fmod_nonneg_of_pos ((cell.fmod 2147483579 + 92077 * a + 5741) ^ 3) (show (0 : Int) < 2147483647 by decide)
      have g2 := Int.fmod_lt_of_pos ((cell.fmod 2147483579 + 92077 * a + 5741) ^ 3) (show (0 : Int) < 2147483647 by decide)
      generalize (cell.fmod 2147483579 + 92077 * a + 5741) ^ 3 = z at g1 g2
      have m1 : z.fmod 2147483647 * (2 * a + 373) ≤ 2147483647 * 2000373 := Int.mul_le_mul (by lia) (by lia) (by lia) (by decide)
      have m2 : 0 ≤ z.fmod 2147483647 * (2 * a + 373) := Int.mul_nonneg g1 (by lia)
      refine ⟨.inl (by decide), .inl (by lia), .inl (by decide), .inl ⟨rfl, small_of (n := 100000000000000000) (by lia) (by decide), by decide, by decide, p32, mne, fin ht h1 (by lia) (by lia) pen.b0⟩⟩
    have rest : ∀ {σ1 : AS} (cell : Int), OnlyP p σ σ1 → σ1 p = some (.list [.ref q, .int (a + 1), .int b]) → rsts (kC w la ns0 fns mes xs) (rp__law_draw.drop 5) [some (.ref p), some (.int many), none, some (.int a), some (.int cell), none] σ1 P := fun {σ1} cell ht h1 => by
      have hq1 := (ht q qp).trans pen.hq
      refine oLD_at h1 rfl (len_list hq1 (onB_of (fun z : decide (a < (((ns.map V.int).length : Nat) : Int)) = true => .inr ⟨rfl, rfl, onB_of (fun z2 : decide ((cell.natAbs : Int) ≥ 10 ^ 18) = true => ?_) fun _ => rest2 cell none ht h1⟩) fun z => onB_n z (rest2 cell none ht h1)))
      have z2 := of_decide_eq_true z2
      have bn : 0 ≤ 2 * ((cell.natAbs : Int) - 10 ^ 18) + (if decide (cell < 0) then 1 else 0) := by split <;> lia
      refine .inr ⟨rfl, rfl, .inl (by decide), oL_i h1 ⟨⟨by decide, l2⟩, ?_⟩⟩
      generalize 2 * ((cell.natAbs : Int) - 10 ^ 18) + (if decide (cell < 0) then 1 else 0) = b' at bn
      have s1 : (σ1.set p (.list [.ref q, .int (a + 1), .int b'])) p = some (.list [.ref q, .int (a + 1), .int b']) := AS.set_same _ _ _
      refine oLD_l s1 ⟨mne, oLD_l s1 ⟨mne, mbig, oL_i s1 ⟨⟨by decide, l2⟩, fin (set2 (set2 ht)) (AS.set_same _ _ _) (by have := pen.a0; lia) (by have := pen.ak; lia) (fdiv_nn bn)⟩⟩⟩
    refine oLD_at pen.hp rfl (onB_of (fun z : decide (b > 0) = true => oLD_l pen.hp ⟨mne, oLD_l pen.hp ⟨mne, mbig, oL_i pen.hp ⟨⟨by decide, l2⟩, fin set1 (AS.set_same _ _ _) pen.a0 (by have := pen.ak; lia) (fdiv_nn pen.b0)⟩⟩⟩) fun _ => ?_)
    refine oLD_at pen.hp rfl (oL_i pen.hp ⟨⟨by decide, l1⟩, ⟨.inl (by decide), ?_⟩⟩)
    have s1 : (σ.set p (.list [.ref q, .int (a + 1), .int b])) p = some (.list [.ref q, .int (a + 1), .int b]) := AS.set_same _ _ _
    have q1 : (σ.set p (.list [.ref q, .int (a + 1), .int b])) q = some (.list (ns.map .int)) := (AS.set_ne _ _ qp).trans pen.hq
    refine oLD_at s1 rfl (len_list q1 (onB_of (fun z : decide ((((ns.map V.int).length : Nat) : Int) > 0) = true => ?_) fun _ => rest _ set1 s1))
    have z := of_decide_eq_true z
    have zl : 0 < (ns.map V.int).length := by lia
    obtain ⟨d, e1, e2⟩ := fmod_nat (x := a) zl
    have gd : (ns.map V.int)[(a.fmod (((ns.map V.int).length : Nat) : Int)).toNat]? = some (.int (ns[d]'(by rw [List.length_map] at e2; exact e2))) := by
      rw [e1, Int.toNat_natCast, List.getElem?_map, List.getElem?_eq_getElem (by rw [List.length_map] at e2; exact e2)]; rfl
    exact oLD_l s1 (oLD_at s1 rfl (len_list q1 ⟨by lia, oLD_l q1 (onB_i (decide_eq_true (by rw [e1]; exact Int.natCast_nonneg _)) (oS_i gd (rest _ set1 s1)))⟩))⟩
end
theorem new_none {σ : AS} {c p : Addr} {o : AO} (h : (σ.set c o) p = none) : σ p = none := by
  by_cases e : p = c
  · rw [e, AS.set_same] at h; exact no3 h
  · rw [AS.set_ne _ _ e] at h; exact h
noncomputable def Keep (p : Addr) (σ σ' : AS) : Prop := ∀ a, σ a ≠ none → a ≠ p → σ' a = σ a
section
variable {p q : Addr} {σ σ' σ₂ : AS} {ns : List Int} {k k' : Nat} {a b : Int}
theorem Keep.of (h : OnlyP p σ σ') : Keep p σ σ' := fun a _ h' => h a h'
theorem Keep.ext (h : Ext σ σ') : Keep p σ σ' := fun a h' _ => h a h'
theorem Keep.trans (x : Keep p σ σ') (y : Keep p σ' σ₂) : Keep p σ σ₂ := fun a h h' => (y a (by rw [x a h h']; exact h) h').trans (x a h h')
theorem Pen.ext (x : Pen σ p q ns k a b) (e : Ext σ σ') : Pen σ' p q ns k a b := ⟨(e _ (some_ne x.hp)).trans x.hp, (e _ (some_ne x.hq)).trans x.hq, x.a0, x.ak, x.b0⟩
theorem Pen.up (x : Pen σ p q ns k a b) (h : k ≤ k') : Pen σ p q ns k' a b := { x with ak := Int.le_trans x.ak (Int.ofNat_le.mpr h) }
theorem Keep.fresh (x : Keep p σ σ') (hp : σ' p ≠ none) {c : Addr} (h : σ' c = none) : σ c = none := by
  refine isN fun o e => ?_
  have := x c (some_ne e) fun q => hp (by rw [← q]; exact h)
  rw [h, e] at this; exact no1 this
end
noncomputable def VOk (l : List Ins) : Prop := (∀ x ∈ l, x.In) ∧ 1 ≤ l.length ∧ l.length ≤ 4
section
variable {w : World} {hB : Heap} {os0 : OsState} {n : Nat} {la : Addr} {ns0 : List Int} {fns : List (Str × Spec)} {mes : List ((Addr × Str) × Spec)} {xs : List (Str × Addr)}
theorem draw_ok {C : Cx} {m : M} {σ : AS} {p q : Addr} {ns : List Int} {k many : Nat} {a b : Int} {e : RE} {Q : PQ} {E : PXx} (h1 : C.S (Str.ofString "_law_draw") = some spDraw) (hm : m[0]? = some (some (.ref p))) (pen : Pen σ p q ns k a b) (hk : k ≤ 1000000) (h0 : 0 < many) (h2 : many ≤ 2000) (he : ∀ (Q : PQ), Q (.int (many : Nat)) σ → rev C e m σ Q E)
    (h : ∀ (d : Nat) a' b' σ', d < many → OnlyP p σ σ' → Pen σ' p q ns (k + 1) a' b' → Q (.int d) σ') : rev C (.call (Str.ofString "_law_draw") (.cons (.loc 0) (.cons e .nil))) m σ Q E :=
  oS_i h1 (oSS hm (he (fun u σ₂ => spDraw [.ref p, u] σ₂ Q E) ⟨p, q, ns, k, a, b, many, rfl, pen, ⟨h0, h2, hk⟩, h⟩))
theorem pick_ok {C : Cx} {m : M} {σ : AS} {p q : Addr} {ns : List Int} {k many : Nat} {a b : Int} {e : RE} {L : RL} {l : List V} {Q : PQ} {E : PXx} (h1 : C.S (Str.ofString "_law_draw") = some spDraw) (hm : m[0]? = some (some (.ref p))) (pen : Pen σ p q ns k a b) (hk : k ≤ 1000000) (hl : l.length = many) (h0 : 0 < many) (h2 : many ≤ 2000)
    (hL : ∀ (Q : List V → AS → Prop), Q l σ → revs C L m σ Q E) (he : ∀ (σ : AS) (Q : PQ), Q (.int (many : Nat)) σ → rev C e m σ Q E)
    (h : ∀ v ∈ l, ∀ a' b' σ', Keep p σ σ' → Pen σ' p q ns (k + 1) a' b' → Q v σ') : rev C (.sub (.lst L) (.call (Str.ofString "_law_draw") (.cons (.loc 0) (.cons e .nil)))) m σ Q E :=
  hL (fun vs σ₁ => anew C (.list vs) σ₁ fun v σ₁ => rev C (.call (Str.ofString "_law_draw") (.cons (.loc 0) (.cons e .nil))) m σ₁ (fun x σ₂ => aidx C v x σ₂ Q) E) fun c hc _ => by
    refine draw_ok h1 hm (pen.ext (Ext.new hc)) hk h0 h2 (he _) fun d a' b' σ' hd ht pen' => ?_
    have hcp : c ≠ p := fun z => by rw [z, pen.hp] at hc; exact no3 hc
    have hd' : d < l.length := hl ▸ hd
    exact oLD_at ((ht c hcp).trans (AS.set_same _ _ _)) (by rw [Int.toNat_natCast]; exact List.getElem?_eq_getElem hd') (h _ (List.getElem_mem hd') a' b' σ' ((Keep.ext (Ext.new hc)).trans (.of ht)) pen') (Int.natCast_nonneg _)
noncomputable def spPenNew (la : Addr) (ns : List Int) : Spec := fun vs σ Q X => vs = [.ref la] ∧ ∀ p q σ', Ext σ σ' → σ p = none → Pen σ' p q (ns.take 24) 0 0 0 → Q (.ref p) σ'
theorem does_pen (cx : CxO (kC w la ns0 fns mes xs) pw w hB os0 n) (y : KYP w hB) (h23 : la ≠ 23) (h24 : la ≠ 24) : Does pw w hB os0 (n + 1) (.ref 424) (spPenNew la ns0) :=
  in__law_pen cx y fun vs σ Q X ro ⟨e, hq⟩ => ⟨_, e, by
    have hro : (kC w la ns0 fns mes xs).ro la = some (.list (ns0.map .int)) := by
      show (if la = 23 then some (.ds levels) else if la = 24 then some (.ds functions) else if la = la then some (AO.list (ns0.map .int)) else none) = _
      rw [if_neg h23, if_neg h24, if_pos rfl]
    have lk : (kC w la ns0 fns mes xs).look σ la = some (.list (ns0.map .int)) := by unfold Cx.look; rw [ro la _ hro]; exact hro
    have ec : cutL (ns0.map V.int) none (some 24) = (ns0.take 24).map V.int := List.map_take.symm
    refine ⟨trivial, ⟨by decide, by decide⟩, oL_i lk fun c hc _ => oL_i (AS.set_same _ _ _) fun q hq' _ => fun p hp _ => ?_⟩
    exact hq p q _ (((Ext.new hc).trans (Ext.new hq')).trans (Ext.new hp)) (new_none (new_none hp)) ⟨AS.set_same _ _ _, (set_of (AS.set_same _ _ _) hp).trans (by rw [ec]), Int.le_refl _, Int.le_refl _, Int.le_refl _⟩⟩
end
theorem words_drawn {s : Str} (h : s ∈ functions.map (·.1)) : ∃ k, (s, k) ∈ wordsN ∧ functions.lookup s = some (.int (k : Nat)) ∧ k ≤ 3 ∧ 1 ≤ k := by
  have w : ∀ {s : Str} (k : Nat), wordsN.contains (s, k) = true → functions.lookup s = some (.int (k : Nat)) → k ≤ 3 → 1 ≤ k → ∃ k, (s, k) ∈ wordsN ∧ functions.lookup s = some (.int (k : Nat)) ∧ k ≤ 3 ∧ 1 ≤ k := fun k a b c d => ⟨k, List.contains_iff_mem.mp a, b, c, d⟩
  refine (?_ : ∀ s ∈ functions.map (·.1), ∃ k, (s, k) ∈ wordsN ∧ functions.lookup s = some (.int (k : Nat)) ∧ k ≤ 3 ∧ 1 ≤ k) s h
  exact all_cons (w 1 (by kernel_rfl) (by kernel_rfl) (by decide) (by decide)) (all_cons (w 2 (by kernel_rfl) (by kernel_rfl) (by decide) (by decide)) (all_cons (w 2 (by kernel_rfl) (by kernel_rfl) (by decide) (by decide)) (all_cons (w 1 (by kernel_rfl) (by kernel_rfl) (by decide) (by decide)) (all_cons (w 1 (by kernel_rfl) (by kernel_rfl) (by decide) (by decide)) (all_cons (w 1 (by kernel_rfl) (by kernel_rfl) (by decide) (by decide))
      (all_cons (w 1 (by kernel_rfl) (by kernel_rfl) (by decide) (by decide)) (all_cons (w 1 (by kernel_rfl) (by kernel_rfl) (by decide) (by decide)) (all_cons (w 1 (by kernel_rfl) (by kernel_rfl) (by decide) (by decide)) (all_cons (w 3 (by kernel_rfl) (by kernel_rfl) (by decide) (by decide)) (all_cons (w 2 (by kernel_rfl) (by kernel_rfl) (by decide) (by decide)) all_nil))))))))))
section
variable {w : World} {hB : Heap} {os0 : OsState} {n : Nat} {la : Addr} {ns0 : List Int} {fns : List (Str × Spec)} {mes : List ((Addr × Str) × Spec)} {xs : List (Str × Addr)}
inductive SpValue (vs : List V) (σ : AS) (Q : PQ) (X : PXx) : Prop where
  | mk : ∀ p q ns k a b, (vs = [.ref p]) → (Pen σ p q ns k a b) → (k ≤ 900000) → (∀ c l a' b' σ', Keep p σ σ' → Pen σ' p q ns (k + 2) a' b' → σ c = none → σ' c = some (.list (codeV l)) → VOk l → Q (.ref c) σ') → SpValue vs σ Q X
noncomputable def spValue : Spec := SpValue
theorem args_list {k : Nat} (h : k ≤ 3) : (rangeV (k : Int)).map (fun x => match x with | .int i => V.tup [.str (Str.ofString "arg"), .int (1 + i)] | v => v) = codeV ((List.range k).map fun i => Ins.arg (1 + i)) := by
  unfold rangeV codeV
  rw [List.map_map, List.map_map, Int.toNat_natCast]
  rfl
theorem argsOkV {k : Nat} (h : k ≤ 3) : ∀ x ∈ (List.range k).map fun i => Ins.arg (1 + i), x.In := fun x m => by
  obtain ⟨i, hi, rfl⟩ := List.mem_map.mp m
  have := List.mem_range.mp hi
  exact ⟨by exact Nat.le_add_right _ _, by lia⟩
noncomputable abbrev argF : V → V := fun x => match x with | .int i => V.tup [.str (Str.ofString "arg"), .int (1 + i)] | v => v
theorem args_ok {C : Cx} {m : M} {σ : AS} {kk : Nat} {x : Ins} {Q : PQ} {E : PXx} {eR eT : RE} (hk : kk ≤ 3) (he : ∀ (Q : PQ), Q (.int (kk : Nat)) σ → rev C eR m σ Q E) (hw : ∀ σ' (Q : PQ), Ext σ σ' → Q x.v σ' → rev C eT m σ' Q E)
    (h : ∀ c σ', Ext σ σ' → σ' c = none → Q (.ref c) (σ'.set c (.list (codeV (((List.range kk).map fun i => Ins.arg (1 + i)) ++ [x]))))) :
    rev C (.bin .Add (.comp [none, none] (.rng eR) 1 .no (.tup (.cons (.cst (.str (Str.ofString "arg"))) (.cons (.bin .Add (.cst (.int 1)) (.loc 1)) .nil)))) (.lst (.cons eT .nil))) m σ Q E := by
  have eA := args_list hk
  refine he _ ⟨⟨Int.natCast_nonneg _, by omega⟩, map_comp (F := argF) trivial (by rw [rangeV_len]; exact Nat.le_trans ‹_› (by decide)) (fun x m Q' h => ?_) fun f hf _ => ?_⟩
  · obtain ⟨i, _, rfl⟩ := List.mem_map.mp m
    exact h
  refine hw _ (fun v σ₁ => anew C (.list [v]) σ₁ fun u σ₂ => abin C .Add (.ref f) u σ₂ Q) (Ext.new hf) fun g hg _ => ?_
  have hfg := set_of (x := .list [x.v]) (AS.set_same σ f (.list ((rangeV (kk : Int)).map argF))) hg
  have z : ((rangeV (kk : Int)).map argF).length + [x.v].length ≤ seqMost := by
    rw [List.length_map, rangeV_len]; show _ + 1 ≤ 1000000; exact Nat.lt_of_le_of_lt ‹_› (by decide)
  refine oL_i hfg (oL_i (AS.set_same _ _ _) (onB_i (decide_eq_true z) fun c hc _ => ?_))
  have e2 : (rangeV (kk : Int)).map argF ++ [x.v] = codeV (((List.range kk).map fun i => Ins.arg (1 + i)) ++ [x]) := by
    rw [show (rangeV (kk : Int)).map argF = _ from eA]
    unfold codeV; rw [List.map_append]; rfl
  rw [e2]
  exact h c _ ((Ext.new hf).trans (Ext.new hg)) hc
theorem does_value (cx : CxO (kC w la ns0 fns mes xs) pw w hB os0 n) (y : KYP w hB) (h1 : fns.lookup (Str.ofString "_law_draw") = some spDraw) : Does pw w hB os0 (n + 1) (.ref 436) spValue :=
  in__law_value cx y fun vs σ Q X ro ⟨p, q, ns, k, a, b, e, pen, hk, hQ⟩ => ⟨_, e, post_gen fun P hr _ _ => by
    refine draw_ok (many := 7) h1 rfl pen (by exact Nat.le_trans ‹_› (by decide)) (by decide) (by decide) (fun _ h => h) fun d a1 b1 σ1 hd ht pen1 => ?_
    have k1 : Keep p σ σ1 := .of ht
    have fin : ∀ {σ2 : AS} {a2 b2 : Int} {l : List Ins} {lv : List V} (c : Addr), Keep p σ σ2 → Pen σ2 p q ns (k + 2) a2 b2 → σ2 c = none → lv = codeV l → VOk l → P.r (.ref c) (σ2.set c (.list lv)) := fun {σ2 a2 b2 l lv} c kk pp hc e v =>
      hr _ _ (hQ c l a2 b2 _ (kk.trans (.ext (Ext.new hc))) (pp.ext (Ext.new hc)) (kk.fresh (some_ne pp.hp) hc) (by rw [e]; exact AS.set_same _ _ _) v)
    have one : ∀ {x : Ins}, x.In → VOk [x] := fun h => ⟨fun z m => by rw [List.mem_singleton.mp m]; exact h, Nat.le_of_ble_eq_true rfl, Nat.le_of_ble_eq_true rfl⟩
    revert d; refine bel (bel (bel (bel (bel (bel (bel bel_nil ?_) ?_) ?_) ?_) ?_) ?_) ?_
    · refine pick_ok (l := ([.int 0, .int 7, .str (Str.ofString ""), .str (Str.ofString "ab")] : List V)) (many := 4) h1 rfl pen1 (by exact Nat.lt_of_le_of_lt ‹_› (by decide)) rfl (by decide) (by decide) (fun _ h => h) (fun _ _ h => h) fun v m a2 b2 σ2 k2 pen2 => fun c hc _ => ?_
      exact fin (l := [.push v]) c (k1.trans k2) pen2 hc rfl (one ((all_cons (.head _) (all_cons (.tail _ (.head _)) (all_cons (.tail _ (.tail _ (.head _))) (all_cons (.tail _ (.tail _ (.tail _ (.head _)))) all_nil))) : ∀ v ∈ ([.int 0, .int 7, .str (Str.ofString ""), .str (Str.ofString "ab")] : List V), v ∈ pushed) v m))
    · exact draw_ok (many := 3) h1 rfl pen1 (by exact Nat.lt_of_le_of_lt ‹_› (by decide)) (by decide) (by decide) (fun _ h => h) fun d2 a2 b2 σ2 hd2 ht2 pen2 => fun c hc _ => fin (l := [.arg (1 + d2)]) c (k1.trans (.of ht2)) pen2 hc rfl (one ⟨by exact Nat.le_add_right _ _, by lia⟩)
    · exact fun c hc _ => fin (l := [.own]) c k1 (pen1.up (Nat.le_succ _)) hc rfl (one trivial)
    · refine pick_ok (l := ["+", "==", "<", "%"].map fun s => V.str (Str.ofString s)) (many := 4) h1 rfl pen1 (by exact Nat.lt_of_le_of_lt ‹_› (by decide)) rfl (by decide) (by decide) (fun _ h => h) (fun _ _ h => h) fun v m a2 b2 σ2 k2 pen2 => fun c hc _ => ?_
      obtain ⟨s, rfl, hs⟩ := (all_cons ⟨_, rfl, .head _⟩ (all_cons ⟨_, rfl, .tail _ (.head _)⟩ (all_cons ⟨_, rfl, .tail _ (.tail _ (.head _))⟩ (all_cons ⟨_, rfl, .tail _ (.tail _ (.tail _ (.head _)))⟩ all_nil))) : ∀ v ∈ (["+", "==", "<", "%"].map fun s => V.str (Str.ofString s)), ∃ s, v = .str s ∧ s ∈ signs) v m
      exact fin (l := [.arg 1, .get, .two s]) c (k1.trans k2) pen2 hc rfl ⟨all_cons ⟨by decide, by decide⟩ (all_cons trivial (all_cons hs all_nil)), Nat.le_of_ble_eq_true rfl, Nat.le_of_ble_eq_true rfl⟩
    · refine pick_ok (l := ["-", "!"].map fun s => V.str (Str.ofString s)) (many := 2) h1 rfl pen1 (by exact Nat.lt_of_le_of_lt ‹_› (by decide)) rfl (by decide) (by decide) (fun _ h => h) (fun _ _ h => h) fun v m a2 b2 σ2 k2 pen2 => fun c hc _ => ?_
      obtain ⟨s, rfl, hs⟩ := (all_cons ⟨_, rfl, .inr rfl⟩ (all_cons ⟨_, rfl, .inl rfl⟩ all_nil) : ∀ v ∈ (["-", "!"].map fun s => V.str (Str.ofString s)), ∃ s, v = .str s ∧ (s = Str.ofString "!" ∨ s = Str.ofString "-")) v m
      exact fin (l := [.get, .one s, .truth]) c (k1.trans k2) pen2 hc rfl ⟨all_cons trivial (all_cons hs (all_cons trivial all_nil)), Nat.le_of_ble_eq_true rfl, Nat.le_of_ble_eq_true rfl⟩
    · refine draw_ok (many := 3) h1 rfl pen1 (by exact Nat.lt_of_le_of_lt ‹_› (by decide)) (by decide) (by decide) (fun _ h => h) fun d2 a2 b2 σ2 hd2 ht2 pen2 => ?_
      refine args_ok (kk := d2) (x := .list d2) (by exact Nat.le_of_lt ‹_›) (fun _ h => h) (fun _ _ _ h => h) fun c σ' e hc => fin c ((k1.trans (.of ht2)).trans (.ext e)) (pen2.ext e) hc rfl ⟨fun x m => (List.mem_append.mp m).elim (argsOkV (by exact Nat.le_of_lt ‹_›) x) fun m => by rw [List.mem_singleton.mp m]; exact Nat.le_of_lt_succ hd2, ?_, ?_⟩
      · rw [List.length_append]; exact Nat.le_add_left _ _
      · rw [List.length_append, List.length_map, List.length_range]; show d2 + 1 ≤ 4; exact Nat.le_succ_of_le ‹_›
    · have rc : (kC w la ns0 fns mes xs).ro 24 = some (.ds functions) := by kernel_rfl
      have z0 := ro24 ro
      have z1 : σ1 24 = none := (ht 24 fun q => by rw [q, pen.hp] at z0; exact no3 z0).trans z0
      have sf : (functions.all fun x => sfB x.1) = true := by kernel_rfl
      refine ⟨functions, z1, rc, by decide +kernel, fun x m => sfB_ok (List.all_eq_true.mp sf x m), fun l hl c hc hro => ?_⟩
      have zc : (24 : Addr) ≠ c := fun q => by rw [← q, rc] at hro; exact no3 hro
      have z2 : (σ1.set c (.list (l.map .str))) 24 = none := (AS.set_ne _ _ zc).trans z1
      have e11 : functions.length = 11 := by kernel_rfl
      refine draw_ok (many := 11) h1 rfl (pen1.ext (Ext.new hc)) (by exact Nat.lt_of_le_of_lt ‹_› (by decide)) (by decide) (by decide) (fun Q h => len_ds z2 rc ⟨by decide +kernel, by rw [e11]; exact h⟩) fun d2 a2 b2 σ2 hd2 ht2 pen2 => ?_
      have hcp : c ≠ p := fun q => by rw [q, pen1.hp] at hc; exact no3 hc
      have ll : l.length = 11 := by rw [hl.length_eq, List.length_map, e11]
      have hd : d2 < l.length := by lia
      have hc2 : σ2 c = some (.list (l.map .str)) := (ht2 c hcp).trans (AS.set_same _ _ _)
      have z3 : σ2 24 = none := (ht2 24 fun q => by rw [q, pen.hp] at z0; exact no3 z0).trans z2
      obtain ⟨kk, hw, hlk, hk3, _⟩ := words_drawn (hl.mem_iff.mp (List.getElem_mem hd))
      refine oLD_at (v := .str l[d2]) hc2 (by rw [Int.toNat_natCast, List.getElem?_map, List.getElem?_eq_getElem hd]; rfl) ?_ (Int.natCast_nonneg _)
      refine args_ok (kk := kk) (x := .apply l[d2] kk) hk3 (fun Q h => oDs_i (by unfold Cx.look; rw [z3]; exact rc) (oS_i hlk h)) (fun _ _ _ h => h) fun c' σ' e hc' => fin c' (((k1.trans (.ext (Ext.new hc))).trans (.of ht2)).trans (.ext e)) (pen2.ext e) hc' rfl ⟨fun x m => (List.mem_append.mp m).elim (argsOkV hk3 x) fun m => by rw [List.mem_singleton.mp m]; exact hw, ?_, ?_⟩
      · rw [List.length_append]; exact Nat.le_add_left _ _
      · rw [List.length_append, List.length_map, List.length_range]; show kk + 1 ≤ 4; exact Nat.succ_le_succ ‹_›⟩
end
theorem add_codes {C : Cx} {σ : AS} {a b : Addr} {l r : List Ins} {Q : PQ} (h1 : σ a = some (.list (codeV l))) (h2 : σ b = some (.list (codeV r))) (hz : l.length + r.length ≤ 1000) (h : ∀ c, σ c = none → Q (.ref c) (σ.set c (.list (codeV (l ++ r))))) : abin C .Add (.ref a) (.ref b) σ Q := by
  have z : (codeV l).length + (codeV r).length ≤ seqMost := by rw [codeV_len, codeV_len]; exact Nat.le_trans hz (by decide +kernel)
  refine oL_i h1 (oL_i h2 (onB_i (decide_eq_true z) fun c hc _ => ?_))
  rw [show codeV l ++ codeV r = codeV (l ++ r) from List.map_append.symm]
  exact h c hc
section
variable {w : World} {hB : Heap} {os0 : OsState} {n : Nat} {la : Addr} {ns0 : List Int} {fns : List (Str × Spec)} {mes : List ((Addr × Str) × Spec)} {xs : List (Str × Addr)}
theorem value_ok {C : Cx} {m : M} {σ : AS} {p q : Addr} {ns : List Int} {k : Nat} {a b : Int} {Q : PQ} {E : PXx} (h2 : C.S (Str.ofString "_law_value") = some spValue) (hm : m[0]? = some (some (.ref p))) (pen : Pen σ p q ns k a b) (hk : k ≤ 900000)
    (h : ∀ c l a' b' σ', Keep p σ σ' → Pen σ' p q ns (k + 2) a' b' → σ c = none → σ' c = some (.list (codeV l)) → VOk l → Q (.ref c) σ') : rev C (.call (Str.ofString "_law_value") (.cons (.loc 0) .nil)) m σ Q E :=
  oS_i h2 (oSS hm ⟨p, q, ns, k, a, b, rfl, pen, hk, h⟩)
noncomputable def POk (l : List Ins) : Prop := (∀ x ∈ l, x.In) ∧ 1 ≤ l.length ∧ l.length ≤ 11
inductive SpPiece (vs : List V) (σ : AS) (Q : PQ) (X : PXx) : Prop where
  | mk : ∀ p q ns k a b g, (vs = [.ref p, .int (g : Nat)]) → (Pen σ p q ns k a b) → (k ≤ 800000 ∧ g ≤ 200) → (∀ c l a' b' σ', Keep p σ σ' → Pen σ' p q ns (k + 7) a' b' → σ c = none → σ' c = some (.list (codeV l)) → POk l → Q (.ref c) σ') → SpPiece vs σ Q X
noncomputable def spPiece : Spec := SpPiece
theorem all_app {l r : List Ins} (h : ∀ x ∈ l, x.In) (h' : ∀ x ∈ r, x.In) : ∀ x ∈ l ++ r, x.In := fun x m => (List.mem_append.mp m).elim (h x) (h' x)
theorem all_one {x : Ins} (h : x.In) : ∀ y ∈ [x], y.In := fun y m => by rw [List.mem_singleton.mp m]; exact h
theorem code_pen {l : List Ins} {q : Addr} {a b : Int} (h : 1 ≤ l.length) : AO.list (codeV l) ≠ .list [.ref q, .int a, .int b] := by
  cases l with
  | nil => cases h
  | cons x r => intro e; injection e with e; injection e with e _; cases e
theorem does_piece (cx : CxO (kC w la ns0 fns mes xs) pw w hB os0 n) (y : KYP w hB) (h1 : fns.lookup (Str.ofString "_law_draw") = some spDraw) (h2 : fns.lookup (Str.ofString "_law_value") = some spValue) : Does pw w hB os0 (n + 1) (.ref 443) spPiece :=
  in__law_piece cx y fun vs σ Q X ro ⟨p, q, ns, k, a, b, g, e, pen, ⟨hk, hg⟩, hQ⟩ => ⟨_, _, e, post_gen fun P hr _ _ => by
    refine draw_ok (many := 6) h1 rfl pen (by exact Nat.le_trans ‹_› (by decide)) (by decide) (by decide) (fun _ h => h) fun d a1 b1 σ1 hd ht pen1 => ?_
    refine value_ok h2 rfl pen1 (by exact Nat.lt_of_le_of_lt ‹_› (by decide)) fun c1 l1 a2 b2 σ2 k12 pen2 hc1 hl1 v1 => ?_
    have k2 : Keep p σ σ2 := (Keep.of ht).trans k12
    have fin : ∀ {σ3 : AS} {a3 b3 : Int} {l : List Ins} {kk : Nat} (c : Addr), kk ≤ k + 7 → Keep p σ σ3 → Pen σ3 p q ns kk a3 b3 → σ3 c = none → POk l → P.r (.ref c) (σ3.set c (.list (codeV l))) := fun {σ3 a3 b3 l kk} c hkk kk3 pp hc v =>
      hr _ _ (hQ c l a3 b3 _ (kk3.trans (.ext (Ext.new hc))) ((pp.ext (Ext.new hc)).up hkk) (kk3.fresh (some_ne pp.hp) hc) (AS.set_same _ _ _) v)
    have tail : ∀ (i : Nat) (x : Ins), x.In → (∀ (σ : AS) (Q : PQ), (∀ c σ', Ext σ σ' → σ' c = some (.list (codeV [x])) → Q (.ref c) σ') → rev (kC w la ns0 fns mes xs) (.sli (.lst (.cons (.tup (.cons (.cst (.str "set")) (.cons (.cst .none) .nil))) (.cons (.tup (.cons (.cst (.str "put")) (.cons (.cst (.str "n")) .nil))) (.cons (.tup (.cons (.cst (.str "drop")) (.cons (.cst .none) .nil))) .nil)))) (.some (.loc 2)) (.some (.bin .Add (.loc 2) (.cst (.int 1))))) [some (.ref p), some (.int g), some (.int (i : Nat)), some (.ref c1), none, none] σ Q (fun x σ₁ => P.x x [some (.ref p), some (.int g), some (.int (i : Nat)), some (.ref c1), none, none] σ₁)) →
        rev (kC w la ns0 fns mes xs) (.bin .Add (.loc 3) (.sli (.lst (.cons (.tup (.cons (.cst (.str "set")) (.cons (.cst .none) .nil))) (.cons (.tup (.cons (.cst (.str "put")) (.cons (.cst (.str "n")) .nil))) (.cons (.tup (.cons (.cst (.str "drop")) (.cons (.cst .none) .nil))) .nil)))) (.some (.loc 2)) (.some (.bin .Add (.loc 2) (.cst (.int 1)))))) [some (.ref p), some (.int g), some (.int (i : Nat)), some (.ref c1), none, none] σ2 P.r (fun x σ₁ => P.x x [some (.ref p), some (.int g), some (.int (i : Nat)), some (.ref c1), none, none] σ₁) := fun i x hx hs =>
      hs σ2 (fun u σ' => abin _ .Add (.ref c1) u σ' P.r) fun c σ' e hc => add_codes ((e c1 (some_ne hl1)).trans hl1) hc (by have := v1.2.2; show _ + 1 ≤ _; exact Nat.lt_of_le_of_lt ‹_› (by decide)) fun c' hc' => fin c' (by lia) (k2.trans (.ext e)) (pen2.ext e) hc' ⟨all_app v1.1 (all_one hx), by rw [List.length_append]; exact Nat.le_add_left _ _, by rw [List.length_append]; have := v1.2.2; show _ + 1 ≤ _; exact Nat.lt_of_le_of_lt ‹_› (by decide)⟩
    have c1p : c1 ≠ p := ne_of hl1 pen2.hp (code_pen v1.2.1)
    have j1 := v1.2.2
    revert d; refine bel (bel (bel (bel (bel (bel bel_nil ?_) ?_) ?_) ?_) ?_) ?_
    · exact tail 0 .set trivial fun σ Q h => fun f hf _ => ⟨⟨by decide, by decide⟩, ⟨by decide, by decide⟩, oL_i (look_same (AS.set_same _ _ _)) fun g hg _ => h g _ ((Ext.new hf).trans (Ext.new hg)) (AS.set_same _ _ _)⟩
    · exact tail 1 .put trivial fun σ Q h => fun f hf _ => ⟨⟨by decide, by decide⟩, ⟨by decide, by decide⟩, oL_i (look_same (AS.set_same _ _ _)) fun g hg _ => h g _ ((Ext.new hf).trans (Ext.new hg)) (AS.set_same _ _ _)⟩
    · exact tail 2 .drop trivial fun σ Q h => fun f hf _ => ⟨⟨by decide, by decide⟩, ⟨by decide, by decide⟩, oL_i (look_same (AS.set_same _ _ _)) fun g hg _ => h g _ ((Ext.new hf).trans (Ext.new hg)) (AS.set_same _ _ _)⟩
    · refine pick_ok (l := ["yyerrok", "yyclearin", "YYERROR", "YYABORT", "YYACCEPT"].map fun s => V.str (Str.ofString s)) (many := 5) h1 rfl pen2 (by lia) rfl (by decide) (by decide) (fun _ h => h) (fun _ _ h => h) fun v m a3 b3 σ3 k3 pen3 => fun c hc _ => ?_
      obtain ⟨s, rfl, hs⟩ := (all_cons ⟨_, rfl, .head _⟩ (all_cons ⟨_, rfl, .tail _ (.head _)⟩ (all_cons ⟨_, rfl, .tail _ (.tail _ (.head _))⟩ (all_cons ⟨_, rfl, .tail _ (.tail _ (.tail _ (.head _)))⟩ (all_cons ⟨_, rfl, .tail _ (.tail _ (.tail _ (.tail _ (.head _))))⟩ all_nil)))) : ∀ v ∈ (["yyerrok", "yyclearin", "YYERROR", "YYABORT", "YYACCEPT"].map fun s => V.str (Str.ofString s)), ∃ s, v = .str s ∧ s ∈ words0) v m
      exact fin (l := [.word s, .fresh]) c (by lia) (k2.trans k3) pen3 hc ⟨all_cons hs (all_cons trivial all_nil), Nat.le_of_ble_eq_true rfl, Nat.le_of_ble_eq_true rfl⟩
    · refine value_ok h2 rfl pen2 (by lia) fun c2 l2 a3 b3 σ3 k3 pen3 hc2 hl2 v2 => fun f hf _ => add_codes (r := [.set]) (set_of hl2 hf) (AS.set_same _ _ _) (by have := v2.2.2; show _ + 1 ≤ _; exact Nat.lt_of_le_of_lt ‹_› (by decide)) fun c4 hc4 => ?_
      have e4 := (Ext.new (o := .list (codeV [.set])) hf).trans (Ext.new (o := .list (codeV (l2 ++ [.set]))) hc4)
      have g4 : ((σ3.set f (.list (codeV [.set]))).set c4 (.list (codeV (l2 ++ [.set])))) c4 = some (.list (codeV (l2 ++ [.set]))) := AS.set_same _ _ _
      have k4 : Keep p σ2 ((σ3.set f (.list (codeV [.set]))).set c4 (.list (codeV (l2 ++ [.set])))) := k3.trans (.ext e4)
      have pen4 := pen3.ext e4
      have g1 := (k4 c1 (some_ne hl1) c1p).trans hl1
      refine len_list g1 (len_list g4 ?_)
      refine pick_ok (l := ["unless", "when"].map fun s => V.str (Str.ofString s)) (many := 2) h1 rfl pen4 (by lia) rfl (by decide) (by decide) (fun _ h => h) (fun _ _ h => h) fun v m a5 b5 σ5 k5 pen5 => fun f2 hf2 _ => ?_
      have j2 := v2.2.2
      have en : g + (codeV l1).length + 1 + (codeV (l2 ++ [.set])).length ≤ 1000 := by rw [codeV_len, codeV_len, List.length_append]; show _ + 1 + (_ + 1) ≤ 1000; lia
      obtain ⟨j, hj, e5⟩ := (all_cons ⟨1, by decide, rfl⟩ (all_cons ⟨2, by decide, rfl⟩ all_nil) : ∀ v ∈ (["unless", "when"].map fun s => V.str (Str.ofString s)), ∃ j, j ≤ 2 ∧ v = .str (jumpOp j)) v m
      subst e5
      have h5 : ∀ {a : Addr} {l : List Ins}, 1 ≤ l.length → ((σ3.set f (.list (codeV [.set]))).set c4 (.list (codeV (l2 ++ [.set])))) a = some (.list (codeV l)) → σ5 a = some (.list (codeV l)) := fun h z => (k5 _ (some_ne z) (ne_of z pen4.hp (code_pen h))).trans z
      refine add_codes (l := l1) (r := [.jmp j (g + (codeV l1).length + 1 + (codeV (l2 ++ [.set])).length)]) (set_of (h5 v1.2.1 g1) hf2) (AS.set_same _ _ _) (by show _ + 1 ≤ _; exact Nat.lt_of_le_of_lt ‹_› (by decide)) fun c6 hc6 => ?_
      refine add_codes (AS.set_same _ _ _) (set_of (set_of (h5 (by rw [List.length_append]; exact Nat.le_add_left _ _) g4) hf2) hc6) (by rw [List.length_append, List.length_append]; show _ + 1 + (_ + 1) ≤ _; lia) fun c7 hc7 => ?_
      exact fin c7 (by lia) ((k2.trans k4).trans (k5.trans (.ext ((Ext.new hf2).trans (Ext.new hc6))))) (pen5.ext ((Ext.new hf2).trans (Ext.new hc6))) hc7 ⟨all_app (all_app v1.1 (all_one ⟨hj, en⟩)) (all_app v2.1 (all_one trivial)), by rw [List.length_append, List.length_append]; show 1 ≤ _ + 1 + _; lia, by rw [List.length_append, List.length_append, List.length_append]; show _ + 1 + (_ + 1) ≤ 11; lia⟩
    · refine value_ok h2 rfl pen2 (by lia) fun c2 l2 a3 b3 σ3 k3 pen3 hc2 hl2 v2 => fun f hf _ => add_codes (r := [.set]) (set_of hl2 hf) (AS.set_same _ _ _) (by have := v2.2.2; show _ + 1 ≤ _; exact Nat.lt_of_le_of_lt ‹_› (by decide)) fun c4 hc4 => ?_
      have e4 := (Ext.new (o := .list (codeV [.set])) hf).trans (Ext.new (o := .list (codeV (l2 ++ [.set]))) hc4)
      have g4 : ((σ3.set f (.list (codeV [.set]))).set c4 (.list (codeV (l2 ++ [.set])))) c4 = some (.list (codeV (l2 ++ [.set]))) := AS.set_same _ _ _
      have k4 : Keep p σ2 ((σ3.set f (.list (codeV [.set]))).set c4 (.list (codeV (l2 ++ [.set])))) := k3.trans (.ext e4)
      have pen4 := pen3.ext e4
      have g1 := (k4 c1 (some_ne hl1) c1p).trans hl1
      refine len_list g1 (len_list g4 fun f2 hf2 _ => ?_)
      have j2 := v2.2.2
      have en : g + (codeV l1).length + 1 + (codeV (l2 ++ [.set])).length + 1 ≤ 1000 := by rw [codeV_len, codeV_len, List.length_append]; show _ + 1 + (_ + 1) + 1 ≤ 1000; lia
      refine add_codes (l := l1) (r := [.jmp 1 (g + (codeV l1).length + 1 + (codeV (l2 ++ [.set])).length + 1)]) (set_of g1 hf2) (AS.set_same _ _ _) (by show _ + 1 ≤ _; exact Nat.lt_of_le_of_lt ‹_› (by decide)) fun c6 hc6 => ?_
      refine add_codes (AS.set_same _ _ _) (set_of (set_of g4 hf2) hc6) (by rw [List.length_append, List.length_append]; show _ + 1 + (_ + 1) ≤ _; lia) fun c7 hc7 => fun f3 hf3 _ => ?_
      refine add_codes (r := [.jmp 0 g]) (set_of (AS.set_same _ _ _) hf3) (AS.set_same _ _ _) (by rw [List.length_append, List.length_append, List.length_append]; show _ + 1 + (_ + 1) + 1 ≤ _; lia) fun c8 hc8 => ?_
      exact fin c8 (by lia) ((k2.trans k4).trans (.ext ((((Ext.new hf2).trans (Ext.new hc6)).trans (Ext.new hc7)).trans (Ext.new hf3)))) (pen4.ext ((((Ext.new hf2).trans (Ext.new hc6)).trans (Ext.new hc7)).trans (Ext.new hf3))) hc8 ⟨all_app (all_app (all_app v1.1 (all_one ⟨by decide, en⟩)) (all_app v2.1 (all_one trivial))) (all_one ⟨by decide, by exact Nat.le_trans ‹_› (by decide)⟩), by rw [List.length_append]; exact Nat.le_add_left _ _, by rw [List.length_append, List.length_append, List.length_append, List.length_append]; show _ + 1 + (_ + 1) + 1 ≤ 11; lia⟩⟩
end
noncomputable def anyL (d e : Nat) : List Ins := [.push (.int 1), .drop, .jmp 0 d, .jmp 2 e, .bad (Str.ofString "two") (.str (Str.ofString "&&")), .bad (Str.ofString "list") (.int (-1)), .bad (Str.ofString "arg") (.int 0), .bad (Str.ofString "set") (.int 1), .bad (Str.ofString "apply") (.str (Str.ofString "none")), .bad (Str.ofString "word") (.str (Str.ofString "yyok")), .bad (Str.ofString "get") (.str (Str.ofString "")),
  .bad (Str.ofString "one") (.str (Str.ofString "+")), .bad (Str.ofString "lone") .none, .two (Str.ofString "*"), .own, .list 2, .bad (Str.ofString "push") .none, .bad (Str.ofString "unless") (.str (Str.ofString "1")), .fresh, .truth]
theorem anyL_in {d e : Nat} (hd : d ≤ 1000) (he : e ≤ 1000) : ∀ x ∈ anyL d e, x.In :=
  have b : ∀ x ∈ bads, (Ins.bad x.1 x.2).In := fun x h => h
  all_cons (.tail _ (.tail _ (.tail _ (.tail _ (.head _))))) (all_cons trivial (all_cons ⟨by decide, hd⟩ (all_cons ⟨by decide, he⟩ (all_cons (.head _) (all_cons (.tail _ (.head _)) (all_cons (.tail _ (.tail _ (.head _))) (all_cons (.tail _ (.tail _ (.tail _ (.head _)))) (all_cons (.tail _ (.tail _ (.tail _ (.tail _ (.head _))))) (all_cons (.tail _ (.tail _ (.tail _ (.tail _ (.tail _ (.head _)))))) (all_cons (.tail _ (.tail _ (.tail _ (.tail _ (.tail _ (.tail _ (.head _)))))))
    (all_cons (.tail _ (.tail _ (.tail _ (.tail _ (.tail _ (.tail _ (.tail _ (.head _)))))))) (all_cons (.tail _ (.tail _ (.tail _ (.tail _ (.tail _ (.tail _ (.tail _ (.tail _ (.head _))))))))) (all_cons (.tail _ (.tail _ (.tail _ (.tail _ (.head _))))) (all_cons trivial (all_cons (Nat.le_refl 2) (all_cons (.tail _ (.tail _ (.tail _ (.tail _ (.tail _ (.tail _ (.tail _ (.tail _ (.tail _ (.head _))))))))))
    (all_cons (.tail _ (.tail _ (.tail _ (.tail _ (.tail _ (.tail _ (.tail _ (.tail _ (.tail _ (.tail _ (.head _))))))))))) (all_cons trivial (all_cons trivial all_nil)))))))))))))))))))
section
variable {w : World} {hB : Heap} {os0 : OsState} {n : Nat} {la : Addr} {ns0 : List Int} {fns : List (Str × Spec)} {mes : List ((Addr × Str) × Spec)} {xs : List (Str × Addr)}
inductive SpAny (vs : List V) (σ : AS) (Q : PQ) (X : PXx) : Prop where
  | mk : ∀ p q ns k a b g, (vs = [.ref p, .int (g : Nat)]) → (Pen σ p q ns k a b) → (k ≤ 800000 ∧ g ≤ 200) → (∀ x a' b' σ', Keep p σ σ' → Pen σ' p q ns (k + 3) a' b' → Ins.In x → Q x.v σ') → SpAny vs σ Q X
noncomputable def spAny : Spec := SpAny
theorem does_any (cx : CxO (kC w la ns0 fns mes xs) pw w hB os0 n) (y : KYP w hB) (h1 : fns.lookup (Str.ofString "_law_draw") = some spDraw) : Does pw w hB os0 (n + 1) (.ref 450) spAny :=
  in__law_any cx y fun vs σ Q X ro ⟨p, q, ns, k, a, b, g, e, pen, ⟨hk, hg⟩, hQ⟩ => ⟨_, _, e, post_gen fun P hr _ _ => by
    refine draw_ok (many := g + 2) h1 rfl pen (by exact Nat.le_trans ‹_› (by decide)) (by exact Nat.le_add_left _ _) (by lia) (fun _ h => h) fun d1 a1 b1 σ1 hd1 ht1 pen1 => ?_
    refine draw_ok (many := g + 2) h1 rfl pen1 (by exact Nat.lt_of_le_of_lt ‹_› (by decide)) (by exact Nat.le_add_left _ _) (by lia) (fun _ h => h) fun d2 a2 b2 σ2 hd2 ht2 pen2 => fun c hc _ => ?_
    refine draw_ok (many := 20) h1 rfl (pen2.ext (Ext.new hc)) (by lia) (by decide) (by decide) (fun _ h => h) fun d3 a3 b3 σ3 hd3 ht3 pen3 => ?_
    have hcp : c ≠ p := fun z => by rw [z, pen2.hp] at hc; exact no3 hc
    have hl : d3 < (anyL d1 d2).length := hd3
    refine oLD_at (l := codeV (anyL d1 d2)) ((ht3 c hcp).trans (AS.set_same _ _ _)) (by rw [Int.toNat_natCast]; exact codeV_get hl) (hr _ _ (hQ _ a3 b3 σ3 (((Keep.of ht1).trans (.of ht2)).trans ((Keep.ext (Ext.new hc)).trans (.of ht3))) pen3 (anyL_in (by lia) (by lia) _ (List.getElem_mem hl)))) (Int.natCast_nonneg _)⟩
end
noncomputable def worthsL : List V := [.int 0, .int 5, .str (Str.ofString ""), .str (Str.ofString "xy"), .tup [], .tup [.int 1, .str (Str.ofString "a")], .none]
theorem worths_gd : ∀ v ∈ worthsL, v.gd 1 :=
  have st : ∀ s, (Str.ofString s).length ≤ 2000 → (V.str (Str.ofString s)).gd 1 := fun s h => ⟨h, Nat.zero_le _⟩
  all_cons (gd_int (by decide)) (all_cons (gd_int (by decide)) (all_cons (st _ (by decide +kernel)) (all_cons (st _ (by decide +kernel)) (all_cons ⟨⟨Nat.zero_le _, trivial⟩, Nat.le_refl 1⟩ (all_cons ⟨⟨Nat.le_of_ble_eq_true rfl, good_int (by decide), (st _ (by decide +kernel)).1, trivial⟩, Nat.le_refl 1⟩ (all_cons ⟨trivial, Nat.zero_le _⟩ all_nil))))))
theorem not_word {x : Ins} {n : Nat} (ok : x.ok n = true) (h : (x.op == Str.ofString "word") = false) : runs x = true := by
  cases x with
  | word s => rw [show (Ins.word s).op = Str.ofString "word" from rfl, beq_self_eq_true] at h; cases h
  | bad s w => cases ok
  | _ => rfl
section
variable {w : World} {hB : Heap} {os0 : OsState} {n : Nat} {la : Addr} {ns0 : List Int} {fns : List (Str × Spec)} {mes : List ((Addr × Str) × Spec)} {xs : List (Str × Addr)}
theorem revs_loc {C : Cx} {i : Nat} {l : RL} {m : M} {σ : AS} {Q : List V → AS → Prop} {E : PXx} {v : V} (h : m[i]? = some (some v)) (q : revs C l m σ (fun vs σ₂ => Q (v :: vs) σ₂) E) : revs C (.cons (.loc i) l) m σ Q E := oSS h q
theorem revs_cons {C : Cx} {e : RE} {l : RL} {m : M} {σ : AS} {Q : List V → AS → Prop} {E : PXx} (q : rev C e m σ (fun v σ₁ => revs C l m σ₁ (fun vs σ₂ => Q (v :: vs) σ₂) E) E) : revs C (.cons e l) m σ Q E := q
theorem rev_ds1 {C : Cx} {k : Str} {e : RE} {m : M} {σ : AS} {Q : PQ} {E : PXx} (q : rev C e m σ (fun x σ₁ => anew C (.ds [(k, x)]) σ₁ Q) E) : rev C (.ds1 k e) m σ Q E := q
theorem worth_draw {C : Cx} {m : M} {σ : AS} {p q wa : Addr} {ns : List Int} {k i j : Nat} {a b : Int} {Q : PQ} {E : PXx} (h1 : C.S (Str.ofString "_law_draw") = some spDraw) (hm : m[i]? = some (some (.ref p))) (hw : m[j]? = some (some (.ref wa))) (pen : Pen σ p q ns k a b) (hk : k ≤ 1000000) (hl : σ wa = some (.list worthsL))
    (h : ∀ v ∈ worthsL, ∀ a' b' σ', OnlyP p σ σ' → Pen σ' p q ns (k + 1) a' b' → Q v σ') : rev C (.sub (.loc j) (.call (Str.ofString "_law_draw") (.cons (.loc i) (.cons (.cst (.int 7)) .nil)))) m σ Q E := by
  refine oSS hw (oS_i h1 (oSS hm ⟨p, q, ns, k, a, b, 7, rfl, pen, ⟨by decide, by decide, hk⟩, fun d a' b' σ' hd ht pen' => ?_⟩))
  have hwp : wa ≠ p := ne_of hl pen.hp (by unfold worthsL; intro h; injection h with h; injection h with h _; cases h)
  have hd' : d < worthsL.length := hd
  exact oLD_at ((ht wa hwp).trans hl) (by rw [Int.toNat_natCast]; exact List.getElem?_eq_getElem hd') (h _ (List.getElem_mem hd') a' b' σ' ht pen') (Int.natCast_nonneg _)
inductive SpRight (vs : List V) (σ : AS) (Q : PQ) (X : PXx) : Prop where
  | mk : ∀ p q ns k a b ca c, (vs = [.ref p, .ref ca]) → (Pen σ p q ns k a b) → (k ≤ 700000) → (σ ca = some (.list (codeV c))) → (∀ x ∈ c, x.In) → (1 ≤ c.length ∧ c.length ≤ 100) → (Silent c) → (∀ a' b' σ', Keep p σ σ' → Pen σ' p q ns (k + 10) a' b' → Q (.bool true) σ') → SpRight vs σ Q X
noncomputable def spRight : Spec := SpRight
noncomputable def mRr (p ca wa : Addr) (x3 x4 x5 : Option V) : M := [some (.ref p), some (.ref ca), some (.ref wa), x3, x4, x5]
inductive RrA (p q ca wa : Addr) (ns : List Int) (k : Nat) (σ : AS) (i : Nat) (m' : M) (σ' : AS) : Prop where
  | mk (x3 x4 x5 : Option V) (a b : Int) (e : m' = mRr p ca wa x3 x4 x5) (kp : Keep p σ σ') (pen : Pen σ' p q ns (k + 5 * i) a b) (hw : σ' wa = some (.list worthsL))
inductive RrB (p q wa : Addr) (ns : List Int) (k : Nat) (σ : AS) (j : Nat) (acc : List V) (σ' : AS) : Prop where
  | mk (a b : Int) (kp : Keep p σ σ') (pen : Pen σ' p q ns (k + j) a b) (hl : acc.length ≤ j) (hg : ∀ v ∈ acc, v.gd 1) (hw : σ' wa = some (.list worthsL))
theorem RrB.l {p q wa : Addr} {ns : List Int} {k : Nat} {σ : AS} {j : Nat} {acc : List V} {σ' : AS} (h : RrB p q wa ns k σ j acc σ') : True ∧ acc.length ≤ j := by cases h; exact ⟨trivial, by assumption⟩
theorem does_right (cx : CxO (kC w la ns0 fns mes xs) pw w hB os0 n) (y : KYP w hB) (h1 : fns.lookup (Str.ofString "_law_draw") = some spDraw) (h2 : fns.lookup (Str.ofString "Machine") = some (mkSpec 413 spMInit)) (h3 : mes.lookup (413, Str.ofString "run") = some spRun) (hx : xs.lookup (Str.ofString "MachineError") = some 74) : Does pw w hB os0 (n + 1) (.ref 467) spRight :=
  in__law_run_right cx y fun vs σ Q X ro ⟨p, q, ns, k, a, b, ca, c, e, pen, hk, hl, hI, ⟨hz1, hz⟩, hs, hQ⟩ => ⟨_, _, e, post_gen fun P hr _ _ => by
    have hlen := codeV_len (c := c)
    have cap : ca ≠ p := ne_of hl pen.hp (code_pen hz1)
    refine oL_i hl ⟨fun i acc σ' => σ = σ' ∧ acc.length ≤ i ∧ (acc = [] → ∀ k (h : k < c.length), k < i → (c[k].op == Str.ofString "word") = false) ∧ V.flats acc = true ∧ V.deps acc ≤ 60,
      ⟨rfl, Nat.le_refl _, fun _ k _ h => absurd h (Nat.not_lt_zero k), rfl, Nat.zero_le _⟩, by rw [hlen]; exact Nat.le_trans ‹_› (by decide), fun i acc σ₂ h => ⟨h.1 ▸ hl, h.2.1⟩, ?_, ?_⟩
    · rintro i acc σ₂ x hx ⟨rfl, hal, ha1, hf⟩
      have hi : i < c.length := by have := (List.getElem?_eq_some_iff.mp hx).1; rwa [hlen] at this
      rw [codeV_get hi] at hx
      cases hx
      have hIi := hI _ (List.getElem_mem hi)
      refine onB_of (fun z : (c[i].op == Str.ofString "word") = true => ⟨rfl, by rw [List.length_append]; exact Nat.succ_le_succ hal, fun q => absurd q (by simp), flat_snoc hf ⟨hIi.vf.1, Nat.le_trans hIi.vf.2 (by decide)⟩⟩) fun z => ⟨rfl, Nat.le_succ_of_le hal, fun q k h hk => ?_, hf⟩
      rcases Nat.lt_succ_iff_lt_or_eq.mp hk with hk | rfl
      · exact ha1 q k h hk
      · exact z
    · rintro acc σ₂ ⟨rfl, _, ha1, hf⟩ fa hfa _
      refine ne_nil (AS.set_same _ _ _) hf.1 hf.2 fun e₁ he _ => ?_
      have e2 := (Ext.new (o := .list acc) hfa).trans (Ext.new (o := .list []) he)
      generalize (σ.set fa (.list acc)).set e₁ (.list []) = σ₁ at e2
      cases acc with
      | cons v r => exact hr _ _ (hQ a b σ₁ (.ext e2) ((pen.ext e2).up (by exact Nat.le_add_right _ _)))
      | nil =>
        have runsC : ∀ x ∈ c, runs x = true := fun x hx => by
          obtain ⟨k, hk', rfl⟩ := List.getElem_of_mem hx
          exact not_word (hs.1 _ hx) (ha1 rfl k hk' (by rw [hlen]; exact hk'))
        clear ha1 hf hfa he
        refine fun wa hwa _ => ?_
        have hwp : wa ≠ p := fun z => by rw [z, (pen.ext e2).hp] at hwa; cases hwa
        have hwc : wa ≠ ca := fun z => by rw [z, e2 ca (some_ne hl), hl] at hwa; cases hwa
        refine ⟨⟨by decide, by decide⟩, RrA p q ca wa ns k σ,
          ⟨_, _, _, a, b, rfl, (Keep.ext e2).trans (.ext (Ext.new hwa)), (pen.ext e2).ext (Ext.new hwa), AS.set_same _ _ _⟩, fun _ _ _ _ => trivial, ?_, ?_⟩
        · rintro i m' σ2 x hx' ⟨x3, x4, x5, a2, b2, rfl, k2, pen2, hw2⟩
          have hi : i < 2 := by have := (List.getElem?_eq_some_iff.mp hx').1; rw [rangeV_len] at this; exact this
          refine hidN fun P' hn => ?_
          refine ⟨⟨by decide, by decide⟩, RrB p q wa ns (k + 5 * i) σ2, ⟨a2, b2, fun _ _ _ => rfl, pen2, Nat.le_refl _, nofun, hw2⟩, Nat.le_of_ble_eq_true rfl, fun _ _ _ h => h.l, ?_, ?_⟩
          · rintro j acc σ3 x' hx'' ⟨a3, b3, k3, pen3, hal, hac, hw3⟩
            have hj : j < 3 := by have := (List.getElem?_eq_some_iff.mp hx'').1; rw [rangeV_len] at this; exact this
            refine worth_draw (m := [none, some x', some (.ref p), some (.ref wa)]) (i := 2) (j := 3) h1 rfl rfl pen3 (by lia) hw3 fun v hv a4 b4 σ4 ht pen4 => ?_
            exact ⟨a4, b4, k3.trans (.of ht), pen4, by rw [List.length_append]; exact Nat.succ_le_succ hal, fun u m => (List.mem_append.mp m).elim (hac u) fun m => by rw [List.mem_singleton.mp m]; exact worths_gd v hv, (ht wa hwp).trans hw3⟩
          · rintro acc σ3 ⟨a3, b3, k3, pen3, hal, hac, hw3⟩ va hva _
            have pen3 : Pen σ3 p q ns (k + 5 * i + 3) a3 b3 := pen3
            refine oS_i hx ⟨Nat.le_of_ble_eq_true rfl, oS_i h2 fun ma mx hma hmx hne => ⟨ma, mx, rfl, AS.set_same _ _ _, (AS.set_ne _ _ (Ne.symm hne)).trans (AS.set_same _ _ _), ⟨rfl, ?_⟩⟩⟩
            have gm : ((((σ3.set va (.list acc)).set mx (.fld [])).set ma (.inst 413 mx)).set mx (.fld [(Str.ofString "most", .int 40)])) ma = some (.inst 413 mx) := (AS.set_ne _ _ hne).trans (AS.set_same _ _ _)
            have gf : ((((σ3.set va (.list acc)).set mx (.fld [])).set ma (.inst 413 mx)).set mx (.fld [(Str.ofString "most", .int 40)])) mx = some (.fld [(Str.ofString "most", .int 40)]) := AS.set_same _ _ _
            have e4 : Ext (σ3.set va (.list acc)) ((((σ3.set va (.list acc)).set mx (.fld [])).set ma (.inst 413 mx)).set mx (.fld [(Str.ofString "most", .int 40)])) := fun a h => by
              have d1 : a ≠ mx := fun q => h (by rw [q]; exact hmx)
              have d2 : a ≠ ma := fun q => h (by rw [q]; exact hma)
              exact (AS.set_ne _ _ d1).trans ((AS.set_ne _ _ d2).trans (AS.set_ne _ _ d1))
            generalize (((σ3.set va (.list acc)).set mx (.fld [])).set ma (.inst 413 mx)).set mx (.fld [(Str.ofString "most", .int 40)]) = σ4 at gm gf e4
            have gv : σ4 va = some (.list acc) := (e4 va (some_ne (AS.set_same _ _ _))).trans (AS.set_same _ _ _)
            have e34 := (Ext.new (o := .list acc) hva).trans e4
            have pen4 := pen3.ext e34
            have k04 : Keep p σ σ4 := (k2.trans k3).trans (.ext e34)
            have hw4 := (e34 wa (some_ne hw3)).trans hw3
            have gc : σ4 ca = some (.list (codeV c)) := (k04 ca (some_ne hl) cap).trans hl
            refine met_inst gm gf h3 (revs_loc rfl (revs_loc rfl (revs_cons (rev_ds1 ?_))))
            refine worth_draw (m := mRr p ca wa (some x) (some (.ref va)) x5) (i := 0) (j := 2) h1 rfl rfl pen4 (by lia) hw4 fun nm hnm a5 b5 σ5 ht5 pen5 => fun na hna _ => ?_
            have hw5 : (σ5.set na (.ds [(Str.ofString "n", nm)])) wa = some (.list worthsL) := set_of ((ht5 wa hwp).trans hw4) hna
            refine worth_draw (m := mRr p ca wa (some x) (some (.ref va)) x5) (i := 0) (j := 2) h1 rfl rfl (pen5.ext (Ext.new hna)) (by lia) hw5 fun own hown a6 b6 σ6 ht6 pen6 => ?_
            have k46 : Keep p σ4 σ6 := (Keep.of ht5).trans ((Keep.ext (Ext.new hna)).trans (.of ht6))
            have nap : na ≠ p := fun q => by rw [q, pen5.hp] at hna; cases hna
            have nm4 : ∀ {a : Addr}, σ4 a ≠ none → a ≠ p → a ≠ na := fun {a} h h' q => by
              have := ht5 a h'
              rw [q, hna] at this
              exact h (by rw [q]; exact this.symm)
            have inst_p : ∀ {o : AO} {a : Addr}, o ≠ .list [.ref q, .int a3, .int b3] → σ4 a = some o → a ≠ p := fun ho h => ne_of h pen4.hp ho
            have mp := inst_p (by simp) gm
            have fp := inst_p (by simp) gf
            have vp : va ≠ p := fun q => by rw [q, pen3.hp] at hva; cases hva
            have ri : RunIn σ6 ma mx ca va na nm own acc c := ⟨(k46 ma (some_ne gm) mp).trans gm, (k46 mx (some_ne gf) fp).trans gf, (k46 ca (some_ne gc) cap).trans gc, (k46 va (some_ne gv) vp).trans gv, (ht6 na nap).trans (AS.set_same _ _ _), hac, worths_gd nm hnm, worths_gd own hown, hI, hz, hs, runsC⟩
            have fin : ∀ σ7 (x5 : Option V), K0 σ6 na σ7 → P'.n (mRr p ca wa (some x) (some (.ref va)) x5) σ7 := fun σ7 x5 hK => by
              have hq6 : q ≠ na := nm4 (some_ne pen4.hq) (ne_of pen4.hq pen4.hp (by
                intro h
                injection h with h
                cases ns with
                | nil => cases h
                | cons x r => injection h with h _; cases h))
              refine hn _ _ ⟨_, _, _, a6, b6, rfl, fun a h h' => ?_, ⟨(hK p (some_ne pen6.hp) (Ne.symm nap)).trans pen6.hp, (hK q (some_ne pen6.hq) hq6).trans pen6.hq, pen6.a0, ?_, pen6.b0⟩, ?_⟩
              · have h4 : σ4 a ≠ none := by rw [k04 a h h']; exact h
                have h6 := k46 a h4 h'
                exact (hK a (by rw [h6]; exact h4) (nm4 h4 h')).trans (h6.trans (k04 a h h'))
              · have := pen6.ak; omega
              · have h6 := k46 wa (some_ne hw4) hwp
                exact (hK wa (by rw [h6]; exact some_ne hw4) (nm4 (some_ne hw4) hwp)).trans (h6.trans hw4)
            exact oS_i h3 ⟨ma, mx, ca, va, na, nm, own, acc, c, rfl, ri, fun v σ7 hK => fin σ7 _ hK, fun t σ7 hK ht => ⟨rfl, rfl, t, rfl, fun q => absurd q ht, fun _ => fin σ7 none hK⟩⟩
        · rintro m' σ2 ⟨x3, x4, x5, a2, b2, rfl, k2, pen2, hw2⟩
          exact hr _ _ (hQ a2 b2 σ2 k2 pen2)⟩
end
noncomputable def lapB : RP := match rp_law with
  | .cons _ (.cons (.for1 _ _ b) _) => b
  | _ => .nil
noncomputable def mLw (x0 x1 x2 x3 x4 x5 x6 x7 x8 x9 x10 x11 x12 x13 : Option V) : M := [x0, x1, x2, x3, x4, x5, x6, x7, x8, x9, x10, x11, x12, x13]
inductive LwAny (x0 x1 x2 : Option V) (m : M) : Prop where
  | mk (y3 y4 y5 y6 y7 y8 y9 y10 y11 y12 y13 : Option V) (e : m = mLw x0 x1 x2 y3 y4 y5 y6 y7 y8 y9 y10 y11 y12 y13)
inductive BuI (m0 : Option V → M) (p q ca : Addr) (ns : List Int) (k : Nat) (i : Nat) (m' : M) (σ' : AS) : Prop where
  | mk (c : List Ins) (y4 : Option V) (a b : Int) (e : m' = m0 y4) (pen : Pen σ' p q ns (k + 1 + 7 * i) a b) (hc : σ' ca = some (.list (codeV c))) (hI : ∀ x ∈ c, x.In) (hz : i ≤ c.length ∧ c.length ≤ 11 * i)
section
variable {w : World} {hB : Heap} {os0 : OsState} {n : Nat} {la : Addr} {ns0 : List Int} {fns : List (Str × Spec)} {mes : List ((Addr × Str) × Spec)} {xs : List (Str × Addr)}
theorem Pen.turn {σ : AS} {p q c : Addr} {ns : List Int} {k : Nat} {a b : Int} {o : AO} (x : Pen σ p q ns k a b) (hp : c ≠ p) (hq : c ≠ q) : Pen (σ.set c o) p q ns k a b := ⟨(AS.set_ne _ _ (Ne.symm hp)).trans x.hp, (AS.set_ne _ _ (Ne.symm hq)).trans x.hq, x.a0, x.ak, x.b0⟩
theorem draw_at {C : Cx} {m : M} {σ : AS} {p q : Addr} {ns : List Int} {k many i : Nat} {a b : Int} {e : RE} {Q : PQ} {E : PXx} (h1 : C.S (Str.ofString "_law_draw") = some spDraw) (hm : m[i]? = some (some (.ref p))) (pen : Pen σ p q ns k a b) (hk : k ≤ 1000000) (h0 : 0 < many) (h2 : many ≤ 2000) (he : ∀ (Q : PQ), Q (.int (many : Nat)) σ → rev C e m σ Q E)
    (h : ∀ (d : Nat) a' b' σ', d < many → OnlyP p σ σ' → Pen σ' p q ns (k + 1) a' b' → Q (.int d) σ') : rev C (.call (Str.ofString "_law_draw") (.cons (.loc i) (.cons e .nil))) m σ Q E :=
  oS_i h1 (oSS hm (he (fun u σ₂ => spDraw [.ref p, u] σ₂ Q E) ⟨p, q, ns, k, a, b, many, rfl, pen, ⟨h0, h2, hk⟩, h⟩))
theorem build_ok {P : Post} {σ : AS} {p q : Addr} {ns : List Int} {k : Nat} {a b : Int} {x0 x2 x3 x4 x5 x6 x7 x8 x9 x10 x11 x12 x13 : Option V} (h1 : fns.lookup (Str.ofString "_law_draw") = some spDraw) (h2 : fns.lookup (Str.ofString "_law_piece") = some spPiece) (pen : Pen σ p q ns k a b) (hk : k ≤ 600000)
    (h : ∀ ca c y4 a' b' σ', Pen σ' p q ns (k + 29) a' b' → σ' ca = some (.list (codeV c)) → ca ≠ p → (∀ x ∈ c, x.In) → (1 ≤ c.length ∧ c.length ≤ 44) → rsts (kC w la ns0 fns mes xs) (lapB.drop 2) (mLw x0 (some (.ref p)) x2 (some (.ref ca)) y4 x5 x6 x7 x8 x9 x10 x11 x12 x13) σ' P) :
    rsts (kC w la ns0 fns mes xs) lapB (mLw x0 (some (.ref p)) x2 x3 x4 x5 x6 x7 x8 x9 x10 x11 x12 x13) σ P := by
  refine fun ca hca _ => ?_
  have pen0 := pen.ext (Ext.new (o := .list []) hca)
  refine draw_at (m := mLw x0 (some (.ref p)) x2 (some (.ref ca)) x4 x5 x6 x7 x8 x9 x10 x11 x12 x13) (i := 1) (many := 4) h1 rfl pen0 (by exact Nat.le_trans ‹_› (by decide)) (by decide) (by decide) (fun _ h => h) fun d a1 b1 σ1 hd ht pen1 => ?_
  have hcp : ca ≠ p := fun z => by rw [z, pen.hp] at hca; cases hca
  have hcq : ca ≠ q := fun z => by rw [z, pen.hq] at hca; cases hca
  have hl1 : σ1 ca = some (.list []) := (ht ca hcp).trans (AS.set_same _ _ _)
  refine ⟨⟨by exact Int.natCast_nonneg _, by lia⟩, BuI (fun y4 => mLw x0 (some (.ref p)) x2 (some (.ref ca)) y4 x5 x6 x7 x8 x9 x10 x11 x12 x13) p q ca ns k,
    ⟨[], _, a1, b1, rfl, pen1, hl1, nofun, Nat.le_refl _, Nat.le_refl _⟩, fun _ _ _ _ => trivial, ?_, ?_⟩
  · rintro i m' σ' x hx ⟨c, y4, a2, b2, rfl, pen2, hc, hI, hz1, hz2⟩
    have hi : i < 4 := by have := (List.getElem?_eq_some_iff.mp hx).1; rw [rangeV_len] at this; lia
    refine hidN fun P' hN => ?_
    refine met_list hc (oS_i h2 (len_list hc ⟨p, q, ns, k + 1 + 7 * i, a2, b2, c.length, by rw [codeV_len], pen2, ⟨by lia, by lia⟩, fun c' l a3 b3 σ3 k3 pen3 hn hl3 v3 => ?_⟩))
    have hc3 : σ3 ca = some (.list (codeV c)) := (k3 ca (some_ne hc) hcp).trans hc
    have e2 : codeV c ++ codeV l = codeV (c ++ l) := by unfold codeV; rw [List.map_append]
    refine oL_i hc3 (oL_i hl3 ⟨⟨fun z => by rw [z, hn] at hc; (cases hc), ?_⟩, ?_⟩)
    · rw [codeV_len, codeV_len]; have := v3.2.2; show _ ≤ 1000000; lia
    rw [e2]
    exact hN _ _ ⟨c ++ l, _, a3, b3, rfl, (pen3.up (by lia)).turn hcp hcq, AS.set_same _ _ _, all_app hI v3.1, by rw [List.length_append]; have := v3.2.1; lia, by rw [List.length_append]; have := v3.2.2; lia⟩
  · rintro m' σ' ⟨c, y4, a2, b2, rfl, pen2, hc, hI, hz1, hz2⟩
    rw [rangeV_len] at pen2 hz1 hz2
    exact h ca c y4 a2 b2 σ' (pen2.up (by lia)) hc hcp hI ⟨by lia, by lia⟩
theorem change_ok {P : Post} {σ : AS} {p q : Addr} {ns : List Int} {k : Nat} {a b : Int} {ca : Addr} {c : List Ins} {x0 x2 x4 x5 x6 x7 x8 x9 x10 x11 x12 x13 : Option V} (h1 : fns.lookup (Str.ofString "_law_draw") = some spDraw) (h2 : fns.lookup (Str.ofString "_law_any") = some spAny) (pen : Pen σ p q ns k a b) (hk : k ≤ 600000)
    (hc : σ ca = some (.list (codeV c))) (hcp : ca ≠ p) (hI : ∀ x ∈ c, x.In) (hz : 1 ≤ c.length ∧ c.length ≤ 44)
    (h : ∀ ca c y5 a' b' σ', Pen σ' p q ns (k + 5) a' b' → σ' ca = some (.list (codeV c)) → ca ≠ p → (∀ x ∈ c, x.In) → (1 ≤ c.length ∧ c.length ≤ 44) → rsts (kC w la ns0 fns mes xs) (lapB.drop 3) (mLw x0 (some (.ref p)) x2 (some (.ref ca)) x4 y5 x6 x7 x8 x9 x10 x11 x12 x13) σ' P) :
    rsts (kC w la ns0 fns mes xs) (lapB.drop 2) (mLw x0 (some (.ref p)) x2 (some (.ref ca)) x4 x5 x6 x7 x8 x9 x10 x11 x12 x13) σ P := by
  refine draw_at (m := mLw x0 (some (.ref p)) x2 (some (.ref ca)) x4 x5 x6 x7 x8 x9 x10 x11 x12 x13) (i := 1) (many := 2) h1 rfl pen (by exact Nat.le_trans ‹_› (by decide)) (by decide) (by decide) (fun _ h => h) fun d a1 b1 σ1 hd ht pen1 => ?_
  have hc1 := (ht ca hcp).trans hc
  revert d; refine bel (bel bel_nil ?_) ?_
  · refine draw_at (m := mLw x0 (some (.ref p)) x2 (some (.ref ca)) x4 x5 x6 x7 x8 x9 x10 x11 x12 x13) (i := 1) (many := c.length) h1 rfl pen1 (by exact Nat.lt_of_le_of_lt ‹_› (by decide)) (by lia) (by lia) (fun Q h => len_list hc1 (by rw [codeV_len]; exact h)) fun d a2 b2 σ2 hd ht2 pen2 => ?_
    have hc2 := (ht2 ca hcp).trans hc1
    have cut1 : cutL (codeV c) none (some (d : Int)) = codeV (c.take d) := by show (codeV c).take (Int.toNat d) = _; rw [Int.toNat_natCast]; exact List.map_take.symm
    have cut2 : cutL (codeV c) (some ((d : Int) + 1)) none = codeV (c.drop (d + 1)) := by show (codeV c).drop (Int.toNat ((d : Int) + 1)) = _; rw [show Int.toNat ((d : Int) + 1) = d + 1 by rfl]; exact List.map_drop.symm
    refine ⟨trivial, ⟨Int.natCast_nonneg _, by lia⟩, oL_i (look_same hc2) ?_⟩
    rw [cut1]
    refine fun f1 hf1 _ => oS_i h2 (len_list (set_of hc2 hf1) ⟨p, q, ns, k + 2, a2, b2, c.length, by rw [codeV_len], pen2.ext (Ext.new hf1), ⟨by lia, by lia⟩, fun x a3 b3 σ3 k3 pen3 hx => fun f2 hf2 _ => ?_⟩)
    have f1p : f1 ≠ p := fun z => by rw [z, pen2.hp] at hf1; cases hf1
    have g1 : σ3 f1 = some (.list (codeV (c.take d))) := (k3 f1 (some_ne (AS.set_same _ _ _)) f1p).trans (AS.set_same _ _ _)
    have gc : σ3 ca = some (.list (codeV c)) := (k3 ca (some_ne (set_of hc2 hf1)) hcp).trans (set_of hc2 hf1)
    have l1 : (c.take d).length = d := by rw [List.length_take]; lia
    refine add_codes (r := [x]) (set_of g1 hf2) (AS.set_same _ _ _) (by rw [l1]; show _ + 1 ≤ _; lia) fun f3 hf3 => ?_
    have gc3 := set_of (x := .list (codeV (c.take d ++ [x]))) (set_of (x := .list [x.v]) gc hf2) hf3
    refine ⟨⟨by exact Int.natCast_nonneg _, by lia⟩, trivial, oL_i (look_same gc3) ?_⟩
    rw [cut2]
    refine fun f4 hf4 _ => add_codes (set_of (AS.set_same _ _ _) hf4) (AS.set_same _ _ _) (by rw [List.length_append, l1, List.length_drop]; show _ + 1 + _ ≤ _; lia) fun f5 hf5 => ?_
    have f5p : f5 ≠ p := fun z => by
      have := new_none (new_none (new_none hf5))
      rw [z, pen3.hp] at this; cases this
    have lz : (c.take d ++ [x] ++ c.drop (d + 1)).length = c.length := by rw [List.length_append, List.length_append, l1, List.length_drop]; show d + 1 + _ = _; lia
    exact h f5 _ _ a3 b3 _ (((((pen3.ext (Ext.new hf2)).ext (Ext.new hf3)).ext (Ext.new hf4)).ext (Ext.new hf5))) (AS.set_same _ _ _) f5p (all_app (all_app (fun x m => hI x (List.mem_of_mem_take m)) (all_one hx)) fun x m => hI x (List.mem_of_mem_drop m)) (by rw [lz]; exact hz)
  · exact h ca c _ a1 b1 σ1 (pen1.up (by lia)) hc1 hcp hI hz
end
mutual
theorem eqv_refl : ∀ {v : V}, v.flat = true → PyData.eqv v.py v.py = true
  | .none, _ => rfl
  | .bool b, _ => beq_self_eq_true b
  | .int i, _ => beq_self_eq_true i
  | .str s, _ => beq_self_eq_true s
  | .tup l, h => eqvs_refl h
  | .ref _, h => nomatch h
theorem eqvs_refl : ∀ {l : List V}, V.flats l = true → PyData.eqvAll (V.pys l) (V.pys l) = true
  | [], _ => rfl
  | v :: l, h => Bool.and_eq_true_iff.mpr ⟨eqv_refl (and2 h).1, eqvs_refl (and2 h).2⟩
end
theorem codeV_flat : ∀ {c : List Ins}, (∀ x ∈ c, x.In) → V.flats (codeV c) = true ∧ V.deps (codeV c) ≤ 60
  | [], _ => ⟨rfl, Nat.zero_le _⟩
  | x :: c, h => ⟨Bool.and_eq_true_iff.mpr ⟨(h x (.head _)).vf.1, (codeV_flat fun y m => h y (.tail _ m)).1⟩, Nat.max_le.mpr ⟨Nat.le_trans (h x (.head _)).vf.2 (by decide), (codeV_flat fun y m => h y (.tail _ m)).2⟩⟩
theorem strs_flat : ∀ {l : List Str}, V.flats (l.map V.str) = true ∧ V.deps (l.map V.str) ≤ 60
  | [] => ⟨rfl, Nat.zero_le _⟩
  | _ :: l => ⟨(strs_flat (l := l)).1, Nat.max_le.mpr ⟨Nat.zero_le _, (strs_flat (l := l)).2⟩⟩
theorem same_v {σ : AS} {a b : Addr} {l : List V} (h1 : σ a = some (.list l)) (h2 : σ b = some (.list l)) (hf : V.flats l = true ∧ V.deps l ≤ 60) : (!PyData.eqv (pyAt σ (.ref a)) (pyAt σ (.ref b))) = false := by
  rw [pyAt_list h1, pyAt_list h2, show PyData.eqv (.list (V.pys l)) (.list (V.pys l)) = true from eqvs_refl hf.1]; rfl
theorem same_e {σ : AS} {a b : Addr} {l : List V} (h1 : σ a = some (.list l)) (h2 : σ b = some (.list l)) (hf : V.flats l = true ∧ V.deps l ≤ 60) : (eqB σ (.ref a) && eqB σ (.ref b)) = true := eq2 (eqB_list h1 hf.1 hf.2) (eqB_list h2 hf.1 hf.2)
section
variable {w : World} {hB : Heap} {os0 : OsState} {n : Nat} {la : Addr} {ns0 : List Int} {fns : List (Str × Spec)} {mes : List ((Addr × Str) × Spec)} {xs : List (Str × Addr)}
theorem judge_ok {P : Post} {σ : AS} {p q : Addr} {ns : List Int} {k : Nat} {a b : Int} {ca : Addr} {c : List Ins} {x0 x2 x4 x5 x6 x7 x8 x9 x10 x11 x12 x13 : Option V} (h1 : fns.lookup (Str.ofString "_law_depths") = some spDepths) (h2 : fns.lookup (Str.ofString "check_code") = some spCheck) (hx : xs.lookup (Str.ofString "ActionError") = some 62)
    (pen : Pen σ p q ns k a b) (hc : σ ca = some (.list (codeV c))) (hcp : ca ≠ p) (hI : ∀ x ∈ c, x.In) (hz : 1 ≤ c.length ∧ c.length ≤ 44)
    (hbad : ∀ m' σ', LwAny x0 (some (.ref p)) x2 m' → Pen σ' p q ns k a b → P.n m' σ')
    (hgood : ∀ kc da es σ', Pen σ' p q ns k a b → σ' ca = some (.list (codeV c)) → σ' kc = some (.list (codeV c)) → σ' da = some (.di (esV es)) → Silent c → Labels c es → rsts (kC w la ns0 fns mes xs) (lapB.drop 8) (mLw x0 (some (.ref p)) x2 (some (.ref ca)) x4 x5 (some (.ref kc)) (some (.ref da)) (some (.bool true)) x9 x10 x11 x12 x13) σ' P) :
    rsts (kC w la ns0 fns mes xs) (lapB.drop 3) (mLw x0 (some (.ref p)) x2 (some (.ref ca)) x4 x5 x6 x7 x8 x9 x10 x11 x12 x13) σ P := by
  have cf := codeV_flat hI
  refine oL_i hc fun kc hkc _ => ?_
  have e0 := Ext.new (o := .list (codeV c)) hkc
  have k0 : (σ.set kc (.list (codeV c))) kc = some (.list (codeV c)) := AS.set_same _ _ _
  generalize σ.set kc (.list (codeV c)) = σ0 at e0 k0
  have c0 := (e0 ca (some_ne hc)).trans hc
  refine oS_i h1 ⟨ca, c, rfl, c0, hI, by lia, fun σ1 e1 hs => ?_, fun da es σ1 e1 hda0 hda hs lb => ?_⟩
  · refine oS_i hx ⟨Nat.le_of_ble_eq_true rfl, oS_i h2 ⟨ca, c, rfl, (e1 ca (some_ne c0)).trans c0, hI, by lia, fun σ2 e2 s => absurd s hs, fun t σ2 e2 _ => ⟨rfl, rfl, ?_⟩⟩⟩
    have e := e1.trans e2
    have ea := (e ca (some_ne c0)).trans c0
    have ek := (e kc (some_ne k0)).trans k0
    exact onB_i (same_e ea ek cf) (onB_n (same_v ea ek cf) (hbad _ _ ⟨_, _, _, _, _, _, _, _, _, _, _, rfl⟩ (pen.ext (e0.trans e))))
  · refine oS_i hx ⟨Nat.le_of_ble_eq_true rfl, oS_i h2 ⟨ca, c, rfl, (e1 ca (some_ne c0)).trans c0, hI, by lia, fun σ2 e2 _ => ?_, fun t σ2 e2 ns => absurd hs ns⟩⟩
    have e := e1.trans e2
    have ea := (e ca (some_ne c0)).trans c0
    have ek := (e kc (some_ne k0)).trans k0
    exact onB_i (same_e ea ek cf) (onB_n (same_v ea ek cf) (hgood kc da es σ2 (pen.ext (e0.trans e)) ea ek ((e2 da (some_ne hda)).trans hda) hs lb))
end
theorem best_eq {c : List Ins} {es : List (Nat × Nat)} {b : Nat} {m : Int} (hs : Silent c) (lb : Labels c es) (hb : Best c b) (hm : m ∈ es.map (fun p => (p.2 : Int))) (hmax : ∀ x ∈ es.map (fun p => (p.2 : Int)), x ≤ m) : (!((b : Int) == m)) = false := by
  obtain ⟨⟨a, d⟩, hp, rfl⟩ := List.mem_map.mp hm
  have h1 : d ≤ b := hb.2 a (lb.2.1 _ hp).1 d (lb.2.1 _ hp).2
  obtain ⟨a', r', f'⟩ := hb.1
  obtain ⟨d', hp'⟩ := lb.2.2 a' r'
  have e : b = d' := f'.eq hs (lb.2.1 _ hp').2
  have h2 := hmax d' (List.mem_map.mpr ⟨_, hp', rfl⟩)
  have : (b : Int) = d := by show (b : Int) = (d : Int); have h2 : (d' : Int) ≤ d := h2; lia
  show (!((b : Int) == (d : Int))) = false
  rw [this, beq_self_eq_true]; rfl
inductive GoI (m0 : Option V → Option V → Option V → M) (due : Addr) (σ5 : AS) (rs : List Str) (i : Nat) (m' : M) (σ' : AS) : Prop where
  | mk (y9 y12 y13 : Option V) (e : m' = m0 y9 y12 y13) (hE : ∀ a, a ≠ due → σ' a = σ5 a) (hd : σ' due = some (.list ((rs.take i).map .str)))
theorem GoI.k {m0 : Option V → Option V → Option V → M} {due : Addr} {σ5 : AS} {rs : List Str} {i : Nat} {m' : M} {σ' : AS} (h : GoI m0 due σ5 rs i m' σ') {a : Addr} (n : a ≠ due) : σ' a = σ5 a := by cases h with | mk _ _ _ _ hE _ => exact hE a n
section
variable {w : World} {hB : Heap} {os0 : OsState} {n : Nat} {la : Addr} {ns0 : List Int} {fns : List (Str × Spec)} {mes : List ((Addr × Str) × Spec)} {xs : List (Str × Addr)}
theorem good_ok {P : Post} {σ : AS} {p q : Addr} {ns : List Int} {k : Nat} {a b : Int} {ca kc da : Addr} {c : List Ins} {es : List (Nat × Nat)} {x0 x2 x4 x5 x9 x10 x11 x12 x13 : Option V} (h1 : fns.lookup (Str.ofString "most_depth") = some spMost) (h2 : fns.lookup (Str.ofString "_law_run_right") = some spRight) (h3 : fns.lookup (Str.ofString "show_code") = some spShow)
    (pen : Pen σ p q ns k a b) (hk : k ≤ 600000) (hc : σ ca = some (.list (codeV c))) (hkc : σ kc = some (.list (codeV c))) (hda : σ da = some (.di (esV es))) (hI : ∀ x ∈ c, x.In) (hz : 1 ≤ c.length ∧ c.length ≤ 44) (hs : Silent c) (lb : Labels c es)
    (h : ∀ m' a' b' σ', LwAny x0 (some (.ref p)) x2 m' → Pen σ' p q ns (k + 10) a' b' → P.n m' σ') :
    rsts (kC w la ns0 fns mes xs) (lapB.drop 8) (mLw x0 (some (.ref p)) x2 (some (.ref ca)) x4 x5 (some (.ref kc)) (some (.ref da)) (some (.bool true)) x9 x10 x11 x12 x13) σ P := by
  have cf := codeV_flat hI
  have cap : ca ≠ p := ne_of hc pen.hp (code_pen hz.1)
  have kcp : kc ≠ p := ne_of hkc pen.hp (code_pen hz.1)
  refine oS_i h1 ⟨ca, c, rfl, hc, hI, by lia, hs, fun best σ1 e1 hb => oDi_i ((e1 da (some_ne hda)).trans hda) ⟨by unfold esV; rw [List.length_map]; have := lb.1; lia, fun f hf _ => ?_⟩⟩
  have ef : (esV es).map (·.2) = (es.map fun p => (p.2 : Int)).map V.int := by unfold esV; rw [List.map_map, List.map_map]; rfl
  have ne0 : (es.map fun p => (p.2 : Int)) ≠ [] := fun z => by
    obtain ⟨d, m⟩ := lb.2.2 0 .z
    rw [List.map_eq_nil_iff.mp z] at m; cases m
  refine ⟨_, by rw [AS.set_same, ef], ne0, fun mx hm hmax => onB_n (best_eq hs lb hb hm hmax) ?_⟩
  have e2 := e1.trans (Ext.new (o := .list ((esV es).map (·.2))) hf)
  generalize σ1.set f (.list ((esV es).map (·.2))) = σ2 at e2
  refine oS_i h2 ⟨p, q, ns, k, a, b, ca, c, rfl, pen.ext e2, by exact Nat.le_trans ‹_› (by decide), (e2 ca (some_ne hc)).trans hc, hI, ⟨hz.1, by lia⟩, hs, fun a3 b3 σ3 k3 pen3 => ?_⟩
  have c3 : σ3 ca = some (.list (codeV c)) := (k3 ca (some_ne ((e2 ca (some_ne hc)).trans hc)) cap).trans ((e2 ca (some_ne hc)).trans hc)
  have kc3 : σ3 kc = some (.list (codeV c)) := (k3 kc (some_ne ((e2 kc (some_ne hkc)).trans hkc)) kcp).trans ((e2 kc (some_ne hkc)).trans hkc)
  have rn : ∀ s ∈ rowsS 0 c, niceB 70 s = true := rows_nice hI (by lia)
  have sp := split_rows (ss := rowsS 0 c) (fun z => by have := rowsS_len (c := c) (i := 0); rw [z] at this; simp at this; lia) fun s m => nice_free (rn s m)
  have jl : (Txt.join (Str.ofString "\n") (rowsS 0 c)).length ≤ 90000 := by
    show (Builtin.Str.glued _ _).length ≤ _
    rw [StrLaws.glued_eq_join]
    refine Nat.le_trans (StrLaws.join_length_le _ _) ?_
    have a1 := StrLaws.sumLen_le (B := 70) (rowsS 0 c) fun s m => nice_len (rn s m)
    rw [rowsS_len] at a1 ⊢
    rw [show (Str.ofString "\n").length = 1 by decide +kernel]
    lia
  refine oS_i h3 ⟨ca, c, rfl, c3, hI, by lia, fun σ4 e4 => ⟨.ty "str", rfl, trivial, rfl, rfl, jl, ?_⟩⟩
  rw [sp]
  refine fun rr hrr _ => fun due hdue _ => ?_
  have c5 := set_of (x := .list []) (set_of (x := .list ((rowsS 0 c).map .str)) ((e4 ca (some_ne c3)).trans c3) hrr) hdue
  have kc5 := set_of (x := .list []) (set_of (x := .list ((rowsS 0 c).map .str)) ((e4 kc (some_ne kc3)).trans kc3) hrr) hdue
  have r5 := set_of (x := .list []) (AS.set_same σ4 rr (.list ((rowsS 0 c).map .str))) hdue
  have d5 : ((σ4.set rr (.list ((rowsS 0 c).map .str))).set due (.list [])) due = some (.list []) := AS.set_same _ _ _
  have pen5 := (((pen3.ext e4).ext (Ext.new (o := .list ((rowsS 0 c).map .str)) hrr))).ext (Ext.new (o := .list []) hdue)
  have dne : ∀ {a : Addr} {o : AO}, (σ4.set rr (.list ((rowsS 0 c).map .str))) a = some o → due ≠ a := fun h z => by rw [z, h] at hdue; cases hdue
  have dca := dne (set_of (x := .list ((rowsS 0 c).map .str)) ((e4 ca (some_ne c3)).trans c3) hrr)
  have dkc := dne (set_of (x := .list ((rowsS 0 c).map .str)) ((e4 kc (some_ne kc3)).trans kc3) hrr)
  have drr := dne (AS.set_same σ4 rr (.list ((rowsS 0 c).map .str)))
  have dp := dne (((pen3.ext e4).ext (Ext.new (o := .list ((rowsS 0 c).map .str)) hrr))).hp
  have dq := dne (((pen3.ext e4).ext (Ext.new (o := .list ((rowsS 0 c).map .str)) hrr))).hq
  generalize (σ4.set rr (.list ((rowsS 0 c).map .str))).set due (.list []) = σ5 at c5 kc5 r5 d5 pen5
  refine oL_i c5 ⟨by rw [codeV_len]; lia, GoI (fun y9 y12 y13 => mLw x0 (some (.ref p)) x2 (some (.ref ca)) x4 x5 (some (.ref kc)) (some (.ref da)) (some (.bool true)) y9 (some (.ref rr)) (some (.ref due)) y12 y13) due σ5 (rowsS 0 c),
    ⟨_, _, _, rfl, fun _ _ => rfl, d5⟩, fun i m' σ' h => (h.k (Ne.symm dca)).trans c5, ?_, ?_⟩
  · rintro i m' σ' x hx ⟨y9, y12, y13, rfl, hE, hd⟩
    obtain ⟨hi, rfl⟩ := enum_code hx
    refine row_step (m := mLw x0 (some (.ref p)) x2 (some (.ref ca)) x4 x5 (some (.ref kc)) (some (.ref da)) (some (.bool true)) (some (.int i)) (some (.ref rr)) (some (.ref due)) (some c[i].v) y13) (i := i) (p := 12) (qq := 9) (r := 13) (l := 11) (ra := due) (x := c[i]) (by lia) hd (by rw [List.length_map, List.length_take]; lia) rfl (Nat.le_of_ble_eq_true rfl) (fun _ => rfl) (fun _ => rfl) (fun _ => rfl) (hI _ (List.getElem_mem hi)) ⟨_, _, _, rfl, fun a h => (AS.set_ne _ _ h).trans (hE a h), ?_⟩
    rw [AS.set_same, List.take_succ, rowsS_get hi, Nat.zero_add, List.map_append]
    rfl
  · rintro m' σ' ⟨y9, y12, y13, rfl, hE, hd⟩
    rw [enumV_len, codeV_len, ← rowsS_len (i := 0), List.take_length] at hd
    have r6 := (hE rr (Ne.symm drr)).trans r5
    have c6 := (hE ca (Ne.symm dca)).trans c5
    have kc6 := (hE kc (Ne.symm dkc)).trans kc5
    have sf := strs_flat (l := rowsS 0 c)
    exact onB_i (same_e r6 hd sf) (onB_n (same_v r6 hd sf) (onB_i (same_e c6 kc6 cf) (onB_n (same_v c6 kc6 cf) (h _ a3 b3 σ' ⟨_, _, _, _, _, _, _, _, _, _, _, rfl⟩ ⟨(hE p (Ne.symm dp)).trans pen5.hp, (hE q (Ne.symm dq)).trans pen5.hq, pen5.a0, pen5.ak, pen5.b0⟩))))
end
section
variable {w : World} {hB : Heap} {os0 : OsState} {n : Nat} {la : Addr} {ns0 : List Int} {fns : List (Str × Spec)} {mes : List ((Addr × Str) × Spec)} {xs : List (Str × Addr)}
inductive LapI (la p q : Addr) (ns : List Int) (i : Nat) (m : M) (σ : AS) : Prop where
  | mk (y2 : Option V) (a b : Int) (h : LwAny (some (.ref la)) (some (.ref p)) y2 m) (pen : Pen σ p q ns (100 * i) a b)
theorem law_ok (h0 : fns.lookup (Str.ofString "_law_pen") = some (spPenNew la ns0)) (h1 : fns.lookup (Str.ofString "_law_draw") = some spDraw) (h2 : fns.lookup (Str.ofString "_law_piece") = some spPiece) (h3 : fns.lookup (Str.ofString "_law_any") = some spAny) (h4 : fns.lookup (Str.ofString "_law_depths") = some spDepths) (h5 : fns.lookup (Str.ofString "check_code") = some spCheck)
    (h6 : fns.lookup (Str.ofString "most_depth") = some spMost) (h7 : fns.lookup (Str.ofString "_law_run_right") = some spRight) (h8 : fns.lookup (Str.ofString "show_code") = some spShow) (hx : xs.lookup (Str.ofString "ActionError") = some 62) (Q : PQ) (X : PXx) (hQ : ∀ σ', Q (.bool true) σ') :
    rsts (kC w la ns0 fns mes xs) rp_law (lawM la) (fun _ => none) ⟨fun _ σ' => Q .none σ', Q, fun _ _ => False, fun x _ σ' => X x σ'⟩ := by
  refine post_gen fun P hr _ _ => oS_i h0 ⟨rfl, fun p q σ1 e1 hp0 pen => ?_⟩
  refine ⟨⟨by decide, by decide⟩, LapI la p q (ns0.take 24), ⟨_, 0, 0, ⟨_, _, _, _, _, _, _, _, _, _, _, rfl⟩, pen⟩, fun _ _ _ _ => trivial, ?_, fun m' σ' _ => hr _ _ (hQ σ')⟩
  rintro i m' σ2 x hx' ⟨y2, a, b, ⟨y3, y4, y5, y6, y7, y8, y9, y10, y11, y12, y13, rfl⟩, pen2⟩
  have hi : i < 3 := by have := (List.getElem?_eq_some_iff.mp hx').1; rw [rangeV_len] at this; exact this
  refine build_ok (P := ⟨LapI la p q (ns0.take 24) (i + 1), P.r, LapI la p q (ns0.take 24) (i + 1), P.x⟩) h1 h2 pen2 (by lia) fun ca c z4 a3 b3 σ3 pen3 hc hcp hI hz => ?_
  refine change_ok h1 h3 pen3 (by lia) hc hcp hI hz fun ca c z5 a4 b4 σ4 pen4 hc hcp hI hz => ?_
  refine judge_ok h4 h5 hx pen4 hc hcp hI hz (fun m' σ' h pen' => ⟨_, _, _, h, pen'.up (by lia)⟩) fun kc da es σ5 pen5 hc5 hk5 hd5 hs lb => ?_
  exact good_ok h6 h7 h8 pen5 (by lia) hc5 hk5 hd5 hI hz hs lb fun m' a' b' σ' h pen' => ⟨_, _, _, h, pen'.up (by lia)⟩
end
section
variable {prog : Program} {w : World} {hB : Heap} {os0 : OsState} {n n' : Nat}
theorem At.re {A : Around} {σ σ' : AS} {s s' : Shared} (x : Mine.At prog w hB os0 A n σ' s') (y : Mine.At prog w hB os0 A n' σ s) : Mine.At prog w hB os0 A n' σ' s' := ⟨x.st, x.obj, x.fr, x.hd, y.dp, y.un, x.gens, x.os⟩
theorem ExcOk.mono {K : Addr} (h : n ≤ n') (x : ExcOk prog w hB os0 n K) : ExcOk prog w hB os0 n' K :=
  ⟨x.kept, fun A l σ s cv t Q E hf at_ r q => x.make A l σ s cv t Q E hf (at_.le h) r fun e dx s' a => q e dx s' (a.re at_), x.raise, x.mat, x.attr⟩
theorem Does.mono {fv : Value} {sp : Spec} (h : n ≤ n') (x : Does prog w hB os0 n fv sp) : Does prog w hB os0 n' fv sp := fun A l σ s cvs vs Q X E hf at_ hr hs hE =>
  codeAny_mono (x A l σ s cvs vs Q X E hf (at_.le h) hr hs fun y σ' ev s' xa hX => hE y σ' ev s' ⟨xa.at_.re at_, xa.kc, xa.ex⟩ hX) fun r s' z => by
    cases r with
    | error e => exact z
    | ok f =>
      cases f with
      | ret cv => obtain ⟨v, σ', b1, b2, b3, b4⟩ := z; exact ⟨v, σ', b1.re at_, b2, b3, b4⟩
      | _ => exact z
end
section
variable {w : World} {hB : Heap} {os0 : OsState} {la : Addr} {ns0 : List Int}
noncomputable def FOk (w : World) (hB : Heap) (os0 : OsState) (n : Nat) (x : Str × Spec) : Prop := ∃ a, kGs.contains (x.1, .ref a) = true ∧ keepIn (KF w.params) (.ref a) = true ∧ Does pw w hB os0 n (.ref a) x.2
noncomputable def MOk (w : World) (hB : Heap) (os0 : OsState) (n : Nat) (x : (Addr × Str) × Spec) : Prop := ClsIn (KF w.params) x.1.1 ∧ ∃ g, findIn (KF w.params) (.ref x.1.1) x.1.2 = some (some (.ref g)) ∧ isFn (KF w.params) (.ref g) = true ∧ keepIn (KF w.params) (.ref g) = true ∧ Does pw w hB os0 n (.ref g) x.2
noncomputable def EOk (w : World) (hB : Heap) (os0 : OsState) (n : Nat) (x : Str × Addr) : Prop := kGs.contains (x.1, .ref x.2) = true ∧ ExcOk pw w hB os0 n x.2
theorem FOk.mono {n n' : Nat} (h : n ≤ n') {x : Str × Spec} (k : FOk w hB os0 n x) : FOk w hB os0 n' x := let ⟨a, h1, h2, h3⟩ := k; ⟨a, h1, h2, h3.mono h⟩
theorem MOk.mono {n n' : Nat} (h : n ≤ n') {x : (Addr × Str) × Spec} (k : MOk w hB os0 n x) : MOk w hB os0 n' x := let ⟨c, a, h1, h2, h3, h4⟩ := k; ⟨c, a, h1, h2, h3, h4.mono h⟩
structure Lay (w : World) (hB : Heap) (os0 : OsState) (la : Addr) (ns : List Int) (n : Nat) (fns : List (Str × Spec)) (mes : List ((Addr × Str) × Spec)) (xs : List (Str × Addr)) : Prop where
  bd : Bed w hB la ns
  f : ∀ x ∈ fns, FOk w hB os0 n x
  m : ∀ x ∈ mes, MOk w hB os0 n x
  x : ∀ x ∈ xs, EOk w hB os0 n x
theorem Lay.cx {n : Nat} {fns : List (Str × Spec)} {mes : List ((Addr × Str) × Spec)} {xs : List (Str × Addr)} (l : Lay w hB os0 la ns0 n fns mes xs) : CxO (kC w la ns0 fns mes xs) pw w hB os0 n := cx_of l.bd l.f l.m l.x
theorem Lay.more {n : Nat} {fns fns' : List (Str × Spec)} {mes mes' : List ((Addr × Str) × Spec)} {xs : List (Str × Addr)} (l : Lay w hB os0 la ns0 n fns mes xs) (hf : ∀ x ∈ fns', FOk w hB os0 (n + 1) x) (hm : ∀ x ∈ mes', MOk w hB os0 (n + 1) x) : Lay w hB os0 la ns0 (n + 1) (fns' ++ fns) (mes' ++ mes) xs :=
  ⟨l.bd, fun x m => (List.mem_append.mp m).elim (hf x) fun m => (l.f x m).mono (Nat.le_succ _), fun x m => (List.mem_append.mp m).elim (hm x) fun m => (l.m x m).mono (Nat.le_succ _), fun x m => ⟨(l.x x m).1, (l.x x m).2.mono (Nat.le_succ _)⟩⟩
theorem lay0 (bd : Bed w hB la ns0) : Lay w hB os0 la ns0 2 [] [] [(Str.ofString "ActionError", 62), (Str.ofString "MachineError", 74)] := by
  have l0 : Lay w hB os0 la ns0 0 [] [] [] := ⟨bd, nofun, nofun, nofun⟩
  exact ⟨bd, nofun, nofun, all_cons ⟨by kernel_rfl, exc_ActionError bd rfl l0.cx⟩ (all_cons ⟨by kernel_rfl, exc_MachineError bd rfl l0.cx⟩ all_nil)⟩
end
section
variable {w : World} {hB : Heap} {os0 : OsState} {la : Addr} {ns0 : List Int}
theorem fk {n : Nat} {x : Str} {sp : Spec} (a : Addr) (d : Does pw w hB os0 n (.ref a) sp) (h1 : kGs.contains (x, .ref a) = true := by kernel_rfl) (h2 : keepIn (KF w.params) (.ref a) = true := by kernel_rfl) : FOk w hB os0 n (x, sp) := ⟨a, h1, h2, d⟩
theorem mk' {n : Nat} {c : Addr} {x : Str} {sp : Spec} (a : Addr) (hc : ClsIn (KF w.params) c) (d : Does pw w hB os0 n (.ref a) sp) (h0 : findIn (KF w.params) (.ref c) x = some (some (.ref a)) := by kernel_rfl) (h1 : isFn (KF w.params) (.ref a) = true := by kernel_rfl) (h2 : keepIn (KF w.params) (.ref a) = true := by kernel_rfl) : MOk w hB os0 n ((c, x), sp) := ⟨hc, a, h0, h1, h2, d⟩
noncomputable abbrev xs0 : List (Str × Addr) := [(Str.ofString "ActionError", 62), (Str.ofString "MachineError", 74)]
noncomputable abbrev fns1 (w : World) (la : Addr) (ns0 : List Int) : List (Str × Spec) := [(Str.ofString "is_number", spIsNumber), (Str.ofString "is_true", spIsTrue), (Str.ofString "need", spNeed), (Str.ofString "part_count", spPartCount), (Str.ofString "goals_behind", (spGoals w la ns0)), (Str.ofString "taken_and_put", spTake), (Str.ofString "is_pair", spIsPair), (Str.ofString "show_code", spShow), (Str.ofString "_law_stands", spStands), (Str.ofString "_law_pen", (spPenNew la ns0)), (Str.ofString "_law_draw", spDraw)] ++ []
noncomputable abbrev mes1 : List ((Addr × Str) × Spec) := [((337, Str.ofString "push"), spPush)] ++ []
theorem lay1 (bd : Bed w hB la ns0) (h23 : la ≠ 23) (h24 : la ≠ 24) (l : Lay w hB os0 la ns0 2 [] [] xs0) : Lay w hB os0 la ns0 3 (fns1 w la ns0) mes1 xs0 :=
  l.more (all_cons (fk 86 (does_is_number l.cx bd.y)) (all_cons (fk 93 (does_is_true l.cx bd.y)) (all_cons (fk 187 (does_need l.cx bd.y (by kernel_rfl))) (all_cons (fk 121 (does_part_count l.cx bd.y)) (all_cons (fk 149 (does_goals_behind l.cx bd.y)) (all_cons (fk 156 (does_taken_and_put l.cx bd.y)) (all_cons (fk 163 (does_is_pair l.cx bd.y)) (all_cons (fk 180 (does_show_code l.cx bd.y)) (all_cons (fk 457 (does_stands l.cx bd.y)) (all_cons (fk 424 (does_pen l.cx bd.y h23 h24)) (all_cons (fk 431 (does_draw l.cx bd.y)) (all_nil)))))))))))) (all_cons (mk' 313 frame_cls (does_push l.cx bd.y)) (all_nil))
noncomputable abbrev fns2 (w : World) (la : Addr) (ns0 : List Int) : List (Str × Spec) := [(Str.ofString "bounded", spBounded), (Str.ofString "added", spAdded), (Str.ofString "compared", spCompared), (Str.ofString "one_worth", spOneWorth), (Str.ofString "need_list", spNeedList), (Str.ofString "need_row", spNeedRow), (Str.ofString "need_number", spNeedNumber), (Str.ofString "text_of", spTextOf), (Str.ofString "value_at", spValueAt), (Str.ofString "are_equal", spAreEqual), (Str.ofString "_law_value", spValue), (Str.ofString "_law_any", spAny), (Str.ofString "_law_depths", spDepths), (Str.ofString "check_code", spCheck), (Str.ofString "most_depth", spMost), (Str.ofString "Frame", mkSpec 337 spInit), (Str.ofString "Machine", mkSpec 413 spMInit)] ++ (fns1 w la ns0)
noncomputable abbrev mes2 : List ((Addr × Str) × Spec) := [((337, Str.ofString "count"), spCount), ((337, Str.ofString "pop"), spPop), ((337, Str.ofString "pop_some"), spPopSome)] ++ mes1
theorem lay2 (bd : Bed w hB la ns0) (l : Lay w hB os0 la ns0 3 (fns1 w la ns0) mes1 xs0) : Lay w hB os0 la ns0 4 (fns2 w la ns0) mes2 xs0 :=
  l.more (all_cons (fk 100 (does_bounded l.cx bd.y (by kernel_rfl) (by kernel_rfl))) (all_cons (fk 107 (does_added l.cx bd.y (by kernel_rfl) (by kernel_rfl))) (all_cons (fk 114 (does_compared l.cx bd.y (by kernel_rfl) (by kernel_rfl))) (all_cons (fk 142 (does_one_worth l.cx bd.y (by kernel_rfl) (by kernel_rfl) (by kernel_rfl))) (all_cons (fk 194 (does_need_list l.cx bd.y (by kernel_rfl))) (all_cons (fk 201 (does_need_row l.cx bd.y (by kernel_rfl))) (all_cons (fk 208 (does_need_number l.cx bd.y (by kernel_rfl) (by kernel_rfl))) (all_cons (fk 222 (does_text_of l.cx bd.y (by kernel_rfl) (by kernel_rfl))) (all_cons (fk 278 (does_value_at l.cx bd.y (by kernel_rfl))) (all_cons (fk 128 (does_are_equal l.cx bd.y (by kernel_rfl) (by kernel_rfl))) (all_cons (fk 436 (does_value l.cx bd.y (by kernel_rfl))) (all_cons (fk 450 (does_any l.cx bd.y (by kernel_rfl))) (all_cons (fk 462 (does_law_depths l.cx bd.y (by kernel_rfl))) (all_cons (fk 168 (does_check_code l.cx bd.y (by kernel_rfl) (by kernel_rfl) (by kernel_rfl) (by kernel_rfl))) (all_cons (fk 173 (does_most_depth l.cx bd.y (by kernel_rfl) (by kernel_rfl))) (all_cons (fk 337 (class_does (bd.cxK (fns := []) (mes := []) (xs := [])) (by kernel_rfl) (by kernel_rfl) (by kernel_rfl) (does_init (lay0 bd).cx bd.y))) (all_cons (fk 413 (class_does (bd.cxK (fns := []) (mes := []) (xs := [])) (by kernel_rfl) (by kernel_rfl) (by kernel_rfl) (does_minit (lay0 bd).cx bd.y))) (all_nil)))))))))))))))))) (all_cons (mk' 306 frame_cls (does_count l.cx bd.y (by kernel_rfl))) (all_cons (mk' 320 frame_cls (does_pop l.cx bd.y (by kernel_rfl))) (all_cons (mk' 327 frame_cls (does_pop_some l.cx bd.y (by kernel_rfl))) (all_nil))))
noncomputable abbrev fns3 (w : World) (la : Addr) (ns0 : List Int) : List (Str × Spec) := [(Str.ofString "two_worth", spTwoWorth), (Str.ofString "turned", spTurned), (Str.ofString "number_of", spNumberOf), (Str.ofString "glued", spGlued), (Str.ofString "item_of", spItemOf), (Str.ofString "cut_of", spCutOf), (Str.ofString "end_of", spEndOf), (Str.ofString "_law_piece", spPiece)] ++ (fns2 w la ns0)
noncomputable abbrev mes3 : List ((Addr × Str) × Spec) := [((413, Str.ofString "jumped"), spJumped), ((413, Str.ofString "store"), spStore)] ++ mes2
theorem lay3 (bd : Bed w hB la ns0) (l : Lay w hB os0 la ns0 4 (fns2 w la ns0) mes2 xs0) : Lay w hB os0 la ns0 5 (fns3 w la ns0) mes3 xs0 :=
  l.more (all_cons (fk 135 (does_two_worth l.cx bd.y (by kernel_rfl) (by kernel_rfl) (by kernel_rfl) (by kernel_rfl) (by kernel_rfl) (by kernel_rfl))) (all_cons (fk 236 (does_turned l.cx bd.y (by kernel_rfl))) (all_cons (fk 215 (does_number_of l.cx bd.y (by kernel_rfl) (by kernel_rfl))) (all_cons (fk 229 (does_glued l.cx bd.y (by kernel_rfl) (by kernel_rfl) (by kernel_rfl))) (all_cons (fk 243 (does_item_of l.cx bd.y (by kernel_rfl) (by kernel_rfl))) (all_cons (fk 250 (does_cut_of l.cx bd.y (by kernel_rfl) (by kernel_rfl))) (all_cons (fk 257 (does_end_of l.cx bd.y (by kernel_rfl) (by kernel_rfl))) (all_cons (fk 443 (does_piece l.cx bd.y (by kernel_rfl) (by kernel_rfl))) (all_nil))))))))) (all_cons (mk' 370 machine_cls (does_jumped l.cx bd.y (by kernel_rfl) (by kernel_rfl))) (all_cons (mk' 384 machine_cls (does_store l.cx bd.y (by kernel_rfl))) (all_nil)))
noncomputable abbrev fns4 (w : World) (la : Addr) (ns0 : List Int) : List (Str × Spec) := [(Str.ofString "call_of_one", spCallOfOne)] ++ (fns3 w la ns0)
noncomputable abbrev mes4 : List ((Addr × Str) × Spec) := [] ++ mes3
theorem lay4 (bd : Bed w hB la ns0) (l : Lay w hB os0 la ns0 5 (fns3 w la ns0) mes3 xs0) : Lay w hB os0 la ns0 6 (fns4 w la ns0) mes4 xs0 :=
  l.more (all_cons (fk 264 (does_call_of_one l.cx bd.y (by kernel_rfl) (by kernel_rfl) (by kernel_rfl) (by kernel_rfl) (by kernel_rfl))) (all_nil)) (all_nil)
noncomputable abbrev fns5 (w : World) (la : Addr) (ns0 : List Int) : List (Str × Spec) := [(Str.ofString "applied", spApplied)] ++ (fns4 w la ns0)
noncomputable abbrev mes5 : List ((Addr × Str) × Spec) := [] ++ mes4
theorem lay5 (bd : Bed w hB la ns0) (l : Lay w hB os0 la ns0 6 (fns4 w la ns0) mes4 xs0) : Lay w hB os0 la ns0 7 (fns5 w la ns0) mes5 xs0 :=
  l.more (all_cons (fk 271 (does_applied l.cx bd.y (by kernel_rfl) (by kernel_rfl) (by kernel_rfl) (by kernel_rfl) (by kernel_rfl) (by kernel_rfl) (by kernel_rfl))) (all_nil)) (all_nil)
noncomputable abbrev fns6 (w : World) (la : Addr) (ns0 : List Int) : List (Str × Spec) := [] ++ (fns5 w la ns0)
noncomputable abbrev mes6 : List ((Addr × Str) × Spec) := [((413, Str.ofString "step"), spStep)] ++ mes5
theorem lay6 (bd : Bed w hB la ns0) (l : Lay w hB os0 la ns0 7 (fns5 w la ns0) mes5 xs0) : Lay w hB os0 la ns0 8 (fns6 w la ns0) mes6 xs0 :=
  l.more (all_nil) (all_cons (mk' 377 machine_cls (does_step l.cx bd.y (by kernel_rfl) (by kernel_rfl) (by kernel_rfl) (by kernel_rfl) (by kernel_rfl) (by kernel_rfl) (by kernel_rfl) (by kernel_rfl) (by kernel_rfl))) (all_nil))
noncomputable abbrev fns7 (w : World) (la : Addr) (ns0 : List Int) : List (Str × Spec) := [] ++ (fns6 w la ns0)
noncomputable abbrev mes7 : List ((Addr × Str) × Spec) := [((413, Str.ofString "run"), spRun)] ++ mes6
theorem lay7 (bd : Bed w hB la ns0) (l : Lay w hB os0 la ns0 8 (fns6 w la ns0) mes6 xs0) : Lay w hB os0 la ns0 9 (fns7 w la ns0) mes7 xs0 :=
  l.more (all_nil) (all_cons (mk' 363 machine_cls (does_run l.cx bd.y (by kernel_rfl) (by kernel_rfl) (by kernel_rfl) (by kernel_rfl))) (all_nil))
noncomputable abbrev fns8 (w : World) (la : Addr) (ns0 : List Int) : List (Str × Spec) := [(Str.ofString "_law_run_right", spRight)] ++ (fns7 w la ns0)
noncomputable abbrev mes8 : List ((Addr × Str) × Spec) := [] ++ mes7
theorem lay8 (bd : Bed w hB la ns0) (l : Lay w hB os0 la ns0 9 (fns7 w la ns0) mes7 xs0) : Lay w hB os0 la ns0 10 (fns8 w la ns0) mes8 xs0 :=
  l.more (all_cons (fk 467 (does_right l.cx bd.y (by kernel_rfl) (by kernel_rfl) (by kernel_rfl) (by kernel_rfl))) (all_nil)) (all_nil)
end
theorem ne_dict {w : World} {hB : Heap} {la a : Addr} {l : List V} {es : List (Str × V)} (h : OM pw w hB la (.list l)) (h' : OM pw w hB a (.ds es)) : la ≠ a := fun e => by
  obtain ⟨vs, ⟨n, h1⟩, _⟩ := h
  obtain ⟨kvs, ⟨o, _, _, h2, c, _⟩, _⟩ := h'
  rw [e, h2] at h1
  have hc := c.1
  rw [Option.some.inj h1] at hc
  exact absurd hc (by simp)
theorem law_right : LawRight := fun w hB os0 la ns bd _ =>
  have h23 : la ≠ 23 := ne_dict bd.scr bd.y.lev
  have h24 : la ≠ 24 := ne_dict bd.scr bd.y.fun
  have l := lay8 bd (lay7 bd (lay6 bd (lay5 bd (lay4 bd (lay3 bd (lay2 bd (lay1 bd h23 h24 (lay0 (os0 := os0) bd))))))))
  ⟨_, 10, by decide, l.cx, fun Q X hQ => law_ok (by kernel_rfl) (by kernel_rfl) (by kernel_rfl) (by kernel_rfl) (by kernel_rfl) (by kernel_rfl) (by kernel_rfl) (by kernel_rfl) (by kernel_rfl) (by kernel_rfl) Q X hQ⟩
end Mine
theorem PySem.Challenge.cw_on0172_01_holds : PySem.Challenge.rw_on0172_01.Holds :=
  Mine.head (Mine.linked Mine.law_right)
