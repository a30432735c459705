import PyProof.Rows.All
import HandS.SetFor
import HandS.ForMost
import HandS.Deep
import HandS.IsInst
import HandS.Wide
import HandS.TupAny
import HandS.TupSets
import HandS.SortInts
import HandS.Flow
import HandS.Zip
import HandS.Strs
import HandS.ForDict
import HandS.More
import HandS.ListItems
import HandS.DictTup
import HandS.Ends
import PyProof.ReprRoads
import HandS.Conv
import HandS.Rev
import HandS.Text
import HandS.Codes
import HandS.RaiseMore
import PyProof.ListStr
import HandS.Iter
import HandS.SetKeys
import PyProof.DictMoreH
import HandS.DictComp
import HandS.NoneIn
import KE.GoesMore
import KE.GoesEnum
import HandS.TupLe
import HandS.TupLen
import KE.SortData
import HandS.Style
import PySem.Challenge.RW_edgesaway_k54_indexes
set_option linter.all false
set_option Elab.async false
set_option maxRecDepth 100000
set_option exponentiation.threshold 10000
namespace ZS
open PySem PyProof.Rows L2 PySem.Calls
abbrev nso (w : World) : Obj := { cls := .type "set", dict := none, data := .set #[] 0 (.fresh 0 0 (!w.params.followText "set-order")) }
section
variable {P : Program} {w : World} {A : Around} {E : Value → Shared → Prop} {sh : Shared}
def Filled (w : World) (old : Heap) (z : Addr) (ns : List Int) (sh s2 : Shared) : Prop :=
  ∃ hp tk c, s2 = { sh with heap := hp, toks := tk } ∧ SetR w hp z (fun j => decide (j ∈ ns)) c ∧ c ≤ ns.length ∧ ∀ b o, b ≠ z → old.get? b = some o → hp.get? b = some o
set_option maxHeartbeats 3200700 in
theorem fill_list {z l : Addr} {its : Array Value} {ns : List Int} (hh : A.handled = none) (set0 : sh.heap.get? z = some (nso w)) (hl : sh.heap.IsList l its) (hz : l ≠ z)
    (hi : IntsAre its.toList ns) (few : ns.length + 1 < scanBound) :
    codeAny (model P w) A (.call (.builtin "set.__init__") ⟨[.ref z, .ref l], []⟩) (wants (fun r s2 => r = .none ∧ Filled w sh.heap z ns sh s2) E) sh := by
  have len : its.size = ns.length := by
    have q := hi.length
    rwa [Array.length_toList] at q
  have ty : Shared.TypeIs sh (.ref z) "set" := ⟨_, set0, rfl⟩
  refine codeAny_call_builtin F.called_set.init.plain F.entry_set_init (check_set_init_1 ty ?_)
  obtain ⟨⟨lc, ld, lda, ls⟩, get, cl, cap, dat⟩ := hl
  simp only at cl dat
  subst cl
  subst dat
  have a1 := F.sub_list_set
  have a2 := F.sub_list_frozenset
  have a3 : (Value.type "list" == Value.type "dict") = false := by decide
  have isl : sh.heap.IsList l its := ⟨_, get, rfl, cap, rfl⟩
  unfold Builtin.«set.__init__»; unfold noKeywords Builtin.Frozenset.updateFrom
  generalize kept : pyIter = it0
  wp_walk
  subst kept
  refine (wpAny_pyIter_list isl ?_)
  refine (wpAny_bind (wpAny_runValue ?_))
  have l0 : l < sh.heap.objs.size := Heap.lt_size get
  have z0 : z < sh.heap.objs.size := Heap.lt_size set0
  have calm3 : A.in1.in1.handled = none := by simp [hh]
  have z1 : z ∉ [sh.heap.objs.size, l] := by
    simp only [List.mem_cons, List.not_mem_nil, or_false, not_or]
    exact ⟨Nat.ne_of_lt z0, hz.symm⟩
  have each : ∀ (i : Nat) (v : Value), its[i]? = some v → ∃ k t, ns[i]? = some k ∧ v = .int k t := fun i v hv => by
    have lt : i < ns.length := len ▸ (Array.getElem?_eq_some_iff.mp hv).1
    obtain ⟨t, e⟩ := IntsAre.int_at hi i v (by rwa [Array.getElem?_toList])
    rw [List.getD_eq_getElem?_getD, List.getElem?_eq_getElem lt] at e
    exact ⟨_, t, List.getElem?_eq_getElem lt, e⟩
  refine set_update_ints ((Walks.list calm3 _ l (Nat.ne_of_lt l0) its).toS) z z1 ns len few each its.size 0 _ rfl (Nat.zero_le _)
    ?st ?em ?fin
  case st => exact ⟨⟨_, Heap.get?_push_size _ rfl, rfl, rfl⟩, isl.push _⟩
  case em => exact ⟨0, Nat.le_refl 0, setR_new_at (Heap.get?_push_of_some _ set0)⟩
  intro s2 c mv hc full
  obtain ⟨hp, g2, d2, t2, o2⟩ := s2
  cases (show g2 = sh.gens from mv.gens)
  cases (show d2 = sh.drawn from mv.drawn)
  cases (show o2 = sh.os from mv.os)
  show wpAny _ _ _ _ _ _
  refine wpAny_pure ?_
  show (wpAny _ _ (ret Value.none) _ _ _)
  refine wpAny_pure ⟨rfl, hp, t2, c, rfl, full, len ▸ hc, fun b o ne e => mv.heap b o ?_ (Heap.get?_push_of_some _ e)⟩
  simp only [List.mem_cons, List.not_mem_nil, or_false, not_or]
  exact ⟨ne, Nat.ne_of_lt (Heap.lt_size e)⟩
set_option maxHeartbeats 3200700 in
theorem set_of_list {l : Addr} {its : Array Value} {ns : List Int} {Q : Value → Shared → Prop} (hh : A.handled = none) (hl : sh.heap.IsList l its)
    (hi : IntsAre its.toList ns) (few : ns.length + 1 < scanBound) (q : ∀ s2, Filled w sh.heap sh.heap.objs.size ns sh s2 → Q (.ref sh.heap.objs.size) s2) :
    wpAny (model P w) A (call (.type "set") [.ref l]) Q E sh := by
  obtain ⟨mr, rest, hmro⟩ := F.called_set.mro
  have b1 := F.called_set.made
  have b2 := F.called_set.sub
  refine (wpAny_call (codeAny_of_tree ?_))
  show (wpAny _ _ (callAny (.type "set") _) _ _ _)
  refine wpAny_pure ⟨(Code.quiet_builtin _ (by decide +kernel)), codeAny_builtin F.entry_type_call ?_⟩
  rw [Around.under_plain (weight_type_call_type "set" [Value.ref l] []) rfl]
  have b3 := F.called_set.notType
  have b4 := F.called_set.canCreate
  have b5 := F.typeCall_set_1 (.ref l)
  repeat (any_goals (first | (assumption) | wp_step))
  refine codeAny_mono (code_set_led1 (.ref l) (E := E) (Q₁ := fun v s1 => v = .ref sh.heap.objs.size ∧ s1 = { sh with heap := sh.heap.push (nso w) }) ⟨rfl, rfl⟩) fun r1 s1 h1 => ?_
  cases r1 with
  | error _ => exact h1
  | ok f1 =>
    cases f1 with
    | ret v =>
      obtain ⟨rfl, rfl⟩ := h1
      have at0 : (sh.heap.push (nso w)).get? sh.heap.objs.size = some (nso w) := Heap.get?_push_size _ rfl
      have ty : Shared.TypeIs { sh with heap := sh.heap.push (nso w) } (.ref sh.heap.objs.size) "set" := ⟨_, at0, rfl⟩
      have c1 := F.called_set.init.lookup
      have c2 := F.called_set.init.bind (.ref sh.heap.objs.size)
      repeat (any_goals (first | (assumption) | wp_step))
      have lt : l < sh.heap.objs.size := by
        obtain ⟨o, ho, _⟩ := hl
        exact Heap.lt_size ho
      refine codeAny_mono (fill_list (E := E) (by simp [hh]) at0 (hl.push _) (Nat.ne_of_lt lt) hi few) fun r2 s2 h2 => ?_
      cases r2 with
      | error _ => exact h2
      | ok f2 =>
        cases f2 with
        | ret r =>
          obtain ⟨rfl, hp, tk, c, rfl, full, hc, kept⟩ := h2
          repeat (any_goals (first | (assumption) | wp_step))
          exact q _ ⟨hp, tk, c, rfl, full, hc, fun b o ne e => kept b o ne (Heap.get?_push_of_some _ e)⟩
        | _ => exact h2.elim
    | _ => exact h1.elim
end
end ZS
namespace Z
open PySem.Spec PyProof.Rows L2 PySem

inductive P where
  | non | bl (b : Bool) | int (i : Int) | str (x : Str)
  | tup (xs : List P) | lst (xs : List P) | scr (ns : List Int)
  | dK (ks : List Key) (xs : List P) | dT (ks : List (List Key)) (xs : List P)
inductive D where
  | val (p : P)
  | olst (xs : List D) | otup (xs : List D)
  | odK (ks : List Key) (xs : List D) | odT (ks : List (List Key)) (xs : List D)

mutual
def frz : D → P
  | .val p => p
  | .olst xs => .lst (frzs xs)
  | .otup xs => .tup (frzs xs)
  | .odK ks xs => .dK ks (frzs xs)
  | .odT ks xs => .dT ks (frzs xs)
def frzs : List D → List P
  | [] => []
  | d :: ds => frz d :: frzs ds
end

def mutO : HO → Bool
  | .lst _ | .dK _ | .dT _ | .set _ _ | .ins _ _ _ | .ext _ => true
  | _ => false

def okF (o : HO) : Bool := mutO o || match o with
  | .frz _ (.dK _) | .frz _ (.dT _) => true
  | _ => false
theorem okF_of {o : HO} (h : mutO o = true) : okF o = true := by simp [okF, h]
structure Wd where
  H : Hp
  F : Addr → Prop
  hF : ∀ a, F a → ∃ o, H a = some o ∧ okF o = true

def Kys {κ : Type} (kvs : List (κ × V)) (ks : List κ) : Prop := kvs.map (·.1) = ks ∧ ks.Nodup
mutual
/-- v is the datum p; L: where lists and dicts stand -/
def RepX (K : PySem.W.Frag) (H : Hp) (L : Addr → Prop) : P → V → Prop
  | .non, v => v = .non
  | .bl b, v => v = .bl b
  | .int i, v => v = .int i
  | .str x, v => v = .str x
  | .tup ps, v => ∃ a vs, v = .ref a ∧ H a = some (.tup vs) ∧ RepXs K H L ps vs
  | .lst ps, v => ∃ a vs, v = .ref a ∧ L a ∧ H a = some (.lst vs) ∧ RepXs K H L ps vs
  | .scr ns, v => ∃ a, v = .ref a ∧ ((∃ o, H a = some (.frz o (.lst (ns.map V.int)))) ∨ SqL K (fun _ => none) a (ns.map V.int))
  | .dK ks ps, v => ∃ a kvs, v = .ref a ∧ L a ∧ Rd H a (.dK kvs) ∧ Kys kvs ks ∧ RepXs K H L ps (kvs.map (·.2))
  | .dT ks ps, v => ∃ a kvs, v = .ref a ∧ L a ∧ Rd H a (.dT kvs) ∧ Kys kvs ks ∧ RepXs K H L ps (kvs.map (·.2))
def RepXs (K : PySem.W.Frag) (H : Hp) (L : Addr → Prop) : List P → List V → Prop
  | [], vs => vs = []
  | p :: ps, vs => ∃ v r, vs = v :: r ∧ RepX K H L p v ∧ RepXs K H L ps r
end

abbrev RepP (K : PySem.W.Frag) (w : Wd) : P → V → Prop := RepX K w.H w.F
abbrev RepPs (K : PySem.W.Frag) (w : Wd) : List P → List V → Prop := RepXs K w.H w.F

def RepB (K : PySem.W.Frag) (w : Wd) : P → V → Prop
  | .lst ps, v => ∃ a vs, v = .ref a ∧ w.H a = some (.lst vs) ∧ RepPs K w ps vs
  | .dK ks ps, v => ∃ a kvs, v = .ref a ∧ Rd w.H a (.dK kvs) ∧ Kys kvs ks ∧ RepPs K w ps (kvs.map (·.2))
  | .dT ks ps, v => ∃ a kvs, v = .ref a ∧ Rd w.H a (.dT kvs) ∧ Kys kvs ks ∧ RepPs K w ps (kvs.map (·.2))
  | p, v => RepP K w p v

mutual
def RepD (K : PySem.W.Frag) (w : Wd) : D → V → List Addr → Prop
  | .val p, v, f => f = [] ∧ RepP K w p v
  | .olst ds, v, f => ∃ a vs g, v = .ref a ∧ w.H a = some (.lst vs) ∧ f = a :: g ∧ RepDs K w ds vs g
  | .otup ds, v, f => ∃ a vs, v = .ref a ∧ w.H a = some (.tup vs) ∧ RepDs K w ds vs f
  | .odK ks ds, v, f => ∃ a kvs g, v = .ref a ∧ w.H a = some (.dK kvs) ∧ f = a :: g ∧ Kys kvs ks ∧ RepDs K w ds (kvs.map (·.2)) g
  | .odT ks ds, v, f => ∃ a kvs g, v = .ref a ∧ w.H a = some (.dT kvs) ∧ f = a :: g ∧ Kys kvs ks ∧ RepDs K w ds (kvs.map (·.2)) g
def RepDs (K : PySem.W.Frag) (w : Wd) : List D → List V → List Addr → Prop
  | [], vs, f => vs = [] ∧ f = []
  | d :: ds, vs, f => ∃ v r f1 f2, vs = v :: r ∧ f = f1 ++ f2 ∧ RepD K w d v f1 ∧ RepDs K w ds r f2
end

structure Good (w : Wd) (f : List Addr) : Prop where
  nd : f.Nodup
  own : ∀ a ∈ f, ¬ w.F a ∧ ∃ o, w.H a = some o ∧ mutO o = true

structure Ev (f : List Addr) (w w' : Wd) (f' : List Addr) : Prop where
  fz : ∀ a, w.F a → w'.F a
  keep : ∀ a o, w.H a = some o → a ∉ f → w'.H a = some o
  newF : ∀ a, w'.F a → w.F a ∨ a ∈ f ∨ w.H a = none
  sub : ∀ a ∈ f', a ∈ f ∨ w.H a = none
  there : ∀ a o, w.H a = some o → ∃ o', w'.H a = some o'

variable {K : PySem.W.Frag}

theorem Ev.refl (f : List Addr) (w : Wd) : Ev f w w f := ⟨fun _ h => h, fun _ _ h _ => h, fun _ h => .inl h, fun _ h => .inl h, fun _ o h => ⟨o, h⟩⟩
theorem Ev.trans {f f1 f2 : List Addr} {w w1 w2 : Wd} (a : Ev f w w1 f1) (b : Ev f1 w1 w2 f2) : Ev f w w2 f2 := by
  have hn : ∀ c, w1.H c = none → w.H c = none := fun c h => by
    cases q : w.H c with
    | none => rfl
    | some o =>
      obtain ⟨o', e⟩ := a.there c o q
      rw [h] at e; cases e
  refine ⟨fun c h => b.fz c (a.fz c h), fun c o h nf => b.keep c o (a.keep c o h nf) fun m => ?_, fun c h => ?_, fun c h => ?_, fun c o h => ?_⟩
  · rcases a.sub c m with z | z
    · exact nf z
    · rw [h] at z; cases z
  · rcases b.newF c h with z | z | z
    · exact a.newF c z
    · rcases a.sub c z with y | y
      · exact .inr (.inl y)
      · exact .inr (.inr y)
    · exact .inr (.inr (hn c z))
  · rcases b.sub c h with z | z
    · exact a.sub c z
    · exact .inr (hn c z)
  · obtain ⟨o', e⟩ := a.there c o h
    exact b.there c o' e
theorem Ev.frame {f f1 : List Addr} {w w1 : Wd} (a : Ev f w w1 f1) (g : List Addr) : Ev (f ++ g) w w1 (f1 ++ g) := by
  refine ⟨a.fz, fun c o h nf => a.keep c o h fun m => nf (List.mem_append_left _ m), fun c h => ?_, fun c h => ?_, a.there⟩
  · rcases a.newF c h with z | z | z
    · exact .inl z
    · exact .inr (.inl (List.mem_append_left _ z))
    · exact .inr (.inr z)
  · rcases List.mem_append.mp h with z | z
    · rcases a.sub c z with y | y
      · exact .inl (List.mem_append_left _ y)
      · exact .inr y
    · exact .inl (List.mem_append_right _ z)
theorem Ev.weak {f g f1 : List Addr} {w w1 : Wd} (a : Ev f w w1 f1) (h : ∀ a ∈ f, a ∈ g) : Ev g w w1 f1 :=
  ⟨a.fz, fun c o e n => a.keep c o e fun m => n (h c m), fun c e => (a.newF c e).imp id (Or.imp (h c) id), fun c e => (a.sub c e).imp (h c) id, a.there⟩
theorem Ev.less {f f1 f2 : List Addr} {w w1 : Wd} (a : Ev f w w1 f1) (h : ∀ a ∈ f2, a ∈ f1) : Ev f w w1 f2 :=
  ⟨a.fz, a.keep, a.newF, fun c e => a.sub c (h c e), a.there⟩
theorem Good.frame {f f1 g : List Addr} {w w1 : Wd} (G : Good w (f ++ g)) (a : Ev f w w1 f1) (G1 : Good w1 f1) : Good w1 (f1 ++ g) := by
  obtain ⟨n1, n2, n3⟩ := List.nodup_append.mp G.nd
  have hf : ∀ c ∈ g, c ∉ f := fun c h m => n3 c m c h rfl
  refine ⟨List.nodup_append.mpr ⟨G1.nd, n2, fun c h d h' e => ?_⟩, fun c h => ?_⟩
  · subst e
    obtain ⟨_, o, e, _⟩ := G.own c (List.mem_append_right _ h')
    rcases a.sub c h with z | z
    · exact hf c h' z
    · rw [e] at z; cases z
  · rcases List.mem_append.mp h with z | z
    · exact G1.own c z
    · obtain ⟨nF, o, e, m⟩ := G.own c (List.mem_append_right _ z)
      refine ⟨fun q => ?_, o, a.keep c o e (hf c z), m⟩
      rcases a.newF c q with y | y | y
      · exact nF y
      · exact hf c z y
      · rw [e] at y; cases y
theorem Good.left {w : Wd} {f g : List Addr} (G : Good w (f ++ g)) : Good w f := ⟨(List.nodup_append.mp G.nd).1, fun a h => G.own a (List.mem_append_left _ h)⟩
theorem Good.right {w : Wd} {f g : List Addr} (G : Good w (f ++ g)) : Good w g := ⟨(List.nodup_append.mp G.nd).2.1, fun a h => G.own a (List.mem_append_right _ h)⟩
theorem Good.comm {w : Wd} {f g : List Addr} (G : Good w (f ++ g)) : Good w (g ++ f) :=
  ⟨(List.perm_append_comm.nodup_iff).mp G.nd, fun a h => G.own a (List.mem_append.mpr (Or.comm.mp (List.mem_append.mp h)))⟩
theorem Good.perm {w : Wd} {f g : List Addr} (G : Good w f) (p : f.Perm g) : Good w g := ⟨p.nodup_iff.mp G.nd, fun a h => G.own a (p.mem_iff.mpr h)⟩
theorem Good.sublist {w : Wd} {f g : List Addr} (G : Good w f) (s : g.Sublist f) : Good w g := ⟨G.nd.sublist s, fun a h => G.own a (s.subset h)⟩
theorem Good.nil (w : Wd) : Good w [] := ⟨List.nodup_nil, fun _ h => (nomatch h)⟩

structure Keeps (w w' : Wd) (f : List Addr) : Prop where
  fz : ∀ a, w.F a → w'.F a
  imm : ∀ a o, w.H a = some o → mutO o = false → w'.H a = some o
  fro : ∀ a o, w.H a = some o → w.F a → w'.H a = some o
  own : ∀ a ∈ f, ∀ o, w.H a = some o → w'.H a = some o
theorem tq {H : Hp} {a : Addr} {vs : List V} (h : H a = some (.tup vs)) : SqT K H a vs := .inl (.inl h)
theorem sqT_keeps {w w' : Wd} {a : Addr} {vs : List V} (imm : ∀ a o, w.H a = some o → mutO o = false → w'.H a = some o) (h : SqT K w.H a vs) : SqT K w'.H a vs := by
  rcases h with (h | ⟨ob, h⟩) | h
  · exact .inl (.inl (imm _ _ h rfl))
  · exact .inl (.inr ⟨ob, imm _ _ h rfl⟩)
  · exact .inr h
theorem Keeps.of {w w' : Wd} {S f f' : List Addr} (G : Good w S) (e : Ev S w w' f') (d : ∀ a ∈ f, a ∉ S) : Keeps w w' f where
  fz := e.fz
  imm := fun a o h m => e.keep a o h fun q => by
    obtain ⟨_, o', h', m'⟩ := G.own a q
    rw [h] at h'; cases h'
    rw [m] at m'; cases m'
  fro := fun a o h hf => e.keep a o h fun q => (G.own a q).1 hf
  own := fun a m o h => e.keep a o h (d a m)
theorem Keeps.weak {w w' : Wd} {f g : List Addr} (k : Keeps w w' f) (h : ∀ a ∈ g, a ∈ f) : Keeps w w' g := ⟨k.fz, k.imm, k.fro, fun a m => k.own a (h a m)⟩

mutual
theorem RepP.keeps {w w' : Wd} (k : Keeps w w' []) : ∀ (p : P) (v : V), RepP K w p v → RepP K w' p v
  | .non, v, h => h
  | .bl _, v, h => h
  | .int _, v, h => h
  | .str _, v, h => h
  | .tup ps, v, h => by
    simp only [RepP, RepX] at h ⊢
    obtain ⟨a, vs, e, s, r⟩ := h
    exact ⟨a, vs, e, k.imm a _ s rfl, RepPs.keeps k ps vs r⟩
  | .lst ps, v, h => by
    simp only [RepP, RepX] at h ⊢
    obtain ⟨a, vs, e, l, s, r⟩ := h
    exact ⟨a, vs, e, k.fz a l, k.fro a _ s l, RepPs.keeps k ps vs r⟩
  | .scr ns, v, h => by
    simp only [RepP, RepX] at h ⊢
    obtain ⟨a, e, s⟩ := h
    refine ⟨a, e, ?_⟩
    rcases s with ⟨o, s⟩ | s
    · exact .inl ⟨o, k.imm a _ s rfl⟩
    · exact .inr s
  | .dK ks ps, v, h => by
    simp only [RepP, RepX] at h ⊢
    obtain ⟨a, kvs, e, l, s, q, r⟩ := h
    exact ⟨a, kvs, e, k.fz a l, s.imp (fun s => k.fro a _ s l) (fun ⟨o, s⟩ => ⟨o, k.fro a _ s l⟩), q, RepPs.keeps k ps _ r⟩
  | .dT ks ps, v, h => by
    simp only [RepP, RepX] at h ⊢
    obtain ⟨a, kvs, e, l, s, q, r⟩ := h
    exact ⟨a, kvs, e, k.fz a l, s.imp (fun s => k.fro a _ s l) (fun ⟨o, s⟩ => ⟨o, k.fro a _ s l⟩), q, RepPs.keeps k ps _ r⟩
theorem RepPs.keeps {w w' : Wd} (k : Keeps w w' []) : ∀ (ps : List P) (vs : List V), RepPs K w ps vs → RepPs K w' ps vs
  | [], vs, h => h
  | p :: ps, vs, h => by
    simp only [RepPs, RepXs] at h ⊢
    obtain ⟨v, r, e, h1, h2⟩ := h
    exact ⟨v, r, e, RepP.keeps k p v h1, RepPs.keeps k ps r h2⟩
end
mutual
theorem RepD.keeps {w w' : Wd} : ∀ (d : D) (v : V) (f : List Addr), Keeps w w' f → RepD K w d v f → RepD K w' d v f
  | .val p, v, f, k, h => by
    simp only [RepD] at h ⊢
    exact ⟨h.1, RepP.keeps (k.weak (fun _ m => (nomatch m))) p v h.2⟩
  | .olst ds, v, f, k, h => by
    simp only [RepD] at h ⊢
    obtain ⟨a, vs, g, e, s, q, r⟩ := h
    subst q
    exact ⟨a, vs, g, e, k.own a List.mem_cons_self _ s, rfl, RepDs.keeps ds vs g (k.weak fun b m => List.mem_cons_of_mem _ m) r⟩
  | .otup ds, v, f, k, h => by
    simp only [RepD] at h ⊢
    obtain ⟨a, vs, e, s, r⟩ := h
    exact ⟨a, vs, e, k.imm a _ s rfl, RepDs.keeps ds vs f k r⟩
  | .odK ks ds, v, f, k, h => by
    simp only [RepD] at h ⊢
    obtain ⟨a, vs, g, e, s, q, r1, r⟩ := h
    subst q
    exact ⟨a, vs, g, e, k.own a List.mem_cons_self _ s, rfl, r1, RepDs.keeps ds _ g (k.weak fun b m => List.mem_cons_of_mem _ m) r⟩
  | .odT ks ds, v, f, k, h => by
    simp only [RepD] at h ⊢
    obtain ⟨a, vs, g, e, s, q, r1, r⟩ := h
    subst q
    exact ⟨a, vs, g, e, k.own a List.mem_cons_self _ s, rfl, r1, RepDs.keeps ds _ g (k.weak fun b m => List.mem_cons_of_mem _ m) r⟩
theorem RepDs.keeps {w w' : Wd} : ∀ (ds : List D) (vs : List V) (f : List Addr), Keeps w w' f → RepDs K w ds vs f → RepDs K w' ds vs f
  | [], vs, f, k, h => h
  | d :: ds, vs, f, k, h => by
    simp only [RepDs] at h ⊢
    obtain ⟨v, r, f1, f2, e, q, h1, h2⟩ := h
    subst q
    exact ⟨v, r, f1, f2, e, rfl, RepD.keeps d v f1 (k.weak fun b m => List.mem_append_left _ m) h1, RepDs.keeps ds r f2 (k.weak fun b m => List.mem_append_right _ m) h2⟩
end

def Wd.fz (w : Wd) (f : List Addr) (h : ∀ a ∈ f, ∃ o, w.H a = some o ∧ mutO o = true) : Wd := ⟨w.H, fun a => w.F a ∨ a ∈ f, fun a q => q.elim (w.hF a) fun m => (h a m).imp fun _ z => ⟨z.1, okF_of z.2⟩⟩
mutual
theorem RepX.monoL {H : Hp} {L L' : Addr → Prop} (hl : ∀ a, L a → L' a) : ∀ (p : P) (v : V), RepX K H L p v → RepX K H L' p v
  | .non, v, h => h
  | .bl _, v, h => h
  | .int _, v, h => h
  | .str _, v, h => h
  | .tup ps, v, h => by
    simp only [RepX] at h ⊢
    obtain ⟨a, vs, e, s, r⟩ := h
    exact ⟨a, vs, e, s, RepXs.monoL hl ps vs r⟩
  | .lst ps, v, h => by
    simp only [RepX] at h ⊢
    obtain ⟨a, vs, e, l, s, r⟩ := h
    exact ⟨a, vs, e, hl a l, s, RepXs.monoL hl ps vs r⟩
  | .scr ns, v, h => h
  | .dK ks ps, v, h => by
    simp only [RepX] at h ⊢
    obtain ⟨a, kvs, e, l, s, q, r⟩ := h
    exact ⟨a, kvs, e, hl a l, s, q, RepXs.monoL hl ps _ r⟩
  | .dT ks ps, v, h => by
    simp only [RepX] at h ⊢
    obtain ⟨a, kvs, e, l, s, q, r⟩ := h
    exact ⟨a, kvs, e, hl a l, s, q, RepXs.monoL hl ps _ r⟩
theorem RepXs.monoL {H : Hp} {L L' : Addr → Prop} (hl : ∀ a, L a → L' a) : ∀ (ps : List P) (vs : List V), RepXs K H L ps vs → RepXs K H L' ps vs
  | [], vs, h => h
  | p :: ps, vs, h => by
    simp only [RepXs] at h ⊢
    obtain ⟨v, r, e, h1, h2⟩ := h
    exact ⟨v, r, e, RepX.monoL hl p v h1, RepXs.monoL hl ps r h2⟩
end
mutual
theorem RepD.frz {w w' : Wd} (eH : w'.H = w.H) (hF : ∀ a, w.F a → w'.F a) : ∀ (d : D) (v : V) (f : List Addr), (∀ a ∈ f, w'.F a) → RepD K w d v f → RepP K w' (frz d) v
  | .val p, v, f, k, h => by
    simp only [RepD] at h
    show RepX K w'.H w'.F p v
    rw [eH]
    exact RepX.monoL hF p v h.2
  | .olst ds, v, f, k, h => by
    simp only [RepD] at h
    simp only [Z.frz, RepP, RepX]
    obtain ⟨a, vs, g, e, s, q, r⟩ := h
    subst q
    exact ⟨a, vs, e, k a List.mem_cons_self, by rw [eH]; exact s, RepDs.frz eH hF ds vs g (fun b m => k b (List.mem_cons_of_mem _ m)) r⟩
  | .otup ds, v, f, k, h => by
    simp only [RepD] at h
    simp only [Z.frz, RepP, RepX]
    obtain ⟨a, vs, e, s, r⟩ := h
    exact ⟨a, vs, e, by rw [eH]; exact s, RepDs.frz eH hF ds vs f k r⟩
  | .odK ks ds, v, f, k, h => by
    simp only [RepD] at h
    simp only [Z.frz, RepP, RepX]
    obtain ⟨a, vs, g, e, s, q, r1, r⟩ := h
    subst q
    exact ⟨a, vs, e, k a List.mem_cons_self, by rw [eH]; exact .inl s, r1, RepDs.frz eH hF ds _ g (fun b m => k b (List.mem_cons_of_mem _ m)) r⟩
  | .odT ks ds, v, f, k, h => by
    simp only [RepD] at h
    simp only [Z.frz, RepP, RepX]
    obtain ⟨a, vs, g, e, s, q, r1, r⟩ := h
    subst q
    exact ⟨a, vs, e, k a List.mem_cons_self, by rw [eH]; exact .inl s, r1, RepDs.frz eH hF ds _ g (fun b m => k b (List.mem_cons_of_mem _ m)) r⟩
theorem RepDs.frz {w w' : Wd} (eH : w'.H = w.H) (hF : ∀ a, w.F a → w'.F a) : ∀ (ds : List D) (vs : List V) (f : List Addr), (∀ a ∈ f, w'.F a) → RepDs K w ds vs f → RepPs K w' (frzs ds) vs
  | [], vs, f, k, h => by
    simp only [RepDs] at h
    simp only [Z.frzs, RepPs, RepXs]
    exact h.1
  | d :: ds, vs, f, k, h => by
    simp only [RepDs] at h
    simp only [Z.frzs, RepPs, RepXs]
    obtain ⟨v, r, f1, f2, e, q, h1, h2⟩ := h
    subst q
    exact ⟨v, r, e, RepD.frz eH hF d v f1 (fun b m => k b (List.mem_append_left _ m)) h1, RepDs.frz eH hF ds r f2 (fun b m => k b (List.mem_append_right _ m)) h2⟩
end
theorem Ev.ofFz {w : Wd} {f g : List Addr} (h : ∀ a ∈ f, ∃ o, w.H a = some o ∧ mutO o = true) : Ev (f ++ g) w (w.fz f h) g :=
  ⟨fun _ q => .inl q, fun _ _ q _ => q, fun _ q => q.elim .inl fun m => .inr (.inl (List.mem_append_left _ m)), fun _ m => .inl (List.mem_append_right _ m), fun _ o q => ⟨o, q⟩⟩
theorem Good.ofFz {w : Wd} {f g : List Addr} (G : Good w (f ++ g)) (h : ∀ a ∈ f, ∃ o, w.H a = some o ∧ mutO o = true) : Good (w.fz f h) g :=
  ⟨G.right.nd, fun a m => ⟨fun q => q.elim (G.right.own a m).1 fun z => (List.nodup_append.mp G.nd).2.2 a z a m rfl, (G.right.own a m).2⟩⟩

theorem RepP.toB {w : Wd} : ∀ {p : P} {v : V}, RepP K w p v → RepB K w p v
  | .non, v, h => h
  | .bl _, v, h => h
  | .int _, v, h => h
  | .str _, v, h => h
  | .tup ps, v, h => h
  | .scr ps, v, h => h
  | .lst ps, v, h => by
    simp only [RepP, RepX] at h
    obtain ⟨a, vs, e, l, s, r⟩ := h
    exact ⟨a, vs, e, s, r⟩
  | .dK ks ps, v, h => by
    simp only [RepP, RepX] at h
    obtain ⟨a, kvs, e, l, s, q, r⟩ := h
    exact ⟨a, kvs, e, s, q, r⟩
  | .dT ks ps, v, h => by
    simp only [RepP, RepX] at h
    obtain ⟨a, kvs, e, l, s, q, r⟩ := h
    exact ⟨a, kvs, e, s, q, r⟩

theorem RepPs.length {w : Wd} : ∀ {ps : List P} {vs : List V}, RepPs K w ps vs → ps.length = vs.length
  | [], vs, h => by
    simp only [RepPs, RepXs] at h
    rw [h] <;> rfl
  | p :: ps, vs, h => by
    simp only [RepPs, RepXs] at h
    obtain ⟨v, r, e, h1, h2⟩ := h
    rw [e]
    simp only [List.length_cons, RepPs.length (ps := ps) h2]
theorem RepPs.get {w : Wd} : ∀ {ps : List P} {vs : List V} {i : Nat} {p : P}, RepPs K w ps vs → ps[i]? = some p → ∃ v, vs[i]? = some v ∧ RepP K w p v
  | [], vs, i, p, h, e => by simp at e
  | q :: ps, vs, 0, p, h, e => by
    simp only [RepPs, RepXs] at h
    obtain ⟨v, r, e1, h1, h2⟩ := h
    subst e1
    have e2 : q = p := by simpa using e
    subst e2
    exact ⟨v, rfl, h1⟩
  | q :: ps, vs, i + 1, p, h, e => by
    simp only [RepPs, RepXs] at h
    obtain ⟨v, r, e1, h1, h2⟩ := h
    subst e1
    obtain ⟨v', a, b⟩ := RepPs.get (i := i) h2 (by simpa using e)
    exact ⟨v', by simpa using a, b⟩
theorem RepPs.append {w : Wd} : ∀ {ps qs : List P} {vs us : List V}, RepPs K w ps vs → RepPs K w qs us → RepPs K w (ps ++ qs) (vs ++ us)
  | [], qs, vs, us, h, g => by
    simp only [RepPs, RepXs] at h
    rw [h]; exact g
  | p :: ps, qs, vs, us, h, g => by
    simp only [RepPs, RepXs] at h
    obtain ⟨v, r, e1, h1, h2⟩ := h
    subst e1
    simp only [RepPs, List.cons_append, RepXs]
    exact ⟨v, r ++ us, rfl, h1, RepPs.append (ps := ps) h2 g⟩
theorem RepPs.sub {w : Wd} : ∀ {ps : List P} {vs : List V}, RepPs K w ps vs → ∀ n : Nat, RepPs K w (ps.drop n) (vs.drop n) ∧ RepPs K w (ps.take n) (vs.take n)
  | [], vs, h, n => by
    simp only [RepPs, RepXs] at h
    rw [h]; simp [RepPs, RepXs]
  | p :: ps, vs, h, 0 => ⟨by simpa using h, by simp [RepPs, RepXs]⟩
  | p :: ps, vs, h, n + 1 => by
    simp only [RepPs, RepXs] at h
    obtain ⟨v, r, e1, h1, h2⟩ := h
    subst e1
    obtain ⟨a, b⟩ := RepPs.sub (ps := ps) h2 n
    refine ⟨by simpa using a, ?_⟩
    simp only [List.take_succ_cons, RepPs, RepXs]
    exact ⟨v, _, rfl, h1, b⟩
theorem RepPs.vals {w : Wd} : ∀ {ps : List P} {vs : List V}, RepPs K w ps vs → RepDs K w (ps.map D.val) vs []
  | [], vs, h => by
    simp only [RepPs, RepXs] at h
    simp [RepDs, h]
  | p :: ps, vs, h => by
    simp only [RepPs, RepXs] at h
    obtain ⟨v, r, e1, h1, h2⟩ := h
    simp only [List.map_cons, RepDs, RepD]
    exact ⟨v, r, [], [], e1, rfl, ⟨rfl, h1⟩, RepPs.vals (ps := ps) h2⟩
def allV : List D → Option (List P)
  | [] => some []
  | .val p :: ds => (allV ds).map (p :: ·)
  | _ :: _ => none
theorem allV_spec : ∀ {ds : List D} {ps : List P}, allV ds = some ps → ds = ps.map D.val
  | [], ps, h => by simp [allV] at h; subst h; rfl
  | .val p :: ds, ps, h => by
    simp only [allV, Option.map_eq_some_iff] at h
    obtain ⟨qs, h1, h2⟩ := h
    subst h2
    rw [allV_spec (ds := ds) h1]; rfl
  | .olst _ :: _, ps, h => by simp [allV] at h
  | .otup _ :: _, ps, h => by simp [allV] at h
  | .odK _ _ :: _, ps, h => by simp [allV] at h
  | .odT _ _ :: _, ps, h => by simp [allV] at h
@[simp] theorem allV_map : ∀ ps : List P, allV (ps.map D.val) = some ps
  | [] => rfl
  | p :: ps => by simp [allV, allV_map ps]
theorem RepDs.ofVals {w : Wd} : ∀ {ps : List P} {vs : List V} {f : List Addr}, RepDs K w (ps.map D.val) vs f → f = [] ∧ RepPs K w ps vs
  | [], vs, f, h => by
    simp only [List.map_nil, RepDs] at h
    simp [RepPs, RepXs, h.1, h.2]
  | p :: ps, vs, f, h => by
    simp only [List.map_cons, RepDs, RepD] at h
    obtain ⟨v, r, f1, f2, e, q, ⟨h1, h2⟩, h3⟩ := h
    obtain ⟨e2, h4⟩ := RepDs.ofVals (ps := ps) h3
    subst h1 e2
    refine ⟨q, ?_⟩
    simp only [RepPs, RepXs]
    exact ⟨v, r, e, h2, h4⟩
theorem RepDs.length {w : Wd} : ∀ {ds : List D} {vs : List V} {f : List Addr}, RepDs K w ds vs f → ds.length = vs.length
  | [], vs, f, h => by
    simp only [RepDs] at h
    rw [h.1] <;> rfl
  | d :: ds, vs, f, h => by
    simp only [RepDs] at h
    obtain ⟨v, r, f1, f2, e, q, h1, h2⟩ := h
    rw [e]
    simp only [List.length_cons, RepDs.length (ds := ds) h2]
end Z
namespace Z
open PySem.Spec PyProof.Rows L2 PySem
variable {K : PySem.W.Frag}
abbrev St := L2.St

inductive Sl where
  | un | hol | loc (d : D) | par (d : D)
abbrev Env := List Sl
abbrev M (α : Type) := Env → Option (α × Env)

def SlR (K : PySem.W.Frag) (w : Wd) : Sl → Option V → Option V → List Addr → Prop
  | .un, _, _, f => f = []
  | .hol, o₀, o, f => f = [] ∧ o₀ = o
  | .loc d, _, o, f => ∃ v, o = some v ∧ RepD K w d v f
  | .par d, o₀, o, f => ∃ v, o₀ = some v ∧ o = some v ∧ RepD K w d v f
def EnvR (K : PySem.W.Frag) (w : Wd) : Env → St → St → List Addr → Prop
  | [], σ₀, σ, f => σ₀ = [] ∧ σ = [] ∧ f = []
  | s :: e, σ₀, σ, f => ∃ o₀ r₀ o r f1 f2, σ₀ = o₀ :: r₀ ∧ σ = o :: r ∧ f = f1 ++ f2 ∧ SlR K w s o₀ o f1 ∧ EnvR K w e r₀ r f2

theorem SlR.keeps {w w' : Wd} {s : Sl} {o₀ o : Option V} {f : List Addr} (k : Keeps w w' f) (h : SlR K w s o₀ o f) : SlR K w' s o₀ o f := by
  cases s with
  | un => exact h
  | hol => exact h
  | loc d =>
    obtain ⟨v, e, h⟩ := h
    exact ⟨v, e, h.keeps d v f k⟩
  | par d =>
    obtain ⟨v, e, e', h⟩ := h
    exact ⟨v, e, e', h.keeps d v f k⟩
theorem EnvR.keeps {w w' : Wd} : ∀ {e : Env} {σ₀ σ : St} {f : List Addr}, Keeps w w' f → EnvR K w e σ₀ σ f → EnvR K w' e σ₀ σ f
  | [], σ₀, σ, f, k, h => h
  | s :: e, σ₀, σ, f, k, h => by
    simp only [EnvR] at h ⊢
    obtain ⟨o₀, r₀, o, r, f1, f2, e1, e2, e3, h1, h2⟩ := h
    subst e3
    exact ⟨o₀, r₀, o, r, f1, f2, e1, e2, rfl, h1.keeps (k.weak fun b m => List.mem_append_left _ m), EnvR.keeps (k.weak fun b m => List.mem_append_right _ m) h2⟩
theorem EnvR.len {w : Wd} : ∀ {e : Env} {σ₀ σ : St} {f : List Addr}, EnvR K w e σ₀ σ f → σ₀.length = e.length ∧ σ.length = e.length
  | [], σ₀, σ, f, h => by
    obtain ⟨h1, h2, h3⟩ := h
    simp [h1, h2]
  | s :: e, σ₀, σ, f, h => by
    simp only [EnvR] at h
    obtain ⟨o₀, r₀, o, r, f1, f2, e1, e2, e3, h1, h2⟩ := h
    obtain ⟨a, b⟩ := EnvR.len h2
    simp [e1, e2, a, b]
theorem EnvR.at {w : Wd} : ∀ {e : Env} {σ₀ σ : St} {f : List Addr} {i : Nat} {s : Sl}, EnvR K w e σ₀ σ f → e[i]? = some s →
    ∃ o₀ o f1 fi f2, σ₀[i]? = some o₀ ∧ σ[i]? = some o ∧ f = f1 ++ (fi ++ f2) ∧ SlR K w s o₀ o fi ∧
      ∀ w' s' o' fi', Keeps w w' (f1 ++ f2) → SlR K w' s' o₀ o' fi' → EnvR K w' (e.set i s') σ₀ (σ.set i o') (f1 ++ (fi' ++ f2))
  | [], _, _, _, i, s, h, e => by simp at e
  | t :: e, σ₀, σ, f, 0, s, h, q => by
    simp only [EnvR] at h
    obtain ⟨o₀, r₀, o, r, f1, f2, e1, e2, e3, h1, h2⟩ := h
    have q' : t = s := by simpa using q
    subst q' e1 e2 e3
    refine ⟨o₀, o, [], f1, f2, rfl, rfl, rfl, h1, fun w' s' o' fi' k h' => ?_⟩
    simp only [List.set_cons_zero, List.nil_append, EnvR]
    exact ⟨o₀, r₀, o', r, fi', f2, rfl, rfl, rfl, h', h2.keeps k⟩
  | t :: e, σ₀, σ, f, i + 1, s, h, q => by
    simp only [EnvR] at h
    obtain ⟨o₀, r₀, o, r, f1, f2, e1, e2, e3, h1, h2⟩ := h
    obtain ⟨p₀, p, g1, gi, g2, a1, a2, a3, a4, a5⟩ := EnvR.at (i := i) (s := s) h2 (by simpa using q)
    subst e1 e2 e3 a3
    refine ⟨p₀, p, f1 ++ g1, gi, g2, by simpa using a1, by simpa using a2, by simp, a4, fun w' s' o' fi' k h' => ?_⟩
    simp only [List.set_cons_succ, EnvR]
    refine ⟨o₀, r₀, o, r.set i o', f1, g1 ++ (fi' ++ g2), rfl, rfl, by simp, h1.keeps (k.weak fun b m => ?_), a5 w' s' o' fi' (k.weak fun b m => ?_) h'⟩
    · simp [m]
    · rcases List.mem_append.mp m with z | z <;> simp [z]
theorem EnvR.act {w : Wd} {e : Env} {σ₀ σ : St} {f : List Addr} {i : Nat} {s : Sl} (E : EnvR K w e σ₀ σ f) (G : Good w f) (h : e[i]? = some s) :
    ∃ o₀ o fi, σ₀[i]? = some o₀ ∧ σ[i]? = some o ∧ SlR K w s o₀ o fi ∧ Good w fi ∧ (∀ a ∈ fi, a ∈ f) ∧
      ∀ w' s' o' fi' fv, Ev fi w w' (fi' ++ fv) → Good w' (fi' ++ fv) → SlR K w' s' o₀ o' fi' →
        ∃ f', EnvR K w' (e.set i s') σ₀ (σ.set i o') f' ∧ Ev f w w' (f' ++ fv) ∧ Good w' (f' ++ fv) := by
  obtain ⟨o₀, o, f1, fi, f2, h1, h2, h3, h4, h5⟩ := E.at h
  subst h3
  have pm : (f1 ++ (fi ++ f2)).Perm (fi ++ (f1 ++ f2)) := by
    rw [← List.append_assoc]; rw [← List.append_assoc]
    exact List.Perm.append_right f2 List.perm_append_comm
  have G' := G.perm pm
  refine ⟨o₀, o, fi, h1, h2, h4, G'.left, fun a m => by simp [m], fun w' s' o' fi' fv ev g r => ?_⟩
  have ne : ∀ a ∈ f1 ++ f2, a ∉ fi := fun a m q => (List.nodup_append.mp G'.nd).2.2 a q a m rfl
  refine ⟨f1 ++ (fi' ++ f2), h5 w' s' o' fi' (Keeps.of G'.left ev ne) r, ?_, ?_⟩
  · refine ((ev.frame (f1 ++ f2)).weak fun a m => ?_).less fun a m => ?_
    · exact (pm.mem_iff).mpr m
    · simp only [List.mem_append] at m ⊢
      rcases m with (z | z | z) | z <;> simp [z]
  · refine (G'.frame ev g).perm ?_
    show ((fi' ++ fv) ++ (f1 ++ f2)).Perm ((f1 ++ (fi' ++ f2)) ++ fv)
    refine (List.perm_append_comm).trans ?_
    rw [List.append_assoc]; rw [List.append_assoc]; rw [List.append_assoc]
    refine List.Perm.append_left f1 ?_
    have z : (f2 ++ (fi' ++ fv)).Perm (fi' ++ (f2 ++ fv)) := by
      rw [← List.append_assoc]; rw [← List.append_assoc]
      exact List.Perm.append_right fv List.perm_append_comm
    first | exact z | (rw [List.append_assoc]; exact z)
  
def JE (K : PySem.W.Frag) (t : TE) (m : M D) : Prop :=
  ∀ (σ₀ σ : St) (w : Wd) (e : Env) (f : List Addr) (Q : VK) (d : D) (e' : Env), EnvR K w e σ₀ σ f → Good w f → m e = some (d, e') →
    (∀ v w' fe fv, Ev f w w' (fe ++ fv) → Good w' (fe ++ fv) → EnvR K w' e' σ₀ σ fe → RepD K w' d v fv → Q v w'.H) → t σ w.H Q
def JP (K : PySem.W.Frag) (t : TE) (m : M P) : Prop :=
  ∀ (σ₀ σ : St) (w : Wd) (e : Env) (f : List Addr) (Q : VK) (d : P) (e' : Env), EnvR K w e σ₀ σ f → Good w f → m e = some (d, e') →
    (∀ v w' fe, Ev f w w' fe → Good w' fe → EnvR K w' e' σ₀ σ fe → RepP K w' d v → Q v w'.H) → t σ w.H Q
def JB (K : PySem.W.Frag) (t : TE) (m : M P) : Prop :=
  ∀ (σ₀ σ : St) (w : Wd) (e : Env) (f : List Addr) (Q : VK) (d : P) (e' : Env), EnvR K w e σ₀ σ f → Good w f → m e = some (d, e') →
    (∀ v w' fe, Ev f w w' fe → Good w' fe → EnvR K w' e' σ₀ σ fe → RepB K w' d v → Q v w'.H) → t σ w.H Q
def JT (K : PySem.W.Frag) (t : TT) (m : M Bool) : Prop :=
  ∀ (σ₀ σ : St) (w : Wd) (e : Env) (f : List Addr) (Q : Bool → Hp → Prop) (b : Bool) (e' : Env), EnvR K w e σ₀ σ f → Good w f → m e = some (b, e') →
    (∀ w' fe, Ev f w w' fe → Good w' fe → EnvR K w' e' σ₀ σ fe → Q b w'.H) → t σ w.H Q

def mP (m : M D) : M P := fun e => (m e).map fun x => (frz x.1, x.2)
def mV (m : M P) : M D := fun e => (m e).map fun x => (.val x.1, x.2)

theorem EnvR.fz {w : Wd} {e : Env} {σ₀ σ : St} {fe fv : List Addr} (E : EnvR K w e σ₀ σ fe) (G : Good w (fe ++ fv)) (h : ∀ a ∈ fv, ∃ o, w.H a = some o ∧ mutO o = true) : EnvR K (w.fz fv h) e σ₀ σ fe := by
  have ev : Ev (fv ++ fe) w (w.fz fv h) fe := Ev.ofFz h
  exact E.keeps ⟨ev.fz, fun _ _ q _ => q, fun _ _ q _ => q, fun _ _ _ q => q⟩
theorem JE.toP {t : TE} {m : M D} (h : JE K t m) : JP K t (mP m) := by
  intro σ₀ σ w e f Q d e' E G hm hq
  simp only [mP, Option.map_eq_some_iff] at hm
  obtain ⟨⟨d0, e0⟩, h1, h2⟩ := hm
  cases h2
  refine h σ₀ σ w e f Q d0 e0 E G h1 fun v w' fe fv ev g E' r => ?_
  have ht : ∀ a ∈ fv, ∃ o, w'.H a = some o ∧ mutO o = true := fun a m => (g.own a (List.mem_append_right _ m)).2
  have g2 := g.comm
  have ev2 : Ev (fv ++ fe) w' (w'.fz fv ht) fe := Ev.ofFz ht
  refine hq v (w'.fz fv ht) fe (ev.trans (ev2.weak fun a m => ?_)) (g2.ofFz ht) (E'.fz g ht) (RepD.frz (w := w') (w' := w'.fz fv ht) rfl (fun _ q => .inl q) _ _ _ (fun a m => .inr m) r)
  exact List.mem_append.mpr (Or.comm.mp (List.mem_append.mp m))
theorem JP.toE {t : TE} {m : M P} (h : JP K t m) : JE K t (mV m) := by
  intro σ₀ σ w e f Q d e' E G hm hq
  simp only [mV, Option.map_eq_some_iff] at hm
  obtain ⟨⟨d0, e0⟩, h1, h2⟩ := hm
  cases h2
  refine h σ₀ σ w e f Q d0 e0 E G h1 fun v w' fe ev g E' r => ?_
  exact hq v w' fe [] (by simpa using ev) (by simpa using g) E' ⟨rfl, r⟩
theorem JP.toB {t : TE} {m : M P} (h : JP K t m) : JB K t m := fun σ₀ σ w e f Q d e' E G hm hq =>
  h σ₀ σ w e f Q d e' E G hm fun v w' fe ev g E' r => hq v w' fe ev g E' r.toB

theorem fin {w0 w w' : Wd} {e : Env} {σ₀ σ : St} {f fe fv : List Addr} (ev : Ev f w0 w fe) (g : Good w fe) (E : EnvR K w e σ₀ σ fe) (ev2 : Ev [] w w' fv) (g2 : Good w' fv) :
    Ev f w0 w' (fe ++ fv) ∧ Good w' (fe ++ fv) ∧ EnvR K w' e σ₀ σ fe := by
  have a := ev2.frame fe
  have b : Good w' (fv ++ fe) := Good.frame (f := []) (g := fe) (by simpa using g) ev2 g2
  refine ⟨ev.trans ((a.weak fun c m => by simpa using m).less fun c m => ?_), b.comm, E.keeps (Keeps.of (Good.nil w) ev2 fun _ _ => by simp)⟩
  exact List.mem_append.mpr (Or.comm.mp (List.mem_append.mp m))
theorem RepP.ev {w w' : Wd} {S f' : List Addr} {p : P} {v : V} (r : RepP K w p v) (G : Good w S) (e : Ev S w w' f') : RepP K w' p v := r.keeps (Keeps.of G e fun _ m => (nomatch m)) p v

def mC (p : P) : M P := fun e => some (p, e)
theorem jc {v : V} {p : P} (h : ∀ w : Wd, RepP K w p v) : JP K (tC v) (mC p) := by
  intro σ₀ σ w e f Q d e' E G hm hq
  simp only [mC, Option.some.injEq, Prod.mk.injEq] at hm
  obtain ⟨rfl, rfl⟩ := hm
  exact hq v w f (Ev.refl f w) G E (h w)
theorem jc_int (i : Int) : JP K (tC (.int i)) (mC (.int i)) := jc fun _ => rfl
theorem jc_str (x : Str) : JP K (tC (.str x)) (mC (.str x)) := jc fun _ => rfl
theorem jc_bl (b : Bool) : JP K (tC (.bl b)) (mC (.bl b)) := jc fun _ => rfl
theorem jc_non : JP K (tC .non) (mC .non) := jc fun _ => rfl

def Sl.with (s : Sl) (d : D) : Sl := match s with
  | .par _ => .par d
  | _ => .loc d
def Sl.dat : Sl → Option D
  | .loc d => some d
  | .par d => some d
  | _ => none
theorem Sl.datR {w : Wd} {s : Sl} {o₀ o : Option V} {fi : List Addr} {d : D} (h : SlR K w s o₀ o fi) (e : s.dat = some d) :
    ∃ v, o = some v ∧ RepD K w d v fi ∧ ∀ w' d' f', RepD K w' d' v f' → SlR K w' (s.with d') o₀ o f' := by
  cases s with
  | un => cases e
  | hol => cases e
  | loc d0 =>
    cases e
    obtain ⟨v, q, r⟩ := h
    exact ⟨v, q, r, fun w' d' f' r' => ⟨v, q, r'⟩⟩
  | par d0 =>
    cases e
    obtain ⟨v, q0, q, r⟩ := h
    exact ⟨v, q, r, fun w' d' f' r' => ⟨v, q0, q, r'⟩⟩
theorem set_same {α : Type} : ∀ {l : List α} {i : Nat} {x : α}, l[i]? = some x → l.set i x = l
  | [], _, _, h => by simp at h
  | a :: l, 0, x, h => by simp at h; simp [h]
  | a :: l, i + 1, x, h => by simp at h; simp [set_same h]
def mN (i : Nat) : M P := fun e => match e[i]? with
  | some (.loc (.val p)) => some (p, e)
  | some (.par (.val p)) => some (p, e)
  | some s => match s.dat with
    | some d => some (frz d, e.set i (s.with (.val (frz d))))
    | none => none
  | none => none
theorem jn (i : Nat) : JP K (tVar i) (mN i) := by
  intro σ₀ σ w e f Q p e' E G hm hq
  have key : ∀ s d, e[i]? = some s → s.dat = some d → p = frz d → (e' = e ∧ d = .val p ∨ e' = e.set i (s.with (.val (frz d)))) → tVar i σ w.H Q := by
    intro s d hs hd hp he
    obtain ⟨o₀, o, fi, h1, h2, h3, h4, h5, h6⟩ := E.act G hs
    obtain ⟨v, q, r, rr⟩ := Sl.datR h3 hd
    subst q
    refine ⟨v, h2, ?_⟩
    rcases he with ⟨he, hv⟩ | he
    · subst he hv
      simp only [RepD] at r
      exact hq v w f (Ev.refl f w) G E r.2
    · have ht : ∀ a ∈ fi, ∃ o, w.H a = some o ∧ mutO o = true := fun a m => (h4.own a m).2
      have ev : Ev fi w (w.fz fi ht) [] := by simpa using Ev.ofFz (g := []) ht
      have r2 : RepP K (w.fz fi ht) (frz d) v := RepD.frz (w := w) (w' := w.fz fi ht) rfl (fun _ q => .inl q) _ _ _ (fun a m => .inr m) r
      obtain ⟨f', E', ev', g'⟩ := h6 (w.fz fi ht) (s.with (.val (frz d))) (some v) [] [] ev (Good.nil _) (rr _ _ _ ⟨rfl, r2⟩)
      rw [set_same h2] at E'
      subst he hp
      exact hq v (w.fz fi ht) f' (by simpa using ev') (by simpa using g') E' r2
  unfold mN at hm
  split at hm
  · rename_i q hs
    simp only [Option.some.injEq, Prod.mk.injEq] at hm
    obtain ⟨rfl, rfl⟩ := hm
    exact key _ (.val q) hs rfl rfl (.inl ⟨rfl, rfl⟩)
  · rename_i q hs
    simp only [Option.some.injEq, Prod.mk.injEq] at hm
    obtain ⟨rfl, rfl⟩ := hm
    exact key _ (.val q) hs rfl rfl (.inl ⟨rfl, rfl⟩)
  · rename_i s n1 n2 hs
    split at hm
    · rename_i d hd
      simp only [Option.some.injEq, Prod.mk.injEq] at hm
      obtain ⟨rfl, rfl⟩ := hm
      exact key _ d hs hd rfl (.inr rfl)
    · cases hm
  · cases hm
def viewD : D → Option P
  | .val p => some p
  | .olst ds => (allV ds).map .lst
  | .odK ks ds => (allV ds).map (.dK ks)
  | .odT ks ds => (allV ds).map (.dT ks)
  | .otup _ => none
def mW (i : Nat) : M P := fun e => match e[i]?.bind Sl.dat with
  | some d => (viewD d).map fun p => (p, e)
  | none => none
theorem viewD_rep {w : Wd} {d : D} {p : P} {v : V} {f : List Addr} (h : viewD d = some p) (r : RepD K w d v f) : RepB K w p v := by
  cases d with
  | val q =>
    cases h
    exact RepP.toB r.2
  | olst ds =>
    simp only [viewD, Option.map_eq_some_iff] at h
    obtain ⟨ps, h1, h2⟩ := h
    subst h2
    rw [allV_spec h1] at r
    simp only [RepD] at r
    obtain ⟨a, vs, g, e1, e2, e3, e4⟩ := r
    exact ⟨a, vs, e1, e2, (RepDs.ofVals e4).2⟩
  | odK ks ds =>
    simp only [viewD, Option.map_eq_some_iff] at h
    obtain ⟨ps, h1, h2⟩ := h
    subst h2
    rw [allV_spec h1] at r
    simp only [RepD] at r
    obtain ⟨a, vs, g, e1, e2, e3, e4, e5⟩ := r
    exact ⟨a, vs, e1, .inl e2, e4, (RepDs.ofVals e5).2⟩
  | odT ks ds =>
    simp only [viewD, Option.map_eq_some_iff] at h
    obtain ⟨ps, h1, h2⟩ := h
    subst h2
    rw [allV_spec h1] at r
    simp only [RepD] at r
    obtain ⟨a, vs, g, e1, e2, e3, e4, e5⟩ := r
    exact ⟨a, vs, e1, .inl e2, e4, (RepDs.ofVals e5).2⟩
  | otup ds => cases h
theorem jw (i : Nat) : JB K (tVar i) (mW i) := by
  intro σ₀ σ w e f Q p e' E G hm hq
  unfold mW at hm
  split at hm
  · rename_i d hd
    simp only [Option.map_eq_some_iff, Prod.mk.injEq] at hm
    obtain ⟨p', h1, rfl, rfl⟩ := hm
    obtain ⟨s, hs, hd⟩ := Option.bind_eq_some_iff.mp hd
    obtain ⟨o₀, o, fi, g1, g2, g3, g4, g5, g6⟩ := E.act G hs
    obtain ⟨v, q, r, rr⟩ := Sl.datR g3 hd
    subst q
    exact ⟨v, g2, hq v w f (Ev.refl f w) G E (viewD_rep h1 r)⟩
  · cases hm
end Z
namespace Z
open PySem.Spec PyProof.Rows L2 PySem
variable {K : PySem.W.Frag}

inductive Ar where
  | v (d : D) | r (i : Nat)
def ArsR (K : PySem.W.Frag) (w : Wd) (σ : St) : List Ar → List V → List Addr → Prop
  | [], vs, f => vs = [] ∧ f = []
  | .v d :: as, vs, f => ∃ v r f1 f2, vs = v :: r ∧ f = f1 ++ f2 ∧ RepD K w d v f1 ∧ ArsR K w σ as r f2
  | .r i :: as, vs, f => ∃ v r, vs = v :: r ∧ σ[i]? = some (some v) ∧ ArsR K w σ as r f
def JA (K : PySem.W.Frag) (t : TA) (m : M (List Ar)) : Prop :=
  ∀ (σ₀ σ : St) (w : Wd) (e : Env) (f : List Addr) (Q : List V → Hp → Prop) (as : List Ar) (e' : Env), EnvR K w e σ₀ σ f → Good w f → m e = some (as, e') →
    (∀ vs w' fe fv, Ev f w w' (fe ++ fv) → Good w' (fe ++ fv) → EnvR K w' e' σ₀ σ fe → ArsR K w' σ as vs fv → Q vs w'.H) → t σ w.H Q
def mAnil : M (List Ar) := fun e => some ([], e)
def mAe (m : M D) (n : M (List Ar)) : M (List Ar) := fun e => (m e).bind fun x => (n x.2).map fun y => (.v x.1 :: y.1, y.2)
def mAn (i : Nat) (n : M (List Ar)) : M (List Ar) := fun e => match e[i]?.bind Sl.dat with
  | some _ => (n e).map fun y => (.r i :: y.1, y.2)
  | none => none
theorem ja_nil : JA K tNil mAnil := by
  intro σ₀ σ w e f Q as e' E G hm hq
  simp only [mAnil, Option.some.injEq, Prod.mk.injEq] at hm
  obtain ⟨rfl, rfl⟩ := hm
  exact hq [] w f [] (by simpa using Ev.refl f w) (by simpa using G) E ⟨rfl, rfl⟩
theorem ja_e {ta : TE} {t : TA} {m : M D} {n : M (List Ar)} (h1 : JE K ta m) (h2 : JA K t n) : JA K (tCons ta t) (mAe m n) := by
  intro σ₀ σ w e f Q as e' E G hm hq
  simp only [mAe, Option.bind_eq_some_iff, Option.map_eq_some_iff] at hm
  obtain ⟨⟨d, e1⟩, h3, ⟨as', e2⟩, h4, h5⟩ := hm
  cases h5
  refine h1 σ₀ σ w e f _ d e1 E G h3 fun v w1 fe fv ev g E1 r => ?_
  refine h2 σ₀ σ w1 e1 fe _ as' e2 E1 g.left h4 fun vs w2 fe2 fv2 ev2 g2 E2 rs => ?_
  have ne : ∀ a ∈ fv, a ∉ fe := fun a m q => (List.nodup_append.mp g.nd).2.2 a q a m rfl
  have g3 := Good.frame g ev2 g2
  refine hq (v :: vs) w2 fe2 (fv ++ fv2) (ev.trans ((ev2.frame fv).less fun a m => ?_)) (g3.perm ?_) E2 ⟨v, vs, fv, fv2, rfl, rfl, r.keeps d v fv (Keeps.of g.left ev2 ne), rs⟩
  · simp only [List.mem_append] at m ⊢
    rcases m with z | z | z <;> simp [z]
  · rw [List.append_assoc]
    exact List.Perm.append_left fe2 List.perm_append_comm
theorem ja_n (i : Nat) {t : TA} {n : M (List Ar)} (h2 : JA K t n) : JA K (tCons (tVar i) t) (mAn i n) := by
  intro σ₀ σ w e f Q as e' E G hm hq
  unfold mAn at hm
  split at hm
  · rename_i d hd
    simp only [Option.map_eq_some_iff] at hm
    obtain ⟨⟨as', e2⟩, h4, h5⟩ := hm
    cases h5
    obtain ⟨s, hs, hd⟩ := Option.bind_eq_some_iff.mp hd
    obtain ⟨o₀, o, fi, g1, g2, g3, _⟩ := E.act G hs
    obtain ⟨v, q, r, rr⟩ := Sl.datR g3 hd
    subst q
    refine ⟨v, g2, ?_⟩
    refine h2 σ₀ σ w e f _ as' e2 E G h4 fun vs w2 fe2 fv2 ev2 gg E2 rs => ?_
    exact hq (v :: vs) w2 fe2 fv2 ev2 gg E2 ⟨v, vs, rfl, g2, rs⟩
  · cases hm

def Sl.out : Sl → Sl
  | .par _ => .hol
  | _ => .un
def takeR : List Ar → Env → Option (List D × Env)
  | [], e => some ([], e)
  | .v d :: as, e => (takeR as e).map fun x => (d :: x.1, x.2)
  | .r i :: as, e => match e[i]? with
    | some s => match s.dat with
      | some (.val p) => (takeR as e).map fun x => (.val p :: x.1, x.2)
      | some d => (takeR as (e.set i s.out)).map fun x => (d :: x.1, x.2)
      | none => none
    | none => none
def putR : List Ar → List D → Env → Option Env
  | [], [], e => some e
  | .v _ :: as, _ :: ds, e => putR as ds e
  | .r i :: as, d :: ds, e => match e[i]? with
    | some .hol => putR as ds (e.set i (.par d))
    | some .un => putR as ds (e.set i (.loc d))
    | some _ => putR as ds e
    | none => none
  | _, _, _ => none
theorem SlR.out {w : Wd} {s : Sl} {o₀ o : Option V} {fi : List Addr} {d : D} (h : SlR K w s o₀ o fi) (hd : s.dat = some d) : SlR K w s.out o₀ o [] := by
  cases s with
  | un => cases hd
  | hol => cases hd
  | loc d => rfl
  | par d =>
    obtain ⟨v, a, b, _⟩ := h
    exact ⟨rfl, by rw [a, b]⟩
theorem take_ok {w : Wd} {σ₀ σ : St} : ∀ {as : List Ar} {e : Env} {vs : List V} {fe fv : List Addr} {ds : List D} {e2 : Env}, EnvR K w e σ₀ σ fe → ArsR K w σ as vs fv → takeR as e = some (ds, e2) →
    ∃ fe2 fd, EnvR K w e2 σ₀ σ fe2 ∧ RepDs K w ds vs fd ∧ (fe ++ fv).Perm (fe2 ++ fd)
  | [], e, vs, fe, fv, ds, e2, E, A, h => by
    simp only [takeR, Option.some.injEq, Prod.mk.injEq] at h
    obtain ⟨rfl, rfl⟩ := h
    obtain ⟨rfl, rfl⟩ := A
    exact ⟨fe, [], E, ⟨rfl, rfl⟩, List.Perm.refl _⟩
  | .v d :: as, e, vs, fe, fv, ds, e2, E, A, h => by
    simp only [takeR, Option.map_eq_some_iff] at h
    obtain ⟨⟨ds', e3⟩, h1, h2⟩ := h
    cases h2
    obtain ⟨v, r, f1, f2, rfl, rfl, rd, A⟩ := A
    obtain ⟨fe2, fd, E2, R2, p⟩ := take_ok E A h1
    refine ⟨fe2, f1 ++ fd, E2, ⟨v, r, f1, fd, rfl, rfl, rd, R2⟩, ?_⟩
    have q : (fe ++ (f1 ++ f2)).Perm (f1 ++ (fe ++ f2)) := by
      rw [← List.append_assoc]; rw [← List.append_assoc]
      exact List.Perm.append_right f2 List.perm_append_comm
    have q2 : (f1 ++ (fe2 ++ fd)).Perm (fe2 ++ (f1 ++ fd)) := by
      rw [← List.append_assoc]; rw [← List.append_assoc]
      exact List.Perm.append_right fd List.perm_append_comm
    exact q.trans ((List.Perm.append_left f1 p).trans q2)
  | .r i :: as, e, vs, fe, fv, ds, e2, E, A, h => by
    obtain ⟨v, r, rfl, hv, A⟩ := A
    simp only [takeR] at h
    split at h
    · rename_i s hs
      obtain ⟨o₀, o, f1, fi, f2, h1, h2, h3, h4, h5⟩ := E.at hs
      rw [hv] at h2; cases h2
      split at h
      · rename_i p hd
        rw [Option.map_eq_some_iff] at h
        obtain ⟨⟨ds', e3⟩, h6, h7⟩ := h
        cases h7
        obtain ⟨fe2, fd, E2, R2, pp⟩ := take_ok E A h6
        obtain ⟨v', q, rd, rr⟩ := Sl.datR h4 hd
        cases q
        simp only [RepD] at rd
        refine ⟨fe2, fd, E2, ⟨v, r, [], fd, rfl, rfl, ⟨rfl, rd.2⟩, R2⟩, pp⟩
      · rename_i d hd hn
        rw [Option.map_eq_some_iff] at h
        obtain ⟨⟨ds', e3⟩, h6, h7⟩ := h
        cases h7
        obtain ⟨v', q, rd, rr⟩ := Sl.datR h4 hn
        cases q
        have E' := h5 w s.out (some v) [] ⟨fun _ z => z, fun _ _ z _ => z, fun _ _ z _ => z, fun _ _ _ z => z⟩ (h4.out hn)
        rw [set_same hv] at E'
        obtain ⟨fe2, fd, E2, R2, pp⟩ := take_ok E' A h6
        refine ⟨fe2, fi ++ fd, E2, ⟨v, r, fi, fd, rfl, rfl, rd, R2⟩, ?_⟩
        subst h3
        have q : ((f1 ++ (fi ++ f2)) ++ fv).Perm (fi ++ ((f1 ++ ([] ++ f2)) ++ fv)) := by
          rw [List.nil_append, ← List.append_assoc fi]
          refine List.Perm.append_right fv ?_
          rw [← List.append_assoc]; rw [← List.append_assoc]
          exact List.Perm.append_right f2 List.perm_append_comm
        have q2 : (fi ++ (fe2 ++ fd)).Perm (fe2 ++ (fi ++ fd)) := by
          rw [← List.append_assoc]; rw [← List.append_assoc]
          exact List.Perm.append_right fd List.perm_append_comm
        exact q.trans ((List.Perm.append_left fi pp).trans q2)
      · cases h
    · cases h
theorem put_ok {w w0 : Wd} {σ₀ σ : St} : ∀ {as : List Ar} {e : Env} {vs : List V} {fe fv fa : List Addr} {ds : List D} {e2 : Env}, EnvR K w e σ₀ σ fe → ArsR K w0 σ as vs fv → RepDs K w ds vs fa → putR as ds e = some e2 →
    ∃ fe2 g, EnvR K w e2 σ₀ σ fe2 ∧ (fe ++ fa).Perm (fe2 ++ g)
  | [], e, vs, fe, fv, fa, ds, e2, E, A, R, h => by
    cases ds with
    | nil =>
      simp only [putR, Option.some.injEq] at h
      subst h
      exact ⟨fe, fa, E, List.Perm.refl _⟩
    | cons d ds => simp [putR] at h
  | .v d :: as, e, vs, fe, fv, fa, ds, e2, E, A, R, h => by
    cases ds with
    | nil => simp [putR] at h
    | cons d ds =>
      obtain ⟨v, r, f1, f2, rfl, rfl, rd, A⟩ := A
      obtain ⟨v', r', g1, g2, e1, rfl, rd', R⟩ := R
      cases e1
      obtain ⟨fe2, g, E2, p⟩ := put_ok E A R (show putR as ds e = some e2 from h)
      refine ⟨fe2, g ++ g1, E2, ?_⟩
      have q : (fe ++ (g1 ++ g2)).Perm ((fe ++ g2) ++ g1) := by
        rw [List.append_assoc]
        exact List.Perm.append_left fe List.perm_append_comm
      exact q.trans ((List.Perm.append_right g1 p).trans (by rw [List.append_assoc]))
  | .r i :: as, e, vs, fe, fv, fa, ds, e2, E, A, R, h => by
    cases ds with
    | nil => simp [putR] at h
    | cons d ds =>
      obtain ⟨v, r, rfl, hv, A⟩ := A
      obtain ⟨v', r', g1, g2, e1, rfl, rd', R⟩ := R
      cases e1
      simp only [putR] at h
      have drop : ∀ {e2 : Env}, putR as ds e = some e2 → ∃ fe2 g, EnvR K w e2 σ₀ σ fe2 ∧ (fe ++ (g1 ++ g2)).Perm (fe2 ++ g) := fun {e2} h => by
        obtain ⟨fe2, g, E2, p⟩ := put_ok E A R h
        refine ⟨fe2, g ++ g1, E2, ?_⟩
        have q : (fe ++ (g1 ++ g2)).Perm ((fe ++ g2) ++ g1) := by
          rw [List.append_assoc]
          exact List.Perm.append_left fe List.perm_append_comm
        exact q.trans ((List.Perm.append_right g1 p).trans (by rw [List.append_assoc]))
      have put : ∀ (s s' : Sl) {e2 : Env}, e[i]? = some s → (∀ o₀ fi, SlR K w s o₀ (some v) fi → fi = [] ∧ SlR K w s' o₀ (some v) g1) → putR as ds (e.set i s') = some e2 →
          ∃ fe2 g, EnvR K w e2 σ₀ σ fe2 ∧ (fe ++ (g1 ++ g2)).Perm (fe2 ++ g) := fun s s' {e2} hs hh h => by
        obtain ⟨o₀, o, f1, fi, f2, h1, h2, h3, h4, h5⟩ := E.at hs
        rw [hv] at h2; cases h2
        obtain ⟨e0, h6⟩ := hh _ _ h4
        subst e0
        have E' := h5 w s' (some v) g1 ⟨fun _ z => z, fun _ _ z _ => z, fun _ _ z _ => z, fun _ _ _ z => z⟩ h6
        rw [set_same hv] at E'
        obtain ⟨fe2, g, E2, p⟩ := put_ok E' A R h
        refine ⟨fe2, g, E2, ?_⟩
        subst h3
        refine List.Perm.trans ?_ p
        simp only [List.nil_append, List.append_assoc]
        refine List.Perm.append_left f1 ?_
        rw [← List.append_assoc]; rw [← List.append_assoc]
        exact List.Perm.append_right g2 List.perm_append_comm
      split at h
      · rename_i hs
        exact put .hol (.par d) hs (fun o₀ fi q => ⟨q.1, v, q.2, rfl, rd'⟩) h
      · rename_i hs
        exact put .un (.loc d) hs (fun o₀ fi q => ⟨q, v, rfl, rd'⟩) h
      · exact drop h
      · cases h

abbrev Gf := List D → Option (D × List D)
def spF (K : PySem.W.Frag) (g : Gf) : Sp := fun vs H Q _ => ∃ (w : Wd) (ds : List D) (f : List Addr) (d : D) (ds' : List D), w.H = H ∧ RepDs K w ds vs f ∧ Good w f ∧ g ds = some (d, ds') ∧
  ∀ v w' fa fr, Ev f w w' (fa ++ fr) → Good w' (fa ++ fr) → RepDs K w' ds' vs fa → RepD K w' d v fr → Q v w'.H
def mCall (g : Gf) (m : M (List Ar)) : M D := fun e => (m e).bind fun x => (takeR x.1 x.2).bind fun y => (g y.1).bind fun z => (putR x.1 z.2 y.2).map fun e3 => (z.1, e3)
theorem je_call {t : TA} {m : M (List Ar)} {g : Gf} {E : XK} (h : JA K t m) : JE K (tCall (spF K g) [] E t) (mCall g m) := by
  intro σ₀ σ w e f Q d e' En G hm hq
  simp only [mCall, Option.bind_eq_some_iff, Option.map_eq_some_iff] at hm
  obtain ⟨⟨as, e1⟩, h1, ⟨ds, e2⟩, h2, ⟨d', ds'⟩, h3, e3, h4, h5⟩ := hm
  cases h5
  refine h σ₀ σ w e f _ as e1 En G h1 fun vs w1 fe fv ev g1 E1 A => ?_
  obtain ⟨fe2, fd, E2, R2, p⟩ := take_ok E1 A h2
  have g2 : Good w1 (fe2 ++ fd) := g1.perm p
  rw [List.append_nil]
  refine ⟨w1, ds, fd, d', ds', rfl, R2, g2.right, h3, fun v w2 fa fr ev2 g3 R3 r => ?_⟩
  have ne : ∀ a ∈ fe2, a ∉ fd := fun a m q => (List.nodup_append.mp g2.nd).2.2 a m a q rfl
  have E3 := E2.keeps (Keeps.of g2.right ev2 ne)
  obtain ⟨fe3, gg, E4, p2⟩ := put_ok E3 A R3 h4
  have g4 : Good w2 ((fa ++ fr) ++ fe2) := Good.frame g2.comm ev2 g3
  have p3 : ((fa ++ fr) ++ fe2).Perm ((fe3 ++ fr) ++ gg) := by
    have a1 : ((fa ++ fr) ++ fe2).Perm ((fe2 ++ fa) ++ fr) := by
      refine List.perm_append_comm.trans ?_
      rw [List.append_assoc]
    refine a1.trans ((List.Perm.append_right fr p2).trans ?_)
    rw [List.append_assoc]; rw [List.append_assoc]
    exact List.Perm.append_left fe3 List.perm_append_comm
  refine hq v w2 fe3 fr (ev.trans (((ev2.frame fe2).weak fun a m => ?_).less fun a m => ?_)) (g4.perm p3).left E4 r
  · exact (p.mem_iff).mpr (List.mem_append.mpr (Or.comm.mp (List.mem_append.mp m)))
  · exact (p3.mem_iff).mpr (List.mem_append_left _ m)

inductive Out where
  | nx | bk | ct | ret (d : D)
abbrev MS := Env → Option (Out × Env)
def Post (K : PySem.W.Frag) (σ₀ : St) (w : Wd) (f : List Addr) (D : Ends) (o : Out) (e' : Env) : Prop :=
  match o with
  | .nx => ∀ σ' w' f', Ev f w w' f' → Good w' f' → EnvR K w' e' σ₀ σ' f' → D.nx σ' w'.H
  | .bk => ∀ σ' w' f', Ev f w w' f' → Good w' f' → EnvR K w' e' σ₀ σ' f' → D.bk σ' w'.H
  | .ct => ∀ σ' w' f', Ev f w w' f' → Good w' f' → EnvR K w' e' σ₀ σ' f' → D.ct σ' w'.H
  | .ret d => ∀ v σ' w' fe fv, Ev f w w' (fe ++ fv) → Good w' (fe ++ fv) → EnvR K w' e' σ₀ σ' fe → RepD K w' d v fv → D.rt v w'.H
def JS (K : PySem.W.Frag) (t : TS) (m : MS) : Prop :=
  ∀ (σ₀ σ : St) (w : Wd) (e : Env) (f : List Addr) (D : Ends) (o : Out) (e' : Env), EnvR K w e σ₀ σ f → Good w f → m e = some (o, e') → Post K σ₀ w f D o e' → t D σ w.H
theorem Post.from {σ₀ : St} {w w1 : Wd} {f f1 : List Addr} {D : Ends} {o : Out} {e' : Env} (h : Post K σ₀ w f D o e') (ev : Ev f w w1 f1) : Post K σ₀ w1 f1 D o e' := by
  cases o with
  | nx => exact fun σ' w' f' ev2 g E => h σ' w' f' (ev.trans ev2) g E
  | bk => exact fun σ' w' f' ev2 g E => h σ' w' f' (ev.trans ev2) g E
  | ct => exact fun σ' w' f' ev2 g E => h σ' w' f' (ev.trans ev2) g E
  | ret d => exact fun v σ' w' fe fv ev2 g E r => h v σ' w' fe fv (ev.trans ev2) g E r
def sNil : MS := fun e => some (.nx, e)
def sSeq (a b : MS) : MS := fun e => match a e with
  | some (.nx, e1) => b e1
  | r => r
def sIf (c : M Bool) (a b : MS) : MS := fun e => (c e).bind fun x => if x.1 = true then a x.2 else b x.2
def sRet (m : M D) : MS := fun e => (m e).map fun x => (.ret x.1, x.2)
def sDrop (m : M D) : MS := fun e => (m e).map fun x => (.nx, x.2)
def sBrk : MS := fun e => some (.bk, e)
def sCon : MS := fun e => some (.ct, e)
theorem js_nil : JS K tNext sNil := by
  intro σ₀ σ w e f D o e' E G hm hp
  simp only [sNil, Option.some.injEq, Prod.mk.injEq] at hm
  obtain ⟨rfl, rfl⟩ := hm
  exact hp σ w f (Ev.refl f w) G E
theorem js_brk : JS K tBreak sBrk := by
  intro σ₀ σ w e f D o e' E G hm hp
  simp only [sBrk, Option.some.injEq, Prod.mk.injEq] at hm
  obtain ⟨rfl, rfl⟩ := hm
  exact hp σ w f (Ev.refl f w) G E
theorem js_con : JS K tCont sCon := by
  intro σ₀ σ w e f D o e' E G hm hp
  simp only [sCon, Option.some.injEq, Prod.mk.injEq] at hm
  obtain ⟨rfl, rfl⟩ := hm
  exact hp σ w f (Ev.refl f w) G E
theorem js_seq {t u : TS} {a b : MS} (h1 : JS K t a) (h2 : JS K u b) : JS K (tSeq t u) (sSeq a b) := by
  intro σ₀ σ w e f D o e' E G hm hp
  unfold sSeq at hm
  split at hm
  · rename_i e1 h3
    refine h1 σ₀ σ w e f _ .nx e1 E G h3 fun σ' w' f' ev g E' => ?_
    exact h2 σ₀ σ' w' e1 f' D o e' E' g hm (hp.from ev)
  · rename_i r hr
    refine h1 σ₀ σ w e f _ o e' E G hm ?_
    cases o with
    | nx => exact absurd hm (hr e')
    | bk => exact hp
    | ct => exact hp
    | ret d => exact hp
theorem js_if {c : TT} {t u : TS} {m : M Bool} {a b : MS} (h0 : JT K c m) (h1 : JS K t a) (h2 : JS K u b) : JS K (tIfS c t u) (sIf m a b) := by
  intro σ₀ σ w e f D o e' E G hm hp
  simp only [sIf, Option.bind_eq_some_iff] at hm
  obtain ⟨⟨x, e1⟩, h3, h4⟩ := hm
  refine h0 σ₀ σ w e f _ x e1 E G h3 fun w' fe ev g E' => ?_
  cases x with
  | true =>
    rw [if_pos rfl] at h4 ⊢
    exact h1 σ₀ σ w' e1 fe D o e' E' g h4 (hp.from ev)
  | false =>
    simp only [Bool.false_eq_true, if_false] at h4 ⊢
    exact h2 σ₀ σ w' e1 fe D o e' E' g h4 (hp.from ev)
theorem js_ret {t : TE} {m : M D} (h : JE K t m) : JS K (tRet t) (sRet m) := by
  intro σ₀ σ w e f D o e' E G hm hp
  simp only [sRet, Option.map_eq_some_iff] at hm
  obtain ⟨⟨x, e1⟩, h3, h4⟩ := hm
  cases h4
  exact h σ₀ σ w e f _ x e1 E G h3 fun v w' fe fv ev g E' r => hp v σ w' fe fv ev g E' r
theorem js_expr {t : TE} {m : M D} (h : JE K t m) : JS K (tDrop t) (sDrop m) := by
  intro σ₀ σ w e f D o e' E G hm hp
  simp only [sDrop, Option.map_eq_some_iff] at hm
  obtain ⟨⟨x, e1⟩, h3, h4⟩ := hm
  cases h4
  exact h σ₀ σ w e f _ x e1 E G h3 fun v w' fe fv ev g E' r => hp σ w' fe (ev.less fun a m => List.mem_append_left _ m) g.left E'

def But (cs : List Nat) (σ σ' : St) : Prop := σ'.length = σ.length ∧ ∀ i, i ∉ cs → σ'[i]? = σ[i]?
theorem But.refl (cs : List Nat) (σ : St) : But cs σ σ := ⟨rfl, fun _ _ => rfl⟩
theorem But.trans {cs ds : List Nat} {σ σ1 σ2 : St} (a : But cs σ σ1) (b : But ds σ1 σ2) : But (cs ++ ds) σ σ2 :=
  ⟨b.1.trans a.1, fun i h => (b.2 i fun m => h (List.mem_append_right _ m)).trans (a.2 i fun m => h (List.mem_append_left _ m))⟩
abbrev MG := D → Env → Option Env
def JG (K : PySem.W.Frag) (cs : List Nat) (t : TG) (m : MG) : Prop :=
  ∀ (σ₀ σ : St) (w : Wd) (e : Env) (f fv : List Addr) (v : V) (d : D) (Q : St → Hp → Prop) (e' : Env), EnvR K w e σ₀ σ f → Good w (f ++ fv) → RepD K w d v fv → m d e = some e' →
    (∀ σ' w' f', But cs σ σ' → Ev (f ++ fv) w w' f' → Good w' f' → EnvR K w' e' σ₀ σ' f' → Q σ' w'.H) → t v σ w.H Q
def JGs (K : PySem.W.Frag) (cs : List Nat) (t : TGs) (m : List D → Env → Option Env) : Prop :=
  ∀ (σ₀ σ : St) (w : Wd) (e : Env) (f fv : List Addr) (vs : List V) (ds : List D) (Q : St → Hp → Prop) (e' : Env), EnvR K w e σ₀ σ f → Good w (f ++ fv) → RepDs K w ds vs fv → m ds e = some e' →
    (∀ σ' w' f', But cs σ σ' → Ev (f ++ fv) w w' f' → Good w' f' → EnvR K w' e' σ₀ σ' f' → Q σ' w'.H) → t vs σ w.H Q
def gN (i : Nat) : MG := fun d e => match e[i]? with
  | some _ => some (e.set i (.loc d))
  | none => none
theorem jg_name (i : Nat) : JG K [i] (gName i) (gN i) := by
  intro σ₀ σ w e f fv v d Q e' E G R hm hq
  unfold gN at hm
  split at hm
  · rename_i s hs
    cases hm
    obtain ⟨o₀, o, f1, fi, f2, h1, h2, h3, h4, h5⟩ := E.at hs
    have E' := h5 w (.loc d) (some v) fv ⟨fun _ z => z, fun _ _ z _ => z, fun _ _ z _ => z, fun _ _ _ z => z⟩ ⟨v, rfl, R⟩
    subst h3
    have p : ((f1 ++ (fi ++ f2)) ++ fv).Perm ((f1 ++ (fv ++ f2)) ++ fi) := by
      simp only [List.append_assoc]
      refine List.Perm.append_left f1 ?_
      rw [← List.append_assoc]
      refine List.perm_append_comm.trans ?_
      exact List.Perm.append_left fv List.perm_append_comm
    have G' := G.perm p
    refine hq (σ.set i (some v)) w _ ⟨by simp, fun j hj => ?_⟩ ((Ev.refl _ w).less fun a m => (p.mem_iff).mpr (List.mem_append_left _ m)) G'.left E'
    rw [List.getElem?_set_ne]
    exact fun z => hj (by simp [z])
  · cases hm
def gsNil : List D → Env → Option Env := fun ds e => match ds with
  | [] => some e
  | _ => none
def gsCons (g : MG) (h : List D → Env → Option Env) : List D → Env → Option Env := fun ds e => match ds with
  | d :: ds => (g d e).bind fun e1 => h ds e1
  | [] => none
theorem jgs_nil : JGs K [] gNil gsNil := by
  intro σ₀ σ w e f fv vs ds Q e' E G R hm hq
  cases ds with
  | nil =>
    cases hm
    obtain ⟨rfl, rfl⟩ := R
    exact ⟨rfl, hq σ w f (But.refl _ _) (by simpa using Ev.refl f w) (by simpa using G) E⟩
  | cons d ds => cases hm
theorem jgs_cons {t : TG} {u : TGs} {g : MG} {h : List D → Env → Option Env} {cs ks : List Nat} (h1 : JG K cs t g) (h2 : JGs K ks u h) : JGs K (cs ++ ks) (gCons t u) (gsCons g h) := by
  intro σ₀ σ w e f fv vs ds Q e' E G R hm hq
  cases ds with
  | nil => cases hm
  | cons d ds =>
    simp only [gsCons, Option.bind_eq_some_iff] at hm
    obtain ⟨e1, h3, h4⟩ := hm
    obtain ⟨v, r, f1, f2, rfl, rfl, rd, R⟩ := R
    have G1 : Good w ((f ++ f1) ++ f2) := by rw [List.append_assoc]; exact G
    refine ⟨v, r, rfl, h1 σ₀ σ w e f f1 v d _ e1 E G1.left rd h3 fun σ' w' f' bt ev g E' => ?_⟩
    have ne : ∀ a ∈ f2, a ∉ f ++ f1 := fun a m q => (List.nodup_append.mp G1.nd).2.2 a q a m rfl
    refine h2 σ₀ σ' w' e1 f' f2 r ds _ e' E' (G1.frame ev g) (R.keeps ds r f2 (Keeps.of G1.left ev ne)) h4 fun σ2 w2 f3 bt2 ev2 g2 E2 => ?_
    refine hq σ2 w2 f3 (bt.trans bt2) (Ev.trans (f1 := f' ++ f2) ?_ ev2) g2 E2
    exact (ev.frame f2).weak fun a m => by rw [List.append_assoc] at m; exact m
def gT (h : List D → Env → Option Env) : MG := fun d e => match d with
  | .val (.tup ps) => h (ps.map .val) e
  | .otup ds => h ds e
  | _ => none
theorem gsNil_len : ∀ ds e e', gsNil ds e = some e' → ds.length = 0 := fun ds e e' h => by
  cases ds with
  | nil => rfl
  | cons d ds => cases h
theorem gsCons_len {g : MG} {h : List D → Env → Option Env} {n : Nat} (hl : ∀ ds e e', h ds e = some e' → ds.length = n) : ∀ ds e e', gsCons g h ds e = some e' → ds.length = n + 1 := fun ds e e' q => by
  cases ds with
  | nil => cases q
  | cons d ds =>
    simp only [gsCons, Option.bind_eq_some_iff] at q
    obtain ⟨e1, h3, h4⟩ := q
    simp [hl _ _ _ h4]
theorem jg_tup {n : Nat} {t : TGs} {h : List D → Env → Option Env} {cs : List Nat} (h1 : JGs K cs t h) (hn : ∀ ds e e', h ds e = some e' → ds.length = n) : JG K cs (gTup K n t) (gT h) := by
  intro σ₀ σ w e f fv v d Q e' E G R hm hq
  unfold gT at hm
  split at hm
  · rename_i ps
    simp only [RepD, RepP, RepX] at R
    obtain ⟨rfl, a, vs, rfl, hs, hr⟩ := R
    have hr' := RepPs.vals hr
    refine ⟨a, vs, rfl, tq hs, ?_, h1 σ₀ σ w e f [] vs _ Q e' E G hr' hm hq⟩
    rw [← hr'.length]
    exact hn _ _ _ hm
  · rename_i ds
    simp only [RepD] at R
    obtain ⟨a, vs, rfl, hs, hr⟩ := R
    refine ⟨a, vs, rfl, tq hs, ?_, h1 σ₀ σ w e f fv vs _ Q e' E G hr hm hq⟩
    rw [← hr.length]
    exact hn _ _ _ hm
  · cases hm
def sAsg (m : M D) (g : MG) : MS := fun e => (m e).bind fun x => (g x.1 x.2).map fun e2 => (.nx, e2)
theorem js_asg {t : TE} {u : TG} {m : M D} {g : MG} {cs : List Nat} (h1 : JE K t m) (h2 : JG K cs u g) : JS K (tAsg t u) (sAsg m g) := by
  intro σ₀ σ w e f D o e' E G hm hp
  simp only [sAsg, Option.bind_eq_some_iff, Option.map_eq_some_iff] at hm
  obtain ⟨⟨x, e1⟩, h3, e2, h4, h5⟩ := hm
  cases h5
  refine h1 σ₀ σ w e f _ x e1 E G h3 fun v w' fe fv ev g E' r => ?_
  exact h2 σ₀ σ w' e1 fe fv v x _ e' E' g r h4 fun σ2 w2 f2 _ ev2 g2 E2 => hp σ2 w2 f2 (ev.trans ev2) g2 E2

def outs : List D → Env → Option (List D)
  | [], _ => some []
  | .val p :: ds, _ :: e => (outs ds e).map (.val p :: ·)
  | _ :: ds, .par d :: e => (outs ds e).map (d :: ·)
  | _, _ => none
def fnM (np n : Nat) (body : MS) : Gf := fun ds => if ds.length = np then
    match body (ds.map .par ++ List.replicate (n - np) .un) with
    | some (.ret d, e) => (outs ds e).map fun ds' => (d, ds')
    | some (.nx, e) => (outs ds e).map fun ds' => (.val .non, ds')
    | _ => none
  else none
theorem env_un {w : Wd} : ∀ (n : Nat), EnvR K w (List.replicate n .un) (List.replicate n none) (List.replicate n none) []
  | 0 => ⟨rfl, rfl, rfl⟩
  | n + 1 => ⟨none, _, none, _, [], [], rfl, rfl, rfl, rfl, env_un n⟩
theorem env_start {w : Wd} (n : Nat) : ∀ {ds : List D} {vs : List V} {f : List Addr}, RepDs K w ds vs f → EnvR K w (ds.map .par ++ List.replicate n .un) (vs.map some ++ List.replicate n none) (vs.map some ++ List.replicate n none) f
  | [], vs, f, h => by
    obtain ⟨rfl, rfl⟩ := h
    exact env_un n
  | d :: ds, vs, f, h => by
    obtain ⟨v, r, f1, f2, rfl, rfl, h1, h2⟩ := h
    exact ⟨some v, _, some v, _, f1, f2, rfl, rfl, rfl, ⟨v, rfl, rfl, h1⟩, env_start n h2⟩
theorem outs_ok {w w' : Wd} (kp : Keeps w w' []) : ∀ {ds : List D} {vs : List V} {σ₀ σ : St} {e : Env} {f0 f : List Addr} {ds' : List D} {rest : St}, RepDs K w ds vs f0 → σ₀ = vs.map some ++ rest → EnvR K w' e σ₀ σ f → outs ds e = some ds' →
    ∃ fa g, RepDs K w' ds' vs fa ∧ f.Perm (fa ++ g)
  | [], vs, σ₀, σ, e, f0, f, ds', rest, R, hs, E, h => by
    cases h
    obtain ⟨rfl, rfl⟩ := R
    exact ⟨[], f, ⟨rfl, rfl⟩, List.Perm.refl _⟩
  | d :: ds, vs, σ₀, σ, e, f0, f, ds', rest, R, hs, E, h => by
    obtain ⟨v, r, f1, f2, rfl, rfl, rd, R⟩ := R
    cases e with
    | nil =>
      cases d <;> simp [outs] at h
    | cons s e =>
      simp only [EnvR] at E
      obtain ⟨o₀, r₀, o, rr, g1, g2, e1, e2, rfl, hsl, E⟩ := E
      rw [hs] at e1
      simp only [List.map_cons, List.cons_append, List.cons.injEq] at e1
      obtain ⟨rfl, hr⟩ := e1
      have go : ∀ {ds2 : List D} {d2 : D} {gg : List Addr}, outs ds e = some ds2 → (RepD K w' d2 v gg) → (∃ k, g1.Perm (gg ++ k)) → ∃ fa g, RepDs K w' (d2 :: ds2) (v :: r) fa ∧ (g1 ++ g2).Perm (fa ++ g) := fun {ds2 d2 gg} h1 h2 h3 => by
        obtain ⟨fa, g, h4, h5⟩ := outs_ok kp R hr.symm E h1
        obtain ⟨k, h3⟩ := h3
        refine ⟨gg ++ fa, k ++ g, ⟨v, r, gg, fa, rfl, rfl, h2, h4⟩, ?_⟩
        refine (List.Perm.append h3 h5).trans ?_
        simp only [List.append_assoc]
        refine List.Perm.append_left gg ?_
        rw [← List.append_assoc]; rw [← List.append_assoc]
        exact List.Perm.append_right g List.perm_append_comm
      have par : ∀ {d2 : D} {ds2 : List D}, s = .par d2 → outs ds e = some ds2 → ∃ fa g, RepDs K w' (d2 :: ds2) (v :: r) fa ∧ (g1 ++ g2).Perm (fa ++ g) := fun {d2 ds2} hs2 h1 => by
        subst hs2
        obtain ⟨v', a, b, c⟩ := hsl
        cases a
        exact go h1 c ⟨[], by simp⟩
      cases d with
      | val p =>
        simp only [outs, Option.map_eq_some_iff] at h
        obtain ⟨ds2, h1, rfl⟩ := h
        simp only [RepD] at rd
        exact go h1 (d2 := .val p) (gg := []) ⟨rfl, rd.2.keeps kp p v⟩ ⟨g1, by simp⟩
      | olst ds0 =>
        cases s with
        | par d2 =>
          simp only [outs, Option.map_eq_some_iff] at h
          obtain ⟨ds2, h1, rfl⟩ := h
          exact par rfl h1
        | _ => simp [outs] at h
      | otup ds0 =>
        cases s with
        | par d2 =>
          simp only [outs, Option.map_eq_some_iff] at h
          obtain ⟨ds2, h1, rfl⟩ := h
          exact par rfl h1
        | _ => simp [outs] at h
      | odK ks ds0 =>
        cases s with
        | par d2 =>
          simp only [outs, Option.map_eq_some_iff] at h
          obtain ⟨ds2, h1, rfl⟩ := h
          exact par rfl h1
        | _ => simp [outs] at h
      | odT ks ds0 =>
        cases s with
        | par d2 =>
          simp only [outs, Option.map_eq_some_iff] at h
          obtain ⟨ds2, h1, rfl⟩ := h
          exact par rfl h1
        | _ => simp [outs] at h
theorem fnM_len {np n : Nat} {body : MS} {ds : List D} {r : D × List D} (h : fnM np n body ds = some r) : ds.length = np := by
  unfold fnM at h
  split at h
  · assumption
  · cases h
theorem fn_ok {Pg : Program} {w : World} {mg : Str → Option Value} {base : Heap} {x qual : Str} {st : Stmt} {f : Addr} {fd : FuncData} {N ps : List Str} {k np n : Nat} {body : MS} (F : Fun K x qual st f fd) (S : FnScope N ps (defScope st)) (hp : ps.length = np) (hn : N.length = n)
    (hb : ∀ (cdv : Value) (A : Around) (outer : List PySem.Env) (s : Shared) (H : Hp) (E : XK), Room k (A.deeper (envOfC qual (defScope st) s.heap.objs.size f cdv)) →
      ∃ t, PSs (cxOf CX0 Pg w K mg base N qual (defScope st) f cdv A outer s H E).nox (defBody st) t ∧ JS K t body) :
    FnOk Pg w K mg base CX0 (k + 1) f fd ps (spF K (fnM np n body)) := by
  refine F.ok S (fun vs H Q E h => ?_) fun cdv A outer s H vs Q E hr h => ?_
  · obtain ⟨w, ds, f, d, ds', e, R, G, hg, _⟩ := h
    rw [← R.length, hp]
    exact fnM_len hg
  · obtain ⟨w1, ds, fp, d, ds', e, R, G, hg, q⟩ := h
    obtain ⟨t, hps, hj⟩ := hb cdv A outer s H E hr
    refine ⟨t, hps, ?_⟩
    subst e
    have hl := fnM_len hg
    have E0 : EnvR K w1 (ds.map .par ++ List.replicate (n - np) .un) (L2.start N vs) (L2.start N vs) fp := by
      unfold L2.start
      rw [hn, ← R.length, hl]
      exact env_start _ R
    have hst : L2.start N vs = vs.map some ++ List.replicate (N.length - vs.length) none := rfl
    unfold fnM at hg
    rw [if_pos hl] at hg
    split at hg
    · rename_i d0 e0 h0
      simp only [Option.map_eq_some_iff] at hg
      obtain ⟨ds2, h1, h2⟩ := hg
      cases h2
      refine hj _ _ w1 _ fp _ (.ret d) e0 E0 G h0 fun v σ' w' fe fv ev g E' r => ?_
      obtain ⟨fa, gg, h3, h4⟩ := outs_ok (Keeps.of G ev fun _ m => (nomatch m)) R hst E' h1
      have p : (fe ++ fv).Perm ((fa ++ fv) ++ gg) := by
        refine (List.Perm.append_right fv h4).trans ?_
        rw [List.append_assoc]; rw [List.append_assoc]
        exact List.Perm.append_left fa List.perm_append_comm
      exact q v w' fa fv (ev.less fun a m => (p.mem_iff).mpr (List.mem_append_left _ m)) (g.perm p).left h3 r
    · rename_i e0 h0
      simp only [Option.map_eq_some_iff] at hg
      obtain ⟨ds2, h1, h2⟩ := hg
      cases h2
      refine hj _ _ w1 _ fp _ .nx e0 E0 G h0 fun σ' w' fe ev g E' => ?_
      obtain ⟨fa, gg, h3, h4⟩ := outs_ok (Keeps.of G ev fun _ m => (nomatch m)) R hst E' h1
      exact q .non w' fa [] (by simpa using ev.less fun a m => (h4.mem_iff).mpr (List.mem_append_left _ m)) (by simpa using (g.perm h4).left) h3 ⟨rfl, rfl⟩
    · cases hg
end Z
namespace Z
open PySem.Spec PyProof.Rows L2 PySem
variable {K : PySem.W.Frag}

def Wd.put (w : Wd) (a : Addr) (o : HO) (h : mutO o = true ∨ w.H a = none) : Wd := ⟨upd w.H a o, w.F, fun b q => by
  obtain ⟨ob, e, m⟩ := w.hF b q
  by_cases hb : b = a
  · subst hb
    rcases h with h | h
    · exact ⟨o, upd_same, okF_of h⟩
    · rw [e] at h; cases h
  · exact ⟨ob, by rw [upd_ne hb]; exact e, m⟩⟩
theorem Wd.notF {w : Wd} {a : Addr} (h : w.H a = none) : ¬ w.F a := fun q => by
  obtain ⟨o, e, _⟩ := w.hF a q
  rw [h] at e; cases e
theorem Ev.new {w : Wd} {a : Addr} {o : HO} (hn : w.H a = none) : Ev [] w (w.put a o (.inr hn)) [a] :=
  ⟨fun _ q => q, fun b ob q _ => by
    show upd w.H a o b = some ob
    rw [upd_ne (ne_of_none q hn)]
    exact q, fun _ q => .inl q, fun b q => by
    have e : b = a := by simpa using q
    subst e
    exact .inr hn, fun b ob q => ⟨ob, by
    show upd w.H a o b = some ob
    rw [upd_ne (ne_of_none q hn)]
    exact q⟩⟩
theorem Good.new {w : Wd} {a : Addr} {o : HO} (hn : w.H a = none) (hm : mutO o = true) : Good (w.put a o (.inr hn)) [a] :=
  ⟨by simp, fun b q => by
    have e : b = a := by simpa using q
    subst e
    exact ⟨w.notF hn, o, upd_same, hm⟩⟩
theorem Ev.put {w : Wd} {a : Addr} {o ob : HO} {f : List Addr} (hm : mutO o = true) (h : w.H a = some ob) (m : a ∈ f) : Ev f w (w.put a o (.inl hm)) f :=
  ⟨fun _ q => q, fun b u q n => by
    show upd w.H a o b = some u
    rw [upd_ne (show b ≠ a from fun e => by subst e; exact n m)]
    exact q, fun _ q => .inl q, fun _ q => .inl q, fun b u q => by
    by_cases e : b = a
    · subst e
      exact ⟨o, upd_same⟩
    · exact ⟨u, by
        show upd w.H a o b = some u
        rw [upd_ne e]
        exact q⟩⟩
theorem Good.put {w : Wd} {a : Addr} {o : HO} {f : List Addr} (G : Good w f) (hm : mutO o = true) : Good (w.put a o (.inl hm)) f :=
  ⟨G.nd, fun b q => by
    obtain ⟨nF, ob, e, m⟩ := G.own b q
    refine ⟨nF, ?_⟩
    by_cases hb : b = a
    · subst hb
      exact ⟨o, upd_same, hm⟩
    · exact ⟨ob, by
        show upd w.H a o b = some ob
        rw [upd_ne hb]
        exact e, m⟩⟩
theorem Keeps.put {w : Wd} {a : Addr} {o ob : HO} {g : List Addr} (hm : mutO o = true) (h : w.H a = some ob) (nF : ¬ w.F a) (hmut : mutO ob = true) (hg : a ∉ g) : Keeps w (w.put a o (.inl hm)) g where
  fz := fun _ q => q
  imm := fun b u q m => by
    show upd w.H a o b = some u
    rw [upd_ne (fun e => by subst e; rw [q] at h; cases h; rw [m] at hmut; cases hmut)]
    exact q
  fro := fun b u q hf => by
    show upd w.H a o b = some u
    rw [upd_ne (show b ≠ a from fun e => by subst e; exact nF hf)]
    exact q
  own := fun b hb u q => by
    show upd w.H a o b = some u
    rw [upd_ne (show b ≠ a from fun e => by subst e; exact hg hb)]
    exact q
theorem Keeps.new {w : Wd} {a : Addr} {o : HO} {g : List Addr} (hn : w.H a = none) : Keeps w (w.put a o (.inr hn)) g :=
  have k : ∀ b u, w.H b = some u → (w.put a o (.inr hn)).H b = some u := fun b u q => by
    show upd w.H a o b = some u
    rw [upd_ne (ne_of_none q hn)]
    exact q
  ⟨fun _ q => q, fun b u q _ => k b u q, fun b u q _ => k b u q, fun b _ u q => k b u q⟩
theorem Keeps.trans {w w1 w2 : Wd} {g : List Addr} (a : Keeps w w1 g) (b : Keeps w1 w2 g) : Keeps w w2 g :=
  ⟨fun c q => b.fz c (a.fz c q), fun c o q m => b.imm c o (a.imm c o q m) m, fun c o q hf => b.fro c o (a.fro c o q hf) (a.fz c hf), fun c m o q => b.own c m o (a.own c m o q)⟩
theorem Keeps.refl (w : Wd) (g : List Addr) : Keeps w w g := ⟨fun _ q => q, fun _ _ q _ => q, fun _ _ q _ => q, fun _ _ _ q => q⟩

structure ItR (K : PySem.W.Frag) (w : Wd) (g : List Addr) (J : It) (ps : List P) : Prop where
  go : ∀ w1 i, Keeps w w1 g → i < ps.length → J.go i w1.H
  stop : ∀ w1 i, Keeps w w1 g → ps.length ≤ i → J.stop i w1.H
  yld : ∀ w1 i x H' p, Keeps w w1 g → J.yld i w1.H x H' → ps[i]? = some p → ∃ w2, w2.H = H' ∧ Ev [] w1 w2 [] ∧ RepP K w2 p x
theorem ItR.keeps {w w' : Wd} {g : List Addr} {J : It} {ps : List P} (h : ItR K w g J ps) (k : Keeps w w' g) : ItR K w' g J ps :=
  ⟨fun w1 i q => h.go w1 i (k.trans q), fun w1 i q => h.stop w1 i (k.trans q), fun w1 i x H' p q => h.yld w1 i x H' p (k.trans q)⟩
def JI (K : PySem.W.Frag) (t : TI) (m : M (List P)) : Prop :=
  ∀ (σ₀ σ : St) (w : Wd) (e : Env) (f : List Addr) (R : It → Hp → Prop) (ps : List P) (e' : Env), EnvR K w e σ₀ σ f → Good w f → m e = some (ps, e') →
    (∀ J w' fe fv, Ev f w w' (fe ++ fv) → Good w' (fe ++ fv) → EnvR K w' e' σ₀ σ fe → ItR K w' fv J ps → R J w'.H) → t σ w.H R

def forL (g : MG) (b : MS) : List P → MS
  | [], e => some (.nx, e)
  | p :: ps, e => match g (.val p) e with
    | none => none
    | some e1 => match b e1 with
      | some (.nx, e2) => forL g b ps e2
      | some (.ct, e2) => forL g b ps e2
      | some (.bk, e2) => some (.nx, e2)
      | some (.ret d, e2) => some (.ret d, e2)
      | none => none
def sFor (m : M (List P)) (g : MG) (b : MS) : MS := fun e => (m e).bind fun x => forL g b x.1 x.2
theorem js_for {wi : TI} {gt : TG} {tb : TS} {m : M (List P)} {g : MG} {b : MS} {cs : List Nat} (hi : JI K wi m) (hg : JG K cs gt g) (hb : JS K tb b) : JS K (tFor wi gt tb) (sFor m g b) := by
  intro σ₀ σ w e f D o e' E G hm hp
  simp only [sFor, Option.bind_eq_some_iff] at hm
  obtain ⟨⟨ps, e1⟩, h1, h2⟩ := hm
  refine hi σ₀ σ w e f _ ps e1 E G h1 fun J w' fe fv ev g' E' it => ?_
  have hp' := hp.from (ev.less fun a m => List.mem_append_left _ m)
  have kp : ∀ {w1 : Wd} {f1 : List Addr}, Ev fe w' w1 f1 → Keeps w' w1 fv := fun {w1 f1} ev1 => Keeps.of g'.left ev1 fun a m q => (List.nodup_append.mp g'.nd).2.2 a q a m rfl
  refine ⟨fun i mm σ H => ∃ w1 e1 f1, w1.H = H ∧ Ev fe w' w1 f1 ∧ Good w1 f1 ∧ EnvR K w1 e1 σ₀ σ f1 ∧ i + mm = ps.length ∧ forL g b (ps.drop i) e1 = some (o, e'), ⟨ps.length, w', e1, fe, rfl, Ev.refl _ _, g'.left, E', by omega, by simpa using h2⟩, fun i mm σ H hW => ?_⟩
  obtain ⟨w1, e2, f1, rfl, ev1, g1, E1, hl, hf⟩ := hW
  by_cases hi : i < ps.length
  · refine .inr ⟨it.go w1 i (kp ev1) hi, fun σ' H' => ∃ w1 e1 f1, w1.H = H' ∧ Ev fe w' w1 f1 ∧ Good w1 f1 ∧ EnvR K w1 e1 σ₀ σ' f1 ∧ forL g b (ps.drop (i + 1)) e1 = some (o, e'), fun σ' H' hN => ?_, fun x H' hy => ?_⟩
    · obtain ⟨w3, e3, f3, a1, a2, a3, a4, a5⟩ := hN
      exact ⟨mm - 1, by omega, w3, e3, f3, a1, a2, a3, a4, by omega, a5⟩
    · obtain ⟨w2, rfl, ev2, rp⟩ := it.yld w1 i x H' ps[i] (kp ev1) hy (List.getElem?_eq_getElem hi)
      rw [List.drop_eq_getElem_cons hi] at hf
      simp only [forL] at hf
      have f1' : Ev fe w' w2 f1 := ev1.trans (by simpa using ev2.frame f1)
      have g2 : Good w2 f1 := by simpa using Good.frame (f := []) (g := f1) (by simpa using g1) ev2 (Good.nil _)
      have E2 : EnvR K w2 e2 σ₀ σ f1 := E1.keeps (Keeps.of (Good.nil w1) ev2 fun _ _ => by simp)
      split at hf
      · cases hf
      · rename_i e3 h3
        refine hg σ₀ σ w2 e2 f1 [] x (.val ps[i]) _ e3 E2 (by simpa using g2) ⟨rfl, rp⟩ h3 fun σ3 w3 f3 _ ev3 g3 E3 => ?_
        have f3' : Ev fe w' w3 f3 := f1'.trans (by simpa using ev3)
        split at hf
        · rename_i e4 h4
          exact hb σ₀ σ3 w3 e3 f3 _ .nx e4 E3 g3 h4 fun σ4 w4 f4 ev4 g4 E4 => ⟨w4, e4, f4, rfl, f3'.trans ev4, g4, E4, hf⟩
        · rename_i e4 h4
          exact hb σ₀ σ3 w3 e3 f3 _ .ct e4 E3 g3 h4 fun σ4 w4 f4 ev4 g4 E4 => ⟨w4, e4, f4, rfl, f3'.trans ev4, g4, E4, hf⟩
        · rename_i e4 h4
          cases hf
          exact hb σ₀ σ3 w3 e3 f3 _ .bk e' E3 g3 h4 fun σ4 w4 f4 ev4 g4 E4 => hp' σ4 w4 f4 (f3'.trans ev4) g4 E4
        · rename_i d e4 h4
          cases hf
          exact hb σ₀ σ3 w3 e3 f3 _ (.ret d) e' E3 g3 h4 fun v w4' w4 fe4 fv4 ev4 g4 E4 r => hp' v w4' w4 fe4 fv4 (f3'.trans ev4) g4 E4 r
        · cases hf
  · refine .inl ⟨it.stop w1 i (kp ev1) (by omega), ?_⟩
    rw [List.drop_of_length_le (by omega)] at hf
    simp only [forL, Option.some.injEq, Prod.mk.injEq] at hf
    obtain ⟨rfl, rfl⟩ := hf
    exact hp' σ w1 f1 ev1 g1 E1

def whileL (c : M Bool) (b : MS) : Nat → MS
  | 0, _ => none
  | n + 1, e => match c e with
    | none => none
    | some (false, e1) => some (.nx, e1)
    | some (true, e1) => match b e1 with
      | some (.nx, e2) => whileL c b n e2
      | some (.ct, e2) => whileL c b n e2
      | some (.bk, e2) => some (.nx, e2)
      | some (.ret d, e2) => some (.ret d, e2)
      | none => none
theorem js_while (fuel : Nat) {c : TT} {tb : TS} {m : M Bool} {b : MS} (h0 : JT K c m) (hb : JS K tb b) : JS K (tWhile c tb) (whileL m b fuel) := by
  intro σ₀ σ w e f D o e' E G hm hp
  refine ⟨fun n σ H => ∃ w1 e1 f1, w1.H = H ∧ Ev f w w1 f1 ∧ Good w1 f1 ∧ EnvR K w1 e1 σ₀ σ f1 ∧ whileL m b n e1 = some (o, e'), ⟨fuel, w, e, f, rfl, Ev.refl _ _, G, E, hm⟩, fun n σ H hW => ?_⟩
  obtain ⟨w1, e1, f1, rfl, ev1, g1, E1, hf⟩ := hW
  cases n with
  | zero => cases hf
  | succ n =>
    simp only [whileL] at hf
    split at hf
    · cases hf
    · rename_i e2 h2
      cases hf
      refine h0 σ₀ σ w1 e1 f1 _ false e' E1 g1 h2 fun w2 f2 ev2 g2 E2 => ?_
      simp only [if_false, Bool.false_eq_true]
      exact hp σ w2 f2 (ev1.trans ev2) g2 E2
    · rename_i e2 h2
      refine h0 σ₀ σ w1 e1 f1 _ true e2 E1 g1 h2 fun w2 f2 ev2 g2 E2 => ?_
      rw [if_pos rfl]
      refine ⟨fun σ' H' => ∃ w1 e1 f1, w1.H = H' ∧ Ev f w w1 f1 ∧ Good w1 f1 ∧ EnvR K w1 e1 σ₀ σ' f1 ∧ whileL m b n e1 = some (o, e'), fun σ' H' hN => ⟨n, Nat.lt_succ_self n, hN⟩, ?_⟩
      have f2' := ev1.trans ev2
      split at hf
      · rename_i e3 h3
        exact hb σ₀ σ w2 e2 f2 _ .nx e3 E2 g2 h3 fun σ4 w4 f4 ev4 g4 E4 => ⟨w4, e3, f4, rfl, f2'.trans ev4, g4, E4, hf⟩
      · rename_i e3 h3
        exact hb σ₀ σ w2 e2 f2 _ .ct e3 E2 g2 h3 fun σ4 w4 f4 ev4 g4 E4 => ⟨w4, e3, f4, rfl, f2'.trans ev4, g4, E4, hf⟩
      · rename_i e3 h3
        cases hf
        exact hb σ₀ σ w2 e2 f2 _ .bk e' E2 g2 h3 fun σ4 w4 f4 ev4 g4 E4 => hp σ4 w4 f4 (f2'.trans ev4) g4 E4
      · rename_i d e3 h3
        cases hf
        exact hb σ₀ σ w2 e2 f2 _ (.ret d) e' E2 g2 h3 fun v w4' w4 fe4 fv4 ev4 g4 E4 r => hp v w4' w4 fe4 fv4 (f2'.trans ev4) g4 E4 r
      · cases hf

def hid : List Nat → Env → Option Env
  | [], e => some e
  | v :: vs, e => if v ∈ vs then none else (hid vs e).bind fun e1 => match e1[v]? with
    | some .un => some e1
    | some (.loc (.val _)) => some (e1.set v .un)
    | some (.par (.val _)) => some (e1.set v .un)
    | _ => none
def clr : List Nat → Env → Env
  | [], e => e
  | v :: vs, e => (clr vs e).set v .un
def res (e0 : Env) : List Nat → Env → Env
  | [], e => e
  | v :: vs, e => res e0 vs (match e0[v]? with
    | some s => e.set v s
    | none => e)
def compL (g : MG) (tt : M Bool) (te : M D) (vs : List Nat) : List P → List D → Env → Option (List D × Env)
  | [], acc, e => some (acc, e)
  | p :: ps, acc, e => match g (.val p) e with
    | none => none
    | some e1 => match tt e1 with
      | none => none
      | some (false, e2) => compL g tt te vs ps acc (clr vs e2)
      | some (true, e2) => match te e2 with
        | none => none
        | some (d, e3) => if acc.length < sizeLine then compL g tt te vs ps (acc ++ [d]) (clr vs e3) else none
def mComp (m : M (List P)) (g : MG) (tt : M Bool) (te : M D) (vs : List Nat) : M D := fun e => (m e).bind fun x => (hid vs x.2).bind fun e1 => (compL g tt te vs x.1 [] e1).map fun y => (.olst y.1, res x.2 vs y.2)

theorem wipe_get {σ : St} {i : Nat} : ∀ {vs : List Nat}, (wipe σ vs)[i]? = if i ∈ vs then (if i < σ.length then some none else none) else σ[i]?
  | [] => by simp [wipe]
  | v :: vs => by
    unfold wipe
    by_cases h : v = i
    · subst h
      by_cases hl : v < σ.length
      · rw [List.getElem?_set_self (by rw [wipe_length]; exact hl)]
        simp [hl]
      · rw [List.getElem?_eq_none (by simpa [wipe_length] using hl)]
        simp [hl]
    · rw [List.getElem?_set_ne h, wipe_get (vs := vs)]
      have h' : i ≠ v := fun z => h z.symm
      simp [h']
theorem wipe_but {σ σ' : St} {cs vs : List Nat} (b : But cs (wipe σ vs) σ') (h : ∀ i ∈ cs, i ∈ vs) : wipe σ' vs = wipe σ vs := by
  apply List.ext_getElem?
  intro i
  have hl : σ'.length = σ.length := by rw [b.1, wipe_length]
  rw [wipe_get, wipe_get, hl]
  by_cases hi : i ∈ vs
  · simp [hi]
  · rw [if_neg hi, if_neg hi, b.2 i fun m => hi (h i m), wipe_get, if_neg hi]
theorem hid_ok {w : Wd} {σ₀ σ : St} : ∀ {vs : List Nat} {e e1 : Env} {f : List Addr}, EnvR K w e σ₀ σ f → hid vs e = some e1 → EnvR K w e1 σ₀ (wipe σ vs) f
  | [], e, e1, f, E, h => by
    cases h
    exact E
  | v :: vs, e, e1, f, E, h => by
    simp only [hid] at h
    split at h
    · cases h
    · simp only [Option.bind_eq_some_iff] at h
      obtain ⟨e2, h1, h2⟩ := h
      have E2 := hid_ok E h1
      have go : ∀ s, e2[v]? = some s → (∀ o₀ o fi, SlR K w s o₀ o fi → fi = []) → EnvR K w (e2.set v .un) σ₀ (wipe σ (v :: vs)) f := fun s hs hh => by
        obtain ⟨o₀, o, f1, fi, f2, a1, a2, a3, a4, a5⟩ := E2.at hs
        have e0 := hh _ _ _ a4
        subst e0 a3
        exact a5 w .un none [] (Keeps.refl _ _) rfl
      split at h2
      · rename_i hs
        cases h2
        have q := go _ hs (fun _ _ _ r => r)
        rw [set_same hs] at q
        exact q
      · rename_i p hs
        cases h2
        exact go _ hs (fun _ _ _ ⟨_, _, r⟩ => r.1)
      · rename_i p hs
        cases h2
        exact go _ hs (fun _ _ _ ⟨_, _, _, r⟩ => r.1)
      · cases h2
theorem clr_ok {w : Wd} {σ₀ σ : St} : ∀ {vs : List Nat} {e : Env} {f : List Addr}, EnvR K w e σ₀ σ f → ∃ f', f'.Sublist f ∧ EnvR K w (clr vs e) σ₀ (wipe σ vs) f'
  | [], e, f, E => ⟨f, List.Sublist.refl _, E⟩
  | v :: vs, e, f, E => by
    obtain ⟨f', hs, E'⟩ := clr_ok (vs := vs) E
    by_cases hv : v < (clr vs e).length
    · obtain ⟨o₀, o, f1, fi, f2, a1, a2, a3, a4, a5⟩ := E'.at (List.getElem?_eq_getElem hv)
      refine ⟨f1 ++ ([] ++ f2), ?_, a5 w .un none [] (Keeps.refl _ _) rfl⟩
      refine List.Sublist.trans ?_ hs
      subst a3
      exact List.Sublist.append_left (List.Sublist.append_right (List.nil_sublist _) _) _
    · refine ⟨f', hs, ?_⟩
      have hl := E'.len.2
      show EnvR K w ((clr vs e).set v .un) σ₀ ((wipe σ vs).set v none) f'
      rw [List.set_eq_of_length_le (by omega), List.set_eq_of_length_le (by omega)]
      exact E'
theorem res_ok {w w' : Wd} {σ₀ σ : St} {e0 : Env} {f0 : List Addr} (kp : Keeps w w' []) (E0 : EnvR K w e0 σ₀ σ f0) : ∀ {vs : List Nat} {e1 e2 : Env} {f : List Addr}, hid vs e0 = some e1 → EnvR K w' e2 σ₀ (wipe σ vs) f →
    ∃ f', f'.Sublist f ∧ EnvR K w' (res e0 vs e2) σ₀ σ f'
  | [], e1, e2, f, h, E => ⟨f, List.Sublist.refl _, E⟩
  | v :: vs, e1, e2, f, h, E => by
    simp only [hid] at h
    split at h
    · cases h
    · rename_i hv
      simp only [Option.bind_eq_some_iff] at h
      obtain ⟨e3, h1, h2⟩ := h
      -- what stood at v
      have hk : ∀ {us : List Nat} {ea eb : Env}, hid us ea = some eb → v ∉ us → eb[v]? = ea[v]? := by
        intro us
        induction us with
        | nil =>
          intro ea eb q _
          cases q
          rfl
        | cons u us ih =>
          intro ea eb q hn
          simp only [List.mem_cons, not_or] at hn
          simp only [hid] at q
          split at q
          · cases q
          · simp only [Option.bind_eq_some_iff] at q
            obtain ⟨ec, q1, q2⟩ := q
            have r := ih q1 hn.2
            have nu : u ≠ v := fun z => hn.1 z.symm
            split at q2
            · cases q2
              exact r
            · cases q2
              rw [List.getElem?_set_ne nu]
              exact r
            · cases q2
              rw [List.getElem?_set_ne nu]
              exact r
            · cases q2
      have h0 : e3[v]? = e0[v]? := hk h1 hv
      rw [h0] at h2
      have fin : ∀ s, e0[v]? = some s → (∀ o₀ o fi, SlR K w s o₀ o fi → SlR K w' s o₀ o []) → ∃ f', f'.Sublist f ∧ EnvR K w' (res e0 (v :: vs) e2) σ₀ σ f' := fun s hs hh => by
        obtain ⟨o₀, o, f1, fi, f2, a1, a2, a3, a4, a5⟩ := E0.at hs
        have hl : v < e2.length := by
          have q1 := E.len.1
          have q2 := E0.len.1
          have q3 := (List.getElem?_eq_some_iff.mp hs).1
          omega
        obtain ⟨p₀, p, g1, gi, g2, b1, b2, b3, b4, b5⟩ := E.at (List.getElem?_eq_getElem hl)
        rw [a1] at b1; cases b1
        have E3 := b5 w' s o [] (Keeps.refl _ _) (hh _ _ _ a4)
        have es : (wipe σ (v :: vs)).set v o = wipe σ vs := by
          show ((wipe σ vs).set v none).set v o = wipe σ vs
          rw [List.set_set]
          refine set_same ?_
          rw [wipe_get, if_neg hv]
          exact a2
        rw [es] at E3
        obtain ⟨f', q1, q2⟩ := res_ok kp E0 h1 E3
        refine ⟨f', q1.trans ?_, ?_⟩
        · subst b3
          exact List.Sublist.append_left (List.Sublist.append_right (List.nil_sublist _) _) _
        · show EnvR K w' (res e0 vs (match e0[v]? with | some s => e2.set v s | none => e2)) σ₀ σ f'
          rw [hs]
          exact q2
      split at h2
      · rename_i hs
        exact fin _ hs fun _ _ _ _ => rfl
      · rename_i p hs
        exact fin _ hs fun _ _ _ ⟨v, a, r⟩ => ⟨v, a, rfl, r.2.keeps kp _ _⟩
      · rename_i p hs
        exact fin _ hs fun _ _ _ ⟨v, a, b, r⟩ => ⟨v, a, b, rfl, r.2.keeps kp _ _⟩
      · cases h2
theorem RepDs.append {w : Wd} : ∀ {ds es : List D} {vs us : List V} {f g : List Addr}, RepDs K w ds vs f → RepDs K w es us g → RepDs K w (ds ++ es) (vs ++ us) (f ++ g)
  | [], es, vs, us, f, g, h, h' => by
    obtain ⟨rfl, rfl⟩ := h
    exact h'
  | d :: ds, es, vs, us, f, g, h, h' => by
    obtain ⟨v, r, f1, f2, rfl, rfl, h1, h2⟩ := h
    exact ⟨v, r ++ us, f1, f2 ++ g, rfl, by rw [List.append_assoc], h1, RepDs.append h2 h'⟩
theorem RepDs.one {w : Wd} {d : D} {v : V} {f : List Addr} (h : RepD K w d v f) : RepDs K w [d] [v] f := ⟨v, [], f, [], rfl, by simp, h, rfl, rfl⟩

theorem je_comp {wi : TI} {gt : TG} {tt : TT} {te : TE} {m : M (List P)} {g : MG} {mt : M Bool} {me : M D} {cs vs : List Nat} (hi : JI K wi m) (hg : JG K cs gt g) (hcs : ∀ i ∈ cs, i ∈ vs) (ht : JT K tt mt) (he : JE K te me) :
    JE K (tLc wi gt tt te vs) (mComp m g mt me vs) := by
  intro σ₀ σ w e f Q d e' E G hm hq
  simp only [mComp, Option.bind_eq_some_iff, Option.map_eq_some_iff] at hm
  obtain ⟨⟨ps, e1⟩, h1, e2, h2, ⟨ds, eE⟩, h3, h4⟩ := hm
  cases h4
  refine hi σ₀ σ w e f _ ps e1 E G h1 fun J w' fe fv ev g' E' it => ?_
  have kp : ∀ {w1 : Wd} {f1 : List Addr}, Ev fe w' w1 f1 → Keeps w' w1 fv := fun {w1 f1} ev1 => Keeps.of g'.left ev1 fun a m q => (List.nodup_append.mp g'.nd).2.2 a q a m rfl
  intro Da hDa
  have evN : Ev [] w' (w'.put Da (.lst []) (.inr hDa)) [Da] := Ev.new hDa
  obtain ⟨evI, gI, _⟩ := fin (Ev.refl fe w') g'.left E' evN (Good.new hDa rfl)
  have E2 : EnvR K (w'.put Da (.lst []) (.inr hDa)) e2 σ₀ (wipe σ vs) fe := (hid_ok E' h2).keeps (Keeps.new hDa)
  refine ⟨fun i mm H => ∃ w1 e1 f1 acc accD facc, w1.H = H ∧ Ev fe w' w1 (f1 ++ (Da :: facc)) ∧ Good w1 (f1 ++ (Da :: facc)) ∧ EnvR K w1 e1 σ₀ (wipe σ vs) f1 ∧ w1.H Da = some (.lst acc) ∧ RepDs K w1 accD acc facc ∧ i + mm = ps.length ∧
      compL g mt me vs (ps.drop i) accD e1 = some (ds, eE), ⟨ps.length, w'.put Da (.lst []) (.inr hDa), e2, fe, [], [], [], rfl, evI, gI, E2, upd_same, ⟨rfl, rfl⟩, by omega, by simpa using h3⟩, fun i mm H hW => ?_⟩
  obtain ⟨w1, e3, f1, acc, accD, facc, rfl, ev1, g1, E1, hD, R1, hl, hf⟩ := hW
  by_cases hi : i < ps.length
  · refine .inr ⟨it.go w1 i (kp ev1) hi, fun H' => ∃ w1 e1 f1 acc accD facc, w1.H = H' ∧ Ev fe w' w1 (f1 ++ (Da :: facc)) ∧ Good w1 (f1 ++ (Da :: facc)) ∧ EnvR K w1 e1 σ₀ (wipe σ vs) f1 ∧ w1.H Da = some (.lst acc) ∧ RepDs K w1 accD acc facc ∧
      compL g mt me vs (ps.drop (i + 1)) accD e1 = some (ds, eE), fun H' hN => ?_, fun x H' hy => ?_⟩
    · obtain ⟨w3, e3, f3, ac, acD, fac, a1, a2, a3, a4, a5, a6, a7⟩ := hN
      exact ⟨mm - 1, by omega, w3, e3, f3, ac, acD, fac, a1, a2, a3, a4, a5, a6, by omega, a7⟩
    · obtain ⟨w2, rfl, ev2, rp⟩ := it.yld w1 i x H' ps[i] (kp ev1) hy (List.getElem?_eq_getElem hi)
      rw [List.drop_eq_getElem_cons hi] at hf
      simp only [compL] at hf
      have ev2' : Ev fe w' w2 (f1 ++ (Da :: facc)) := ev1.trans (by simpa using ev2.frame (f1 ++ (Da :: facc)))
      have g2 : Good w2 (f1 ++ (Da :: facc)) := by simpa using Good.frame (f := []) (g := f1 ++ (Da :: facc)) (by simpa using g1) ev2 (Good.nil _)
      have k2 : ∀ l, Keeps w1 w2 l := fun l => Keeps.of (Good.nil w1) ev2 fun _ _ => by simp
      have E2 : EnvR K w2 e3 σ₀ (wipe σ vs) f1 := E1.keeps (k2 _)
      have hD2 : w2.H Da = some (.lst acc) := (k2 [Da]).own Da (by simp) _ hD
      have R2 := R1.keeps accD acc facc (k2 _)
      -- a frame through an evaluation
      have step : ∀ {wa wb : Wd} {fa fb : List Addr}, Ev fe w' wa (fa ++ (Da :: facc)) → Good wa (fa ++ (Da :: facc)) → wa.H Da = some (.lst acc) → RepDs K wa accD acc facc → Ev fa wa wb fb → Good wb fb →
          Ev fe w' wb (fb ++ (Da :: facc)) ∧ Good wb (fb ++ (Da :: facc)) ∧ wb.H Da = some (.lst acc) ∧ RepDs K wb accD acc facc := fun {wa wb fa fb} a1 a2 a3 a4 a5 a6 => by
        have ne : ∀ a ∈ Da :: facc, a ∉ fa := fun a m q => (List.nodup_append.mp a2.nd).2.2 a q a m rfl
        have k := Keeps.of a2.left a5 ne
        exact ⟨a1.trans (a5.frame _), a2.frame a5 a6, k.own Da (by simp) _ a3, a4.keeps accD acc facc (k.weak fun a m => List.mem_cons_of_mem _ m)⟩
      split at hf
      · cases hf
      · rename_i e4 h4
        refine hg σ₀ (wipe σ vs) w2 e3 f1 [] x (.val ps[i]) _ e4 E2 (by simpa using g2.left) ⟨rfl, rp⟩ h4 fun σ3 w3 f3 bt ev3 g3 E3 => ?_
        have ev3' : Ev f1 w2 w3 f3 := by simpa using ev3
        have wb := wipe_but bt hcs
        refine ⟨wb, ?_⟩
        obtain ⟨p1, p2, p3, p4⟩ := step ev2' g2 hD2 R2 ev3' g3
        split at hf
        · cases hf
        · rename_i e5 h5
          refine ht σ₀ σ3 w3 e4 f3 _ false e5 E3 g3 h5 fun w4 f4 ev4 g4 E4 => ?_
          simp only [if_false, Bool.false_eq_true]
          obtain ⟨q1, q2, q3, q4⟩ := step p1 p2 p3 p4 ev4 g4
          obtain ⟨f5, hs5, E5⟩ := clr_ok (vs := vs) E4
          rw [wb] at E5
          exact ⟨w4, _, f5, acc, accD, facc, rfl, q1.less fun a m => (List.Sublist.append_right hs5 _).subset m, q2.sublist (List.Sublist.append_right hs5 _), E5, q3, q4, hf⟩
        · rename_i e5 h5
          refine ht σ₀ σ3 w3 e4 f3 _ true e5 E3 g3 h5 fun w4 f4 ev4 g4 E4 => ?_
          rw [if_pos rfl]
          obtain ⟨q1, q2, q3, q4⟩ := step p1 p2 p3 p4 ev4 g4
          split at hf
          · cases hf
          · rename_i d6 e6 h6
            split at hf
            · rename_i hz
              refine he σ₀ σ3 w4 e5 f4 _ d6 e6 E4 g4 h6 fun y w5 f5 fd ev5 g5 E5 rd => ?_
              obtain ⟨r1, r2, r3, r4⟩ := step q1 q2 q3 q4 ev5 g5
              refine ⟨acc, r3, by rw [← r4.length]; exact hz, ?_⟩
              have ho := r2.own Da (by simp)
              have nd := r2.nd
              have nDa : Da ∉ f5 ∧ Da ∉ fd ∧ Da ∉ facc := by
                have z := List.nodup_append.mp nd
                refine ⟨fun m => z.2.2 Da (List.mem_append_left _ m) Da (by simp) rfl, fun m => z.2.2 Da (List.mem_append_right _ m) Da (by simp) rfl, ?_⟩
                exact (List.nodup_cons.mp z.2.1).1
              have kput : ∀ l, Da ∉ l → Keeps w5 (w5.put Da (.lst (acc ++ [y])) (.inl rfl)) l := fun l h => Keeps.put rfl r3 ho.1 rfl h
              obtain ⟨f7, hs7, E7⟩ := clr_ok (vs := vs) (E5.keeps (kput f5 nDa.1))
              rw [wb] at E7
              have pm : ((f5 ++ fd) ++ (Da :: facc)).Perm (f5 ++ (Da :: (facc ++ fd))) := by
                rw [List.append_assoc]
                refine List.Perm.append_left f5 ?_
                exact List.perm_append_comm
              have sb : (f7 ++ (Da :: (facc ++ fd))).Sublist (f5 ++ (Da :: (facc ++ fd))) := List.Sublist.append_right hs7 _
              refine ⟨w5.put Da (.lst (acc ++ [y])) (.inl rfl), _, f7, acc ++ [y], accD ++ [d6], facc ++ fd, rfl, ?_, ((r2.perm pm).sublist sb).put rfl, E7, upd_same, ?_, hf⟩
              · refine (r1.trans (Ev.put rfl r3 (by simp))).less fun a m => (pm.mem_iff).mpr (sb.subset m)
              · exact (r4.keeps accD acc facc (kput facc nDa.2.2)).append (RepDs.one (rd.keeps d6 y fd (kput fd nDa.2.1)))
            · cases hf
  · refine .inl ⟨it.stop w1 i (kp ev1) (by omega), ?_⟩
    rw [List.drop_of_length_le (by omega)] at hf
    simp only [compL, Option.some.injEq, Prod.mk.injEq] at hf
    obtain ⟨rfl, rfl⟩ := hf
    have kp0 : Keeps w' w1 [] := Keeps.of g'.left ev1 fun _ m => (nomatch m)
    obtain ⟨f', hs, Ef⟩ := res_ok kp0 E' h2 E1
    have sb : (f' ++ (Da :: facc)).Sublist (f1 ++ (Da :: facc)) := List.Sublist.append_right hs _
    exact hq (.ref Da) w1 f' (Da :: facc) ((((ev.less fun a m => List.mem_append_left _ m).trans ev1)).less fun a m => sb.subset m) (g1.sublist sb) Ef ⟨Da, acc, facc, rfl, hD, rfl, R1⟩
end Z
namespace Z
open PySem.Spec PyProof.Rows L2 PySem
variable {K : PySem.W.Frag}

abbrev Ans (K : PySem.W.Frag) (w : Wd) (d : D) (Q : VK) : Prop := ∀ v w' fv, Ev [] w w' fv → Good w' fv → RepD K w' d v fv → Q v w'.H
def SR2 (K : PySem.W.Frag) (r : R2) (g : P → P → Option D) : Prop :=
  ∀ (w : Wd) (x y : P) (vx vy : V) (Q : VK) (d : D), RepB K w x vx → RepB K w y vy → g x y = some d → Ans K w d Q → r vx vy w.H Q
def SC1 (K : PySem.W.Frag) (r : List V → Hp → VK → Prop) (g : P → Option D) : Prop :=
  ∀ (w : Wd) (x : P) (vx : V) (Q : VK) (d : D), RepB K w x vx → g x = some d → Ans K w d Q → r [vx] w.H Q
def mOp (g : P → P → Option D) (a b : M P) : M D := fun e => (a e).bind fun x => (b x.2).bind fun y => (g x.1 y.1).map fun d => (d, y.2)
def mUn (g : P → Option D) (a : M P) : M D := fun e => (a e).bind fun x => (g x.1).map fun d => (d, x.2)
theorem je_op {r : R2} {g : P → P → Option D} {ta tb : TE} {ma mb : M P} (h : SR2 K r g) (ha : JP K ta ma) (hb : JB K tb mb) : JE K (tOp r ta tb) (mOp g ma mb) := by
  intro σ₀ σ w e f Q d e' E G hm hq
  simp only [mOp, Option.bind_eq_some_iff, Option.map_eq_some_iff] at hm
  obtain ⟨⟨x, e1⟩, h1, ⟨y, e2⟩, h2, d', h3, h4⟩ := hm
  cases h4
  refine ha σ₀ σ w e f _ x e1 E G h1 fun vx w1 f1 ev1 g1 E1 rx => ?_
  refine hb σ₀ σ w1 e1 f1 _ y e2 E1 g1 h2 fun vy w2 f2 ev2 g2 E2 ry => ?_
  refine h w2 x y vx vy Q d (rx.ev g1 ev2).toB ry h3 fun v w3 fv ev3 g3 r3 => ?_
  obtain ⟨a, b, c⟩ := fin (ev1.trans ev2) g2 E2 ev3 g3
  exact hq v w3 f2 fv a b c r3
theorem je_c1 {r : List V → Hp → VK → Prop} {g : P → Option D} {ta : TE} {ma : M P} (h : SC1 K r g) (ha : JB K ta ma) : JE K (tCB r (tCons ta tNil)) (mUn g ma) := by
  intro σ₀ σ w e f Q d e' E G hm hq
  simp only [mUn, Option.bind_eq_some_iff, Option.map_eq_some_iff] at hm
  obtain ⟨⟨x, e1⟩, h1, d', h3, h4⟩ := hm
  cases h4
  refine ha σ₀ σ w e f _ x e1 E G h1 fun vx w1 f1 ev1 g1 E1 rx => ?_
  refine h w1 x vx Q d rx h3 fun v w3 fv ev3 g3 r3 => ?_
  obtain ⟨a, b, c⟩ := fin ev1 g1 E1 ev3 g3
  exact hq v w3 f1 fv a b c r3
theorem Ans.pure {w : Wd} {p : P} {v : V} {Q : VK} (h : Ans K w (.val p) Q) (r : RepP K w p v) : Q v w.H := h v w [] (Ev.refl _ _) (Good.nil _) ⟨rfl, r⟩
theorem Ans.tup {w : Wd} {ps : List P} {vs : List V} {a : Addr} {Q : VK} (h : Ans K w (.val (.tup ps)) Q) (hn : w.H a = none) (r : RepPs K w ps vs) : Q (.ref a) (upd w.H a (.tup vs)) :=
  h (.ref a) (w.put a (.tup vs) (.inr hn)) [] ((Ev.new hn).less fun _ m => (nomatch m)) (Good.nil _) ⟨rfl, by
    simp only [RepP, RepX]
    exact ⟨a, vs, rfl, upd_same, RepPs.keeps (Keeps.new hn) ps vs r⟩⟩
theorem Ans.lst {w : Wd} {ps : List P} {vs : List V} {a : Addr} {Q : VK} (h : Ans K w (.olst (ps.map .val)) Q) (hn : w.H a = none) (r : RepPs K w ps vs) : Q (.ref a) (upd w.H a (.lst vs)) :=
  h (.ref a) (w.put a (.lst vs) (.inr hn)) [a] (Ev.new hn) (Good.new hn rfl) (by
    simp only [RepD]
    exact ⟨a, vs, [], rfl, upd_same, rfl, (RepPs.keeps (Keeps.new hn) ps vs r).vals⟩)

def ans (p : P) : Option D := some (.val p)
def gSub : P → P → Option D
  | .int i, .int j => ans (.int (i - j))
  | _, _ => none
theorem sr_sub : SR2 K (rI0 fun i j => .int (i - j)) gSub := by
  intro w x y vx vy Q d rx ry h q
  cases x with
  | int i => cases y with
    | int j =>
      cases h
      cases rx
      cases ry
      exact ⟨i, j, rfl, rfl, q.pure rfl⟩
    | _ => cases h
  | _ => cases h
def gMul : P → P → Option D
  | .int i, .int j => if (-(2 ^ 64) < i ∧ i < 2 ^ 64) ∨ (-(2 ^ 64) < j ∧ j < 2 ^ 64) then ans (.int (i * j)) else none
  | _, _ => none
theorem sr_mul : SR2 K (rI CMul fun i j => .int (i * j)) gMul := by
  intro w x y vx vy Q d rx ry h q
  cases x with
  | int i => cases y with
    | int j =>
      simp only [gMul] at h
      split at h
      · rename_i hc
        cases h
        cases rx
        cases ry
        exact ⟨i, j, rfl, rfl, hc, q.pure rfl⟩
      · cases h
    | _ => cases h
  | _ => cases h
def gFdiv : P → P → Option D
  | .int i, .int j => if j ≠ 0 ∧ j.natAbs < 1073741824 then ans (.int (i.fdiv j)) else none
  | _, _ => none
theorem sr_fdiv : SR2 K (rI CDivN fun i j => .int (i.fdiv j)) gFdiv := by
  intro w x y vx vy Q d rx ry h q
  cases x with
  | int i => cases y with
    | int j =>
      simp only [gFdiv] at h
      split at h
      · rename_i hc
        cases h
        cases rx
        cases ry
        exact ⟨i, j, rfl, rfl, hc, q.pure rfl⟩
      · cases h
    | _ => cases h
  | _ => cases h
def gMod : P → P → Option D
  | .int i, .int j => if j ≠ 0 then ans (.int (i.fmod j)) else none
  | _, _ => none
theorem sr_mod : SR2 K (rI (fun _ j => j ≠ 0) fun i j => .int (i.fmod j)) gMod := by
  intro w x y vx vy Q d rx ry h q
  cases x with
  | int i => cases y with
    | int j =>
      simp only [gMod] at h
      split at h
      · rename_i hc
        cases h
        cases rx
        cases ry
        exact ⟨i, j, rfl, rfl, hc, q.pure rfl⟩
      · cases h
    | _ => cases h
  | _ => cases h
def gPow : P → P → Option D
  | .int i, .int j => if 0 ≤ j ∧ j ≤ 1000000 ∧ i.natAbs < 2 ^ 64 then ans (.int (i ^ j.toNat)) else none
  | _, _ => none
theorem sr_pow : SR2 K (rI CPow fun i j => .int (i ^ j.toNat)) gPow := by
  intro w x y vx vy Q d rx ry h q
  cases x with
  | int i => cases y with
    | int j =>
      simp only [gPow] at h
      split at h
      · rename_i hc
        cases h
        cases rx
        cases ry
        exact ⟨i, j, rfl, rfl, hc, q.pure rfl⟩
      · cases h
    | _ => cases h
  | _ => cases h
def gShl : P → P → Option D
  | .int i, .int j => if 0 ≤ j ∧ j ≤ 1000000 ∧ i.natAbs < 2 ^ 64 then ans (.int (i * 2 ^ j.toNat)) else none
  | _, _ => none
theorem sr_shl : SR2 K (rI CPow fun i j => .int (i * 2 ^ j.toNat)) gShl := by
  intro w x y vx vy Q d rx ry h q
  cases x with
  | int i => cases y with
    | int j =>
      simp only [gShl] at h
      split at h
      · rename_i hc
        cases h
        cases rx
        cases ry
        exact ⟨i, j, rfl, rfl, hc, q.pure rfl⟩
      · cases h
    | _ => cases h
  | _ => cases h
def rAddZ (K : PySem.W.Frag) : R2 := fun x y H Q => rI0 (fun i j => .int (i + j)) x y H Q ∨ (∃ i k, x = .int i ∧ y = .bl k ∧ Q (.int (i + b2i k)) H) ∨ (∃ i j, x = .str i ∧ y = .str j ∧ i.length + j.length ≤ sizeLine ∧ Q (.str (i ++ j)) H) ∨ rCatA K x y H Q ∨ rCat x y H Q
theorem op_addZ {X : Cx} : OpR X (binaryOp .Add) (rAddZ X.K) := op_add.or (op_add_ib.or (op_add_str.or (op_catA.or op_cat)))
def gAdd : P → P → Option D
  | .int i, .int j => ans (.int (i + j))
  | .int i, .bl k => ans (.int (i + b2i k))
  | .str a, .str b => if a.length + b.length ≤ sizeLine then ans (.str (a ++ b)) else none
  | .tup xs, .tup ys => if xs.length + ys.length ≤ sizeLine then ans (.tup (xs ++ ys)) else none
  | .lst xs, .lst ys => if xs.length + ys.length ≤ sizeLine then some (.olst ((xs ++ ys).map .val)) else none
  | _, _ => none
theorem sr_add : SR2 K (rAddZ K) gAdd := by
  intro w x y vx vy Q d rx ry h q
  cases x with
  | int i => cases y with
    | int j =>
      cases h
      cases rx
      cases ry
      exact .inl ⟨i, j, rfl, rfl, q.pure rfl⟩
    | bl j =>
      cases h
      cases rx
      cases ry
      exact .inr (.inl ⟨i, j, rfl, rfl, q.pure rfl⟩)
    | _ => cases h
  | str a => cases y with
    | str b =>
      simp only [gAdd] at h
      split at h
      · rename_i hc
        cases h
        cases rx
        cases ry
        exact .inr (.inr (.inl ⟨a, b, rfl, rfl, hc, q.pure rfl⟩))
      · cases h
    | _ => cases h
  | tup xs => cases y with
    | tup ys =>
      simp only [gAdd] at h
      split at h
      · rename_i hc
        cases h
        simp only [RepB, RepP, RepX] at rx ry
        obtain ⟨a, vs, rfl, s1, r1⟩ := rx
        obtain ⟨b, us, rfl, s2, r2⟩ := ry
        refine .inr (.inr (.inr (.inl ⟨a, b, vs, us, rfl, rfl, (tq s1), (tq s2), ?_, fun e => ?_, fun _ e => ?_, fun _ _ p hn => ?_⟩)))
        · rw [← RepPs.length r1, ← RepPs.length r2]
          exact hc
        · subst e
          have hx : xs = [] := by
            have := RepPs.length r1
            cases xs with
            | nil => rfl
            | cons _ _ => simp at this
          subst hx
          refine q.pure ?_
          simp only [List.nil_append, RepP, RepX]
          exact ⟨b, us, rfl, s2, r2⟩
        · subst e
          have hy : ys = [] := by
            have := RepPs.length r2
            cases ys with
            | nil => rfl
            | cons _ _ => simp at this
          subst hy
          refine q.pure ?_
          simp only [List.append_nil, RepP, RepX]
          exact ⟨a, vs, rfl, s1, r1⟩
        · exact q.tup hn (RepPs.append r1 r2)
      · cases h
    | _ => cases h
  | lst xs => cases y with
    | lst ys =>
      simp only [gAdd] at h
      split at h
      · rename_i hc
        cases h
        simp only [RepB] at rx ry
        obtain ⟨a, vs, rfl, s1, r1⟩ := rx
        obtain ⟨b, us, rfl, s2, r2⟩ := ry
        refine .inr (.inr (.inr (.inr ⟨a, b, vs, us, rfl, rfl, s1, s2, ?_, fun p hn => ?_⟩)))
        · rw [← RepPs.length r1, ← RepPs.length r2]
          exact hc
        · exact q.lst hn (RepPs.append r1 r2)
      · cases h
    | _ => cases h
  | _ => cases h

mutual
def dat : P → Option PyData
  | .non => some .none
  | .bl b => some (.bool b)
  | .int i => some (.int i)
  | .str x => some (.str x)
  | .tup ps => (dats ps).map .tuple
  | .lst ps => (dats ps).map .list
  | _ => none
def dats : List P → Option (List PyData)
  | [] => some []
  | p :: ps => (dat p).bind fun d => (dats ps).map (d :: ·)
end
mutual
theorem dat_dp {w : Wd} {L : Addr → Prop} : ∀ (p : P) (v : V) (d : PyData), RepX K w.H L p v → dat p = some d → Dp K w.H v d
  | .non, v, d, r, h => by
    simp only [dat, Option.some.injEq] at h
    subst h
    simp only [RepX] at r
    subst r
    exact .non
  | .bl b, v, d, r, h => by
    simp only [dat, Option.some.injEq] at h
    subst h
    simp only [RepX] at r
    subst r
    exact .bl b
  | .int i, v, d, r, h => by
    simp only [dat, Option.some.injEq] at h
    subst h
    simp only [RepX] at r
    subst r
    exact .int i
  | .str x, v, d, r, h => by
    simp only [dat, Option.some.injEq] at h
    subst h
    simp only [RepX] at r
    subst r
    exact .str x
  | .tup ps, v, d, r, h => by
    simp only [dat, Option.map_eq_some_iff] at h
    obtain ⟨ds, h1, rfl⟩ := h
    simp only [RepX] at r
    obtain ⟨a, vs, rfl, s, r⟩ := r
    exact .tup (tq s) (dats_dp ps vs ds r h1)
  | .lst ps, v, d, r, h => by
    simp only [dat, Option.map_eq_some_iff] at h
    obtain ⟨ds, h1, rfl⟩ := h
    simp only [RepX] at r
    obtain ⟨a, vs, rfl, _, s, r⟩ := r
    exact .lst (SqL.of s) (dats_dp ps vs ds r h1)
  | .scr _, v, d, r, h => by simp [dat] at h
  | .dK _ _, v, d, r, h => by simp [dat] at h
  | .dT _ _, v, d, r, h => by simp [dat] at h
theorem dats_dp {w : Wd} {L : Addr → Prop} : ∀ (ps : List P) (vs : List V) (ds : List PyData), RepXs K w.H L ps vs → dats ps = some ds → DpAll K w.H vs ds
  | [], vs, ds, r, h => by
    simp only [dats, Option.some.injEq] at h
    subst h
    simp only [RepXs] at r
    subst r
    exact .nil
  | p :: ps, vs, ds, r, h => by
    simp only [dats, Option.bind_eq_some_iff, Option.map_eq_some_iff] at h
    obtain ⟨d, h1, ds', h2, rfl⟩ := h
    simp only [RepXs] at r
    obtain ⟨v, us, rfl, r1, r2⟩ := r
    exact .cons (dat_dp p v d r1 h1) (dats_dp ps us ds' r2 h2)
end
theorem dat_dpB {w : Wd} {p : P} {v : V} {d : PyData} (r : RepB K w p v) (h : dat p = some d) : Dp K w.H v d := by
  cases p with
  | lst ps =>
    simp only [dat, Option.map_eq_some_iff] at h
    obtain ⟨ds, h1, rfl⟩ := h
    obtain ⟨a, vs, rfl, s, r⟩ := r
    exact .lst (SqL.of s) (dats_dp ps vs ds r h1)
  | dK _ _ => simp [dat] at h
  | dT _ _ => simp [dat] at h
  | _ => exact dat_dp _ v d r h
def rEqZ (K : PySem.W.Frag) : R2 := fun x y H Q => rEq x y H Q ∨ rEqD K x y H Q
def rNeZ (K : PySem.W.Frag) : R2 := fun x y H Q => rNe x y H Q ∨ rNeD K x y H Q
theorem op_eqZ {X : Cx} (hu : X.A.units + 64 < cLine) : OpR X (compareOp .Eq) (rEqZ X.K) := op_eq.or (op_eqD hu)
theorem op_neZ {X : Cx} (hu : X.A.units + 64 < cLine) : OpR X (compareOp .NotEq) (rNeZ X.K) := op_ne.or (op_neD hu)
def eqP : P → P → Option Bool
  | .int i, .int j => some (decide (i = j))
  | .str a, .str b => some (decide (a = b))
  | .bl a, .bl b => some (decide (a = b))
  | .non, .non => some true
  | .int _, .str _ => some false
  | .str _, .int _ => some false
  | .int _, .non => some false
  | .non, .int _ => some false
  | .str _, .non => some false
  | .non, .str _ => some false
  | x, y => (dat x).bind fun d => (dat y).bind fun e => if SeqAt.shaped d = true ∧ SeqAt.shaped e = true then some (PyData.eqv d e) else none
def gEq (x y : P) : Option D := (eqP x y).map fun b => .val (.bl b)
def gNe (x y : P) : Option D := (eqP x y).map fun b => .val (.bl (!b))
theorem eq_key {w : Wd} {x y : P} {vx vy : V} {b : Bool} (rx : RepB K w x vx) (ry : RepB K w y vy) (h : eqP x y = some b) :
    (scal vx vy = true ∧ b = decide (vx = vy)) ∨ ∃ d e, Dp K w.H vx d ∧ Dp K w.H vy e ∧ SeqAt.shaped d = true ∧ SeqAt.shaped e = true ∧ b = PyData.eqv d e := by
  unfold eqP at h
  split at h
  · cases h; cases rx; cases ry; exact .inl ⟨rfl, by simp⟩
  · cases h; cases rx; cases ry; exact .inl ⟨rfl, by simp⟩
  · cases h; cases rx; cases ry; exact .inl ⟨rfl, by simp⟩
  · cases h; cases rx; cases ry; exact .inl ⟨rfl, by simp⟩
  · cases h; cases rx; cases ry; exact .inl ⟨rfl, by simp⟩
  · cases h; cases rx; cases ry; exact .inl ⟨rfl, by simp⟩
  · cases h; cases rx; cases ry; exact .inl ⟨rfl, by simp⟩
  · cases h; cases rx; cases ry; exact .inl ⟨rfl, by simp⟩
  · cases h; cases rx; cases ry; exact .inl ⟨rfl, by simp⟩
  · cases h; cases rx; cases ry; exact .inl ⟨rfl, by simp⟩
  · simp only [Option.bind_eq_some_iff] at h
    obtain ⟨d, h1, e, h2, h3⟩ := h
    split at h3
    · rename_i hs
      cases h3
      exact .inr ⟨d, e, dat_dpB rx h1, dat_dpB ry h2, hs.1, hs.2, rfl⟩
    · cases h3
theorem sr_eq : SR2 K (rEqZ K) gEq := by
  intro w x y vx vy Q d rx ry h q
  simp only [gEq, Option.map_eq_some_iff] at h
  obtain ⟨b, h1, rfl⟩ := h
  rcases eq_key rx ry h1 with ⟨h2, rfl⟩ | ⟨d, e, h2, h3, h4, h5, rfl⟩
  · exact .inl ⟨h2, q.pure rfl⟩
  · exact .inr ⟨d, e, h2, h3, h4, h5, q.pure rfl⟩
theorem sr_ne : SR2 K (rNeZ K) gNe := by
  intro w x y vx vy Q d rx ry h q
  simp only [gNe, Option.map_eq_some_iff] at h
  obtain ⟨b, h1, rfl⟩ := h
  rcases eq_key rx ry h1 with ⟨h2, rfl⟩ | ⟨d, e, h2, h3, h4, h5, rfl⟩
  · exact .inl ⟨h2, q.pure rfl⟩
  · exact .inr ⟨d, e, h2, h3, h4, h5, q.pure rfl⟩
section
variable {X : Cx}
def rInT (K : PySem.W.Frag) (neg : Bool) : R2 := fun x y H Q => ∃ d ds, Dp K H x d ∧ Dp K H y (.tuple ds) ∧ SeqAt.shaped d = true ∧ SeqAt.shaped (.tuple ds) = true ∧ Q (.bl (if neg then !ds.any fun z => PyData.eqv z d else ds.any fun z => PyData.eqv z d)) H
theorem op_inT (hu : X.A.units + 65 < cLine) : OpR X (compareOp .In) (rInT X.K false) := by
  intro pins sh σ H x y v u Q I rx ry h
  obtain ⟨da, es, hd, he, shd, she, q⟩ := h
  obtain ⟨ra, q1⟩ := Dp.reads I da x v hd rx
  obtain ⟨bs, q2⟩ := Dp.reads I (.tuple es) y u he ry
  exact SeqAt.in_tuple_reads q2 q1 (by have := SeqAt.canLay_of_shaped she; simpa [PyData.canLay0] using this) (SeqAt.canLay_of_shaped shd) (room_in_shaped shd hu) ⟨.bl _, H, I, rfl, q⟩
theorem op_notInT (hu : X.A.units + 65 < cLine) : OpR X (compareOp .NotIn) (rInT X.K true) := by
  intro pins sh σ H x y v u Q I rx ry h
  obtain ⟨da, es, hd, he, shd, she, q⟩ := h
  obtain ⟨ra, q1⟩ := Dp.reads I da x v hd rx
  obtain ⟨bs, q2⟩ := Dp.reads I (.tuple es) y u he ry
  exact SeqAt.notIn_tuple_reads q2 q1 (by have := SeqAt.canLay_of_shaped she; simpa [PyData.canLay0] using this) (SeqAt.canLay_of_shaped shd) (room_in_shaped shd hu) ⟨.bl _, H, I, rfl, q⟩
end
end Z
namespace ZS
open PySem PyProof.Rows SrtO HT
theorem lexLt_total : ∀ {a b : List Int}, lexLt a b = false → lexLt b a = false → a = b
  | [], [], _, _ => rfl
  | [], y :: ys, h, _ => by simp [HT.lexLt] at h
  | x :: xs, [], _, h => by simp [HT.lexLt] at h
  | x :: xs, y :: ys, h1, h2 => by
    rw [lexLt_cons] at h1 h2
    by_cases e : x = y
    · subst e
      rw [if_pos rfl] at h1 h2
      rw [lexLt_total h1 h2]
    · rw [if_neg e] at h1
      rw [if_neg (fun z => e z.symm)] at h2
      simp at h1 h2
      exact absurd (Int.le_antisymm h2 h1) e
theorem lexLt_asym : ∀ {a b : List Int}, lexLt a b = true → lexLt b a = false
  | [], [], h => by simp [HT.lexLt] at h
  | [], y :: ys, h => by simp [HT.lexLt]
  | x :: xs, [], h => by simp [HT.lexLt] at h
  | x :: xs, y :: ys, h => by
    rw [lexLt_cons] at h ⊢
    by_cases e : x = y
    · subst e
      rw [if_pos rfl] at h ⊢
      exact lexLt_asym h
    · rw [if_neg e] at h
      rw [if_neg (fun z => e z.symm)]
      simp at h ⊢
      omega
theorem lexLt_trF : ∀ {a b c : List Int}, lexLt a b = false → lexLt b c = false → lexLt a c = false
  | a, b, [], _, _ => by cases a <;> simp [HT.lexLt]
  | [], [], z :: zs, h1, h2 => by simp [HT.lexLt] at h2
  | [], y :: ys, z :: zs, h1, h2 => by simp [HT.lexLt] at h1
  | x :: xs, [], z :: zs, h1, h2 => by simp [HT.lexLt] at h2
  | x :: xs, y :: ys, z :: zs, (h1), h2 => by
    rw [lexLt_cons] at h1 h2 ⊢
    by_cases e1 : x = y
    · subst e1
      rw [if_pos rfl] at h1
      by_cases e2 : x = z
      · subst e2
        rw [if_pos rfl] at h2 ⊢
        exact lexLt_trF h1 h2
      · rw [if_neg e2] at h2 ⊢
        exact h2
    · rw [if_neg e1] at h1
      simp at h1
      by_cases e2 : y = z
      · subst e2
        rw [if_neg e1]
        simp
        exact h1
      · rw [if_neg e2] at h2
        simp at h2
        have : x ≠ z := by omega
        rw [if_neg this]
        simp
        omega
theorem swo_lexL (k : Value → List Int) : Swo fun v u => lexLt (k v) (k u) := ⟨fun _ _ h => lexLt_asym h, fun _ _ _ h1 h2 => lexLt_trF h2 h1⟩
section
variable {w : World} {prog : Program} {A : Around} {E : Value → Shared → Prop} {s : Shared}
theorem lex_kat : ∀ {us vs : List Value} {ns ms : List Int} {i : Nat} {b : Bool}, IntsAre us ns → IntsAre vs ms →
    PySem.W.KatLex prog w A b (decide (us.length < vs.length)) (fun r s' => s' = s ∧ r = lexLt ns ms) (us.zip vs) i s
  | [], [], ns, ms, i, b, h1, h2 => by
    cases h1
    cases h2
    exact PySem.W.kat_nil ⟨rfl, rfl⟩
  | [], v :: vs, ns, ms, i, b, h1, h2 => by
    cases h1
    cases h2
    exact PySem.W.kat_nil ⟨rfl, by simp [HT.lexLt]⟩
  | u :: us, [], ns, ms, i, b, h1, h2 => by
    cases h1
    cases h2
    exact PySem.W.kat_nil ⟨rfl, by simp [HT.lexLt]⟩
  | u :: us, v :: vs, ns, ms, i, b, h1, h2 => by
    cases h1 with
    | cons x t h1 =>
      cases h2 with
      | cons y t' h2 =>
        refine PySem.W.kat_cons (SeqAt.EqAt.int_int x t y t' prog w _ _ ?_)
        refine PySem.W.kat_go (fun e1 => ?_) fun e1 => ?_
        · have ex : x = y := by simpa using e1
          subst ex
          refine PySem.W.kat_yes ?_
          have q := lex_kat (i := i + 1) (b := b) h1 h2
          have e2 : decide ((Value.int x t :: us).length < (Value.int x t' :: vs).length) = decide (us.length < vs.length) := by simp
          rw [e2, lexLt_cons, if_pos rfl]
          exact q
        · have ex : ¬ x = y := by simpa using e1
          refine PySem.W.kat_no (TS.oneLt_ints _ ⟨rfl, ?_⟩)
          rw [lexLt_cons, if_neg ex]
theorem tup_cmp {vs : List Value} {k : Value → List Int} (hp : ∀ v ∈ vs, TS.TupInts s.heap v (k v)) : Cmp prog w A s (tuples' true) (fun p => p.1 ∈ vs) (lt2 fun v u => lexLt (k v) (k u)) := by
  intro p q hm hm'
  obtain ⟨a, xs, e, ⟨o, ho, hc, n, hd⟩, hi⟩ := hp _ hm
  obtain ⟨a', xs', e', ⟨o', ho', hc', n', hd'⟩, hi'⟩ := hp _ hm'
  show wpAny (model prog w) A (keyLt' (tuples' true) p.1 q.1) (fun r s' => s' = s ∧ r = lexLt (k p.1) (k q.1)) (fun _ _ => False) s
  generalize k p.1 = ns at hi ⊢
  generalize k q.1 = ms at hi' ⊢
  rw [e, e']
  refine (PySem.W.kat_lt ho hd ho' hd' ?_)
  have q := lex_kat (prog := prog) (w := w) (A := A) (s := s) (i := 0) (b := true) hi hi'
  simpa using q
theorem firsts_tups {h : Heap} : ∀ {vs : List Value}, (∀ v ∈ vs, ∃ ns, TS.TupInts h v ns ∧ ns ≠ []) → ∃ fs : List Value, PySem.W.KatTups h vs fs ∧ fs.length = vs.length ∧ ∀ f ∈ fs, ∃ x t, f = Value.int x t
  | [], _ => ⟨[], PySem.W.KatTups.nil, rfl, fun _ hm => (nomatch hm)⟩
  | v :: vs, hp => by
    obtain ⟨fs, h1, h2, h3⟩ := firsts_tups (vs := vs) fun v' hm => hp v' (List.mem_cons_of_mem _ hm)
    obtain ⟨ns, ⟨a, xs, rfl, ⟨o, ho, hc, n, hd⟩, hi⟩, hne⟩ := hp v List.mem_cons_self
    obtain ⟨xl⟩ := xs
    cases xl with
    | nil =>
      cases hi
      exact absurd rfl hne
    | cons x xl =>
      cases hi with
      | cons i t hi =>
        refine ⟨.int i t :: fs, PySem.W.KatTups.cons ho hc hd rfl h1, by simp [h2], fun f hf => ?_⟩
        rcases List.mem_cons.mp hf with (rfl | hf)
        · exact ⟨i, t, rfl⟩
        · exact h3 f hf
theorem TupInts.keeps' {h h' : Heap} {v : Value} {ns : List Int} (x : TS.TupInts h v ns) (k : ∀ b o, h.get? b = some o → o.cls = .type "tuple" → h'.get? b = some o) : TS.TupInts h' v ns := by
  obtain ⟨a, xs, e, ⟨ob, ho, hc, hd⟩, i⟩ := x
  exact ⟨a, xs, e, ⟨ob, k _ _ ho hc, hc, hd⟩, i⟩
theorem tups_sortable {a : Addr} {vs : List Value} {k : Value → List Int} (h0 : 0 < vs.length) (hp : ∀ v ∈ vs, TS.TupInts s.heap v (k v) ∧ k v ≠ []) (ha : ∀ o, s.heap.get? a = some o → o.cls ≠ .type "tuple") : SortableO prog w A s a vs fun v u => lexLt (k v) (k u) := by
  intro h' keep
  have hp' : ∀ v ∈ vs, TS.TupInts h' v (k v) := fun v hm => TupInts.keeps' (hp v hm).1 fun b o e c => keep b o (fun z => by subst z; exact ha o e c) e
  obtain ⟨fs, h1, h2, h3⟩ := firsts_tups fun v hm => ⟨_, hp' v hm, (hp v hm).2⟩
  refine ⟨tuples' true, fun Q E hq => ?_, tup_cmp hp'⟩
  refine (PySem.W.kat_kind (T := .type "int") h1 (by omega) (fun f hm => ?_) (by rfl) ?_)
  · obtain ⟨n, t, rfl⟩ := h3 f hm
    exact PySem.W.Looks.now
  · have ne : (Value.type "int" != Value.type "tuple") = true := by first | rfl | decide +kernel
    rw [ne]
    exact hq
end
end ZS
namespace ZS
open PySem PyProof.Rows SrtO HT PySem.Calls
section
variable {w : World} {prog : Program} {A : Around} {E : Value → Shared → Prop} {sh : Shared}
theorem collect_tup {ad : Addr} {its : List Value} {Q : List Value → Shared → Prop} (htu : IsTup sh.heap ad its.toArray)
    (h : Q its { sh with heap := (sh.heap.push (seqObj "list" #[] 0)).update sh.heap.objs.size (Obj.mapSeq (· ++ its.toArray)) }) (hsz : its.length ≤ sizeLine := by size_fits) :
    wpAny (model prog w) A (collect (.ref ad)) Q E sh := by
  obtain ⟨o, ho, hc, n, hd⟩ := id htu
  unfold collect
  refine (wpAny_bind (wpAny_runValue ?_))
  refine codeAny_builtin entry_proto_collect' ?_
  show wpAny _ _ (do again (.builtin "list.__iadd__" ⟨[← newList [], .ref ad], []⟩)) _ _ sh
  refine wpAny_bind (wpAny_newList (wpAny_pure ?_))
  refine ⟨Code.quiet_builtin _ (by decide +kernel), ?_⟩
  refine codeAny_builtin entry_list_iadd' ?_
  show wpAny _ _ (Builtin.List.listExtendWith (.ref sh.heap.objs.size) (.ref ad) (.ref sh.heap.objs.size)) _ _ { sh with heap := sh.heap.push (seqObj "list" #[] 0) }
  rw [Builtin.List.listExtendWith]
  have hob : (sh.heap.push (seqObj "list" #[] 0)).get? ad = some o := Heap.get?_push_of_some _ ho
  refine wpAny_bind (wpAny_typeOf (T := "tuple") ⟨o, hob, hc⟩ ?_)
  have ht : (Value.type "tuple" == Value.type "tuple") = true := by rfl
  rw [if_pos (by simp [ht])]
  refine wpAny_bind (listItems_at hob hd ?_)
  refine wpAny_bind ?_
  refine listItems_at (n := 0) (xs := #[]) (Heap.get?_push_size _ rfl) rfl ?_
  rw [if_neg (by simp)]
  refine wpAny_bind (listUpdate_at (xs := #[]) (n := 0) (Heap.get?_push_size _ rfl) rfl ?_ (Nat.zero_le _) (by show (#[] ++ its.toArray).size ≤ sizeLine + 1; simp only [Array.size_append, List.size_toArray, List.length_nil]; omega))
  refine wpAny_pure ?_
  show (wpAny (model prog w) A (do
      let o ← load sh.heap.objs.size
      match o.data with
      | .seq xs _ => pure xs.toList
      | _ => unsupported "internal:collect") Q E { sh with heap := (sh.heap.push (seqObj "list" #[] 0)).update sh.heap.objs.size (Obj.mapSeq (· ++ its.toArray)) })
  refine wpAny_bind ?_
  refine wpAny_load (get?_update_seq (Heap.get?_push_size _ rfl) _) ?_
  show wpAny _ _ (pure ((#[] : Array Value) ++ its.toArray).toList) Q E _
  rw [show ((#[] : Array Value) ++ its.toArray).toList = its by simp]
  exact wpAny_pure h
theorem sorted_ordT {ad : Addr} {its : List Value} {ltv : Value → Value → Bool} {Q : Value → Shared → Prop} (O : Swo ltv) (htu : IsTup sh.heap ad its.toArray) (hfit : its.length ≤ sizeLine)
    (hS : 2 ≤ its.length → ∀ (h₁ : Heap) (a : Addr), h₁.get? a = some (seqObj "list" its.toArray 0) → (∀ b o, sh.heap.get? b = some o → b ≠ a ∧ h₁.get? b = some o) → SortableO prog w A.in1.in1 { sh with heap := h₁ } a its ltv)
    (h : ∀ out : List Value, Srtd ltv out → Stb ltv out its → Q (.ref (sh.heap.objs.size + 1)) { sh with heap := sortedAll sh.heap its out.toArray }) :
    wpAny (model prog w) A (call (.builtin "sorted") [.ref ad]) Q E sh := by
  refine (Calls.call_function_entry kind_sorted plain_sorted entry_sorted (args_sorted1 _) ?_)
  unfold Builtin.«sorted»
  refine (wpAny_bind (m := checkCount "sorted" 1 1 _) (wpAny_pure ?_))
  refine wpAny_bind (collect_tup htu ?_ hfit)
  refine wpAny_bind (wpAny_newList ?_ hfit)
  have hsz : ((sh.heap.push (seqObj "list" #[] 0)).update sh.heap.objs.size (Obj.mapSeq (· ++ its.toArray))).objs.size = sh.heap.objs.size + 1 := by
    rw [Heap.size_update]; rw [size_push']
  have hoL : (((sh.heap.push (seqObj "list" #[] 0)).update sh.heap.objs.size (Obj.mapSeq (· ++ its.toArray))).push (seqObj "list" its.toArray 0)).get? (sh.heap.objs.size + 1) = some (seqObj "list" its.toArray 0) := by
    rw [← hsz]
    exact (Heap.get?_push_size _ rfl)
  have keep : ∀ b o, sh.heap.get? b = some o → b ≠ sh.heap.objs.size + 1 ∧ (((sh.heap.push (seqObj "list" #[] 0)).update sh.heap.objs.size (Obj.mapSeq (· ++ its.toArray))).push (seqObj "list" its.toArray 0)).get? b = some o := fun b o hget => by
    have hsm : b < sh.heap.objs.size := Heap.lt_size hget
    refine ⟨Nat.ne_of_lt (Nat.lt_succ_of_lt hsm), Heap.get?_push_of_some _ ?_⟩
    rw [Heap.get?_update_ne _ _ _ _ (Nat.ne_of_lt hsm)]
    exact Heap.get?_push_of_some _ hget
  show wpAny _ _ _ _ _ { sh with heap := ((sh.heap.push (seqObj "list" #[] 0)).update sh.heap.objs.size (Obj.mapSeq (· ++ its.toArray))).push (seqObj "list" its.toArray 0) }
  rw [hsz]
  refine wpAny_bind (wpAny_holding (wpAny_call_entry slot_list_sort ⟨_, hoL, rfl⟩ entry_list_sort (list_sort_ord O hoL hfit (fun h2 => hS h2 _ _ hoL keep) fun out hs hb => ⟨_, rfl, ?_⟩) (args_list_sort _)))
  exact (wpAny_pure ⟨_, rfl, h out hs hb⟩)
end
end ZS

namespace ZS
open PySem PyProof.Rows SrtO HT PySem.Calls
theorem sorted_ordA {prog : Program} {w : World} {A : Around} {E : Value → Shared → Prop} {sh : Shared} {ad : Addr} {its : List Value} {ltv : Value → Value → Bool} {Q : Value → Shared → Prop} (O : Swo ltv) (htu : sh.heap.IsList ad its.toArray ∨ IsTup sh.heap ad its.toArray) (hfit : its.length ≤ sizeLine)
    (hS : 2 ≤ its.length → ∀ (h₁ : Heap) (a : Addr), h₁.get? a = some (seqObj "list" its.toArray 0) → (∀ b o, sh.heap.get? b = some o → b ≠ a ∧ h₁.get? b = some o) → SortableO prog w A.in1.in1 { sh with heap := h₁ } a its ltv)
    (h : ∀ out : List Value, Srtd ltv out → Stb ltv out its → Q (.ref (sh.heap.objs.size + 1)) { sh with heap := sortedAll sh.heap its out.toArray }) :
    wpAny (model prog w) A (call (.builtin "sorted") [.ref ad]) Q E sh :=
  htu.elim (fun h1 => sorted_ord O h1 hfit hS h) fun h1 => sorted_ordT O h1 hfit hS h
end ZS
namespace Z
open PySem.Spec PyProof.Rows L2 PySem
def SqA (K : PySem.W.Frag) (H : Hp) (a : Addr) (xs : List V) : Prop := SqL K H a xs ∨ SqT K H a xs
theorem inv_seq {X : Cx} {pins : List (Addr × Obj)} {σ : L2.St} {H : Hp} {s : Shared} {a : Addr} {xs : List V} (I : Inv X pins σ H s) (h : SqA X.K H a xs) :
    ∃ its : List Value, Vals xs its ∧ (s.heap.IsList a its.toArray ∨ IsTup s.heap a its.toArray) ∧ xs.length ≤ sizeLine := by
  rcases h with h | h
  · obtain ⟨its, rv, hl, hz⟩ := I.list h
    exact ⟨its, rv, .inl hl.isList, hz⟩
  · obtain ⟨its, rv, hl, hz⟩ := I.tuple h
    exact ⟨its, rv, .inr hl, hz⟩
section
variable {X : Cx}
def rSortIA (K : PySem.W.Frag) : List V → Hp → VK → Prop := fun vs H Q => ∃ (a : Addr) (ns : List Int), vs = [V.ref a] ∧ SqA K H a (ns.map V.int) ∧
  ∀ (ms : List Int) (p : Addr), ms.Perm ns → ms.Pairwise (· ≤ ·) → H p = none → Q (.ref p) (upd H p (.lst (ms.map V.int)))
theorem cr_sortIA : CallR X (.builtin "sorted") (rSortIA X.K) := by
  intro pins sh σ H vs us Q I r h
  obtain ⟨ad, ns, rfl, hs, q⟩ := h
  obtain ⟨us2, rv, hl, hz⟩ := inv_seq I hs
  rw [Vals.ref1 r]
  have hi := rv.ints
  refine ZS.sorted_ordA SrtO.swo_int hl (by rw [← rv.length]; exact hz) (fun h2 h₁ a' _ _ => SrtO.ints_sortable hi h2) fun out h1 h2 => ?_
  obtain ⟨k1, k2, k3⟩ := (SrtO.ints_out hi h1 h2)
  obtain ⟨ep, hend⟩ := PyProof.Rows.sortedAll_at sh.heap us2 out.toArray
  have hlen : (List.map V.int (out.map SrtO.iv)).length ≤ sizeLine := by
    rw [List.length_map]; rw [k2.length_eq]
    rw [List.length_map] at hz
    exact hz
  exact ⟨.ref _, upd H (sh.heap.objs.size + 1) (.lst ((out.map SrtO.iv).map V.int)), I.laid (t' := sh.toks) (fun _ _ => PyProof.Rows.sortedAll_old) (Nat.le_succ _) ⟨hlen, out, ep, vals_of_ints k1, hend⟩, rfl, q _ _ k2 k3 (I.hok.fresh (Nat.le_succ _))⟩
def TupH (H : Hp) (x : V) (ns : List Int) : Prop := ∃ t, x = .ref t ∧ H t = some (.tup (ns.map V.int))
def rSortTA (K : PySem.W.Frag) : List V → Hp → VK → Prop := fun vs H Q => ∃ (a : Addr) (xs : List V) (nss : List (List Int)), vs = [V.ref a] ∧ SqA K H a xs ∧ Paired (TupH H) xs nss ∧ (∀ ns ∈ nss, ns ≠ []) ∧
  ∀ ys nss' p, Paired (TupH H) ys nss' → nss'.Perm nss → nss'.Pairwise (fun a b => HT.lexLt b a = false) → H p = none → ys.length = xs.length → Q (.ref p) (upd H p (.lst ys))
theorem paired_tups {H : Hp} {h : Heap} (tr : ∀ x ns u, TupH H x ns → RelV x u → TS.TupInts h u ns) : ∀ {xs : List V} {nss : List (List Int)} {us : List Value}, Paired (TupH H) xs nss → Vals xs us →
    us.map (TS.intsOf h) = nss ∧ (∀ u ∈ us, ∃ t ns, u = Value.ref t ∧ TS.TupInts h u ns ∧ ns = TS.intsOf h u ∧ TupH H (V.ref t) ns)
  | _, _, _, .nil, .nil => ⟨rfl, fun _ h => (nomatch h)⟩
  | _, _, _, .cons (a := x) (b := ns) p ps, .cons (b := u) r rs => by
    obtain ⟨h1, h2⟩ := paired_tups tr ps rs
    have t := tr _ _ _ p r
    have e := t.ints
    obtain ⟨t', rfl, hq⟩ := id p
    cases (show u = Value.ref t' from r)
    refine ⟨by rw [List.map_cons, h1, e], fun v hv => ?_⟩
    rcases List.mem_cons.mp hv with (rfl | hv)
    · exact ⟨t', _, rfl, t, e.symm, p⟩
    · exact h2 v hv
theorem cr_sortTA : CallR X (.builtin "sorted") (rSortTA X.K) := by
  intro pins sh σ H vs us Q I r h
  obtain ⟨a, xs, nss, rfl, hs, hx, hne, q⟩ := h
  obtain ⟨us2, rv, hl, hz⟩ := inv_seq I hs
  rw [Vals.ref1 r]
  obtain ⟨e1, e2⟩ := paired_tups (h := sh.heap) (fun x ns u hx r => by
    obtain ⟨t, rfl, ht⟩ := hx
    cases (show u = Value.ref t from r)
    exact tupI_raw I (tq ht)) hx rv
  have hk : ∀ v ∈ us2, TS.TupInts sh.heap v (TS.intsOf sh.heap v) ∧ TS.intsOf sh.heap v ≠ [] := fun v hv => by
    obtain ⟨t, ns, _, ht, e, _⟩ := e2 v hv
    refine ⟨e ▸ ht, hne _ ?_⟩
    rw [← e1]
    exact List.mem_map.mpr ⟨v, hv, rfl⟩
  refine ZS.sorted_ordA (ZS.swo_lexL fun v => TS.intsOf sh.heap v) hl (by rw [← rv.length]; exact hz) (fun h2 h₁ a' ha kk => ?_) fun out h1 h2 => ?_
  · refine ZS.tups_sortable (s := { sh with heap := h₁ }) (by omega) (fun v hm => ⟨ZS.TupInts.keeps' (hk v hm).1 fun b o e _ => (kk b o e).2, (hk v hm).2⟩) fun o e => ?_
    have e' : some o = some (seqObj "list" us2.toArray 0) := e.symm.trans ha
    cases e'
    intro c
    exact (absurd (Value.type.inj c) (by decide))
  · obtain ⟨ep, hend⟩ := PyProof.Rows.sortedAll_at sh.heap us2 out.toArray
    have h3 : ∀ u ∈ out, ∃ t, u = Value.ref t ∧ TupH H (V.ref t) (TS.intsOf sh.heap u) := fun u hu => by
      obtain ⟨t, ns, e, _, e', p⟩ := e2 u (h2.perm.mem_iff.mp hu)
      exact ⟨t, e, e' ▸ p⟩
    have hlen : (out.map bkV).length ≤ sizeLine := by
      rw [List.length_map, h2.perm.length_eq, ← rv.length]
      exact hz
    have hpair : ∀ l : List Value, (∀ u ∈ l, ∃ t, u = Value.ref t ∧ TupH H (V.ref t) (TS.intsOf sh.heap u)) → Paired (TupH H) (l.map bkV) (l.map (TS.intsOf sh.heap)) := by
      intro l
      induction l with
      | nil => intro _; exact .nil
      | cons u l ih =>
        intro hl
        obtain ⟨t, e, p⟩ := hl u List.mem_cons_self
        subst e
        exact .cons p (ih fun v hv => hl v (List.mem_cons_of_mem _ hv))
    refine ⟨.ref _, upd H (sh.heap.objs.size + 1) (.lst (out.map bkV)), I.laid (t' := sh.toks) (fun _ _ => PyProof.Rows.sortedAll_old) (Nat.le_succ _) ⟨hlen, out, ep, bkV_vals fun u hu => (h3 u hu).imp fun _ z => z.1, hend⟩, rfl,
      q _ (out.map (TS.intsOf sh.heap)) _ (hpair out h3) (by rw [← e1]; exact h2.perm.map _) ?_ (I.hok.fresh (Nat.le_succ _)) ?_⟩
    · rw [List.pairwise_map]
      exact h1
    · rw [List.length_map, h2.perm.length_eq, rv.length]
end
end Z
namespace ZS
open PySem PyProof.Rows L2 PySem.Calls SrtO
abbrev Rw := Addr × List Int
structure Gt (ks : List Rw) (i : Nat) (L : List Rw) : Prop where
  sub : ∀ p ∈ L, p ∈ ks.take i
  all : ∀ p ∈ (ks.take i), p.2 ∈ (L.map (·.2))
theorem Gt.go {ks L : List Rw} {i : Nat} {x : Rw} (g : Gt ks i L) (h : ks[i]? = some x) {M : List Rw} (h1 : x.2 ∈ L.map (·.2) → M = L) (h2 : x.2 ∉ L.map (·.2) → M.Perm (x :: L)) : Gt ks (i + 1) M := by
  have hn := take_next h
  by_cases c : x.2 ∈ L.map (·.2)
  · rw [h1 c]
    constructor
    · intro p hp
      rw [hn]; exact List.mem_append_left _ (g.sub p hp)
    · intro p hp
      rw [hn] at hp
      rcases (List.mem_append.mp hp) with (z | z)
      · exact g.all p z
      · exact (List.mem_singleton.mp z) ▸ c
  · have pm := h2 c
    constructor
    · intro p hp
      rw [hn]
      rcases List.mem_cons.mp (pm.mem_iff.mp hp) with z | z
      · exact List.mem_append_right _ (List.mem_singleton.mpr z)
      · exact (List.mem_append_left _ (g.sub p z))
    · intro p hp
      have pm2 := pm.map (·.2)
      rw [pm2.mem_iff]
      rw [hn] at hp
      rcases (List.mem_append.mp hp) with (z | z)
      · exact (List.mem_cons_of_mem _ (g.all p z))
      · exact (List.mem_singleton.mp z) ▸ List.mem_cons_self
section
variable {P : Program} {w : World} {A : Around} {E : Value → Shared → Prop} {sh : Shared}
end
end ZS
namespace Z
open PySem.Spec PyProof.Rows L2 PySem
variable {K : PySem.W.Frag}

def rInZ (K : PySem.W.Frag) (neg : Bool) : R2 := fun x y H Q => (if neg then rNotInD K x y H Q else rInD K x y H Q) ∨ rInT K neg x y H Q
theorem op_inZ {X : Cx} (hu : X.A.units + 65 < cLine) : OpR X (compareOp .In) (rInZ X.K false) := (op_inD hu).or (op_inT hu)
theorem op_notInZ {X : Cx} (hu : X.A.units + 65 < cLine) : OpR X (compareOp .NotIn) (rInZ X.K true) := (op_notInD hu).or (op_notInT hu)
def inP (x y : P) : Option Bool := match y with
  | .lst ps => (dat x).bind fun d => (dats ps).bind fun ds => if SeqAt.shaped d = true ∧ SeqAt.shaped (.list ds) = true then some (ds.any fun z => PyData.eqv z d) else none
  | .tup ps => (dat x).bind fun d => (dats ps).bind fun ds => if SeqAt.shaped d = true ∧ SeqAt.shaped (.tuple ds) = true then some (ds.any fun z => PyData.eqv z d) else none
  | _ => none
def gIn (x y : P) : Option D := (inP x y).map fun b => .val (.bl b)
def gNotIn (x y : P) : Option D := (inP x y).map fun b => .val (.bl (!b))
theorem in_key {w : Wd} {x y : P} {vx vy : V} {b : Bool} (rx : RepB K w x vx) (ry : RepB K w y vy) (h : inP x y = some b) :
    ∃ d ds, Dp K w.H vx d ∧ SeqAt.shaped d = true ∧ b = (ds.any fun z => PyData.eqv z d) ∧ ((Dp K w.H vy (.list ds) ∧ SeqAt.shaped (.list ds) = true) ∨ (Dp K w.H vy (.tuple ds) ∧ SeqAt.shaped (.tuple ds) = true)) := by
  unfold inP at h
  split at h
  · rename_i ps
    simp only [Option.bind_eq_some_iff] at h
    obtain ⟨d, h1, ds, h2, h3⟩ := h
    split at h3
    · rename_i hs
      cases h3
      exact ⟨d, ds, dat_dpB rx h1, hs.1, rfl, .inl ⟨dat_dpB ry (by simp [dat, h2]), hs.2⟩⟩
    · cases h3
  · rename_i ps
    simp only [Option.bind_eq_some_iff] at h
    obtain ⟨d, h1, ds, h2, h3⟩ := h
    split at h3
    · rename_i hs
      cases h3
      exact ⟨d, ds, dat_dpB rx h1, hs.1, rfl, .inr ⟨dat_dpB ry (by simp [dat, h2]), hs.2⟩⟩
    · cases h3
  · cases h
theorem sr_in : SR2 K (rInZ K false) gIn := by
  intro w x y vx vy Q d rx ry h q
  simp only [gIn, Option.map_eq_some_iff] at h
  obtain ⟨b, h1, rfl⟩ := h
  obtain ⟨d, ds, h2, h3, rfl, h4 | h4⟩ := in_key rx ry h1
  · exact .inl ⟨d, ds, h2, h4.1, h3, h4.2, q.pure rfl⟩
  · exact .inr ⟨d, ds, h2, h4.1, h3, h4.2, q.pure rfl⟩
theorem sr_notIn : SR2 K (rInZ K true) gNotIn := by
  intro w x y vx vy Q d rx ry h q
  simp only [gNotIn, Option.map_eq_some_iff] at h
  obtain ⟨b, h1, rfl⟩ := h
  obtain ⟨d, ds, h2, h3, rfl, h4 | h4⟩ := in_key rx ry h1
  · exact .inl ⟨d, ds, h2, h4.1, h3, h4.2, q.pure rfl⟩
  · exact .inr ⟨d, ds, h2, h4.1, h3, h4.2, q.pure rfl⟩

def intsP : List P → Option (List Int)
  | [] => some []
  | .int i :: ps => (intsP ps).map (i :: ·)
  | _ :: _ => none
theorem intsP_spec : ∀ {ps : List P} {ns : List Int}, intsP ps = some ns → ps = ns.map .int
  | [], ns, h => by simp only [intsP, Option.some.injEq] at h; subst h; rfl
  | .int i :: ps, ns, h => by
    simp only [intsP, Option.map_eq_some_iff] at h
    obtain ⟨ms, h1, rfl⟩ := h
    rw [intsP_spec h1]; rfl
  | .non :: _, ns, h => by simp [intsP] at h
  | .bl _ :: _, ns, h => by simp [intsP] at h
  | .str _ :: _, ns, h => by simp [intsP] at h
  | .tup _ :: _, ns, h => by simp [intsP] at h
  | .lst _ :: _, ns, h => by simp [intsP] at h
  | .scr _ :: _, ns, h => by simp [intsP] at h
  | .dK _ _ :: _, ns, h => by simp [intsP] at h
  | .dT _ _ :: _, ns, h => by simp [intsP] at h
@[simp] theorem intsP_map : ∀ ns : List Int, intsP (ns.map .int) = some ns
  | [] => rfl
  | n :: ns => by simp [intsP, intsP_map ns]
theorem repPs_ints {w : Wd} : ∀ {ns : List Int} {vs : List V}, RepPs K w (ns.map .int) vs → vs = ns.map V.int
  | [], vs, h => by
    simp only [List.map_nil, RepPs, RepXs] at h
    exact h
  | n :: ns, vs, h => by
    simp only [List.map_cons, RepPs, RepXs] at h
    obtain ⟨v, r, rfl, h1, h2⟩ := h
    rw [repPs_ints h2]
    simp only [RepX] at h1
    rw [h1]; rfl
theorem ints_repPs {w : Wd} : ∀ ns : List Int, RepPs K w (ns.map .int) (ns.map V.int)
  | [] => by simp [RepPs, RepXs]
  | n :: ns => by
    simp only [List.map_cons, RepPs, RepXs]
    exact ⟨_, _, rfl, rfl, ints_repPs ns⟩
def rLtZ (K : PySem.W.Frag) : R2 := fun x y H Q => rI0 (fun i j => .bl (decide (i < j))) x y H Q ∨ rLtT K x y H Q
theorem op_ltZ {X : Cx} (hu : X.A.units < cLine) : OpR X (compareOp .Lt) (rLtZ X.K) := op_lt.or (op_ltT hu)
def gLt : P → P → Option D
  | .int i, .int j => ans (.bl (decide (i < j)))
  | .tup xs, .tup ys => (intsP xs).bind fun ns => (intsP ys).bind fun ms => ans (.bl (HT.lexLt ns ms))
  | _, _ => none
theorem sr_lt : SR2 K (rLtZ K) gLt := by
  intro w x y vx vy Q d rx ry h q
  cases x with
  | int i => cases y with
    | int j =>
      cases h
      cases rx
      cases ry
      exact .inl ⟨i, j, rfl, rfl, q.pure rfl⟩
    | _ => cases h
  | tup xs => cases y with
    | tup ys =>
      simp only [gLt, Option.bind_eq_some_iff] at h
      obtain ⟨ns, h1, ms, h2, h3⟩ := h
      cases h3
      have e1 := intsP_spec h1
      have e2 := intsP_spec h2
      subst e1 e2
      simp only [RepB, RepP, RepX] at rx ry
      obtain ⟨a, vs, rfl, s1, r1⟩ := rx
      obtain ⟨b, us, rfl, s2, r2⟩ := ry
      rw [repPs_ints r1] at s1
      rw [repPs_ints r2] at s2
      exact .inr ⟨a, b, ns, ms, rfl, rfl, (tq s1), (tq s2), q.pure rfl⟩
    | _ => cases h
  | _ => cases h
def gLe : P → P → Option D
  | .int i, .int j => ans (.bl (decide (i ≤ j)))
  | _, _ => none
theorem sr_le : SR2 K (rI0 fun i j => .bl (decide (i ≤ j))) gLe := by
  intro w x y vx vy Q d rx ry h q
  cases x with
  | int i => cases y with
    | int j =>
      cases h
      cases rx
      cases ry
      exact ⟨i, j, rfl, rfl, q.pure rfl⟩
    | _ => cases h
  | _ => cases h
def gGt : P → P → Option D
  | .int i, .int j => ans (.bl (decide (j < i)))
  | _, _ => none
theorem sr_gt : SR2 K (rI0 fun i j => .bl (decide (j < i))) gGt := by
  intro w x y vx vy Q d rx ry h q
  cases x with
  | int i => cases y with
    | int j =>
      cases h
      cases rx
      cases ry
      exact ⟨i, j, rfl, rfl, q.pure rfl⟩
    | _ => cases h
  | _ => cases h
def gGe : P → P → Option D
  | .int i, .int j => ans (.bl (decide (j ≤ i)))
  | _, _ => none
theorem sr_ge : SR2 K (rI0 fun i j => .bl (decide (j ≤ i))) gGe := by
  intro w x y vx vy Q d rx ry h q
  cases x with
  | int i => cases y with
    | int j =>
      cases h
      cases rx
      cases ry
      exact ⟨i, j, rfl, rfl, q.pure rfl⟩
    | _ => cases h
  | _ => cases h
def isNon : P → Bool
  | .non => true
  | _ => false
theorem isNon_rep {w : Wd} {p : P} {v : V} (r : RepB K w p v) : decide (v = .non) = isNon p := by
  cases p with
  | non => cases r; rfl
  | bl b => cases r; rfl
  | int b => cases r; rfl
  | str b => cases r; rfl
  | tup ps =>
    simp only [RepB, RepP, RepX] at r
    obtain ⟨a, vs, rfl, _⟩ := r
    rfl
  | scr ps =>
    simp only [RepB, RepP, RepX] at r
    obtain ⟨a, rfl, _⟩ := r
    rfl
  | lst ps =>
    obtain ⟨a, vs, rfl, _⟩ := r
    rfl
  | dK ks ps =>
    obtain ⟨a, vs, rfl, _⟩ := r
    rfl
  | dT ks ps =>
    obtain ⟨a, vs, rfl, _⟩ := r
    rfl
def mIsN (m : M P) : M D := fun e => (m e).map fun x => (.val (.bl (isNon x.1)), x.2)
theorem je_isN {t : TE} {m : M P} (h : JB K t m) : JE K (tIsN t) (mIsN m) := by
  intro σ₀ σ w e f Q d e' E G hm hq
  simp only [mIsN, Option.map_eq_some_iff] at hm
  obtain ⟨⟨x, e1⟩, h1, h2⟩ := hm
  cases h2
  refine h σ₀ σ w e f _ x e1 E G h1 fun v w1 f1 ev1 g1 E1 rx => ?_
  rw [isNon_rep rx]
  exact hq _ w1 f1 [] (by simpa using ev1) (by simpa using g1) E1 ⟨rfl, rfl⟩
def mTb (m : M D) : M Bool := fun e => match m e with
  | some (.val (.bl b), e1) => some (b, e1)
  | _ => none
theorem jt_val {t : TE} {m : M D} (h : JE K t m) : JT K (tB t) (mTb m) := by
  intro σ₀ σ w e f Q b e' E G hm hq
  unfold mTb at hm
  split at hm
  · rename_i b1 e1 h1
    cases hm
    refine h σ₀ σ w e f _ _ e' E G h1 fun v w1 fe fv ev1 g1 E1 rx => ?_
    simp only [RepD] at rx
    obtain ⟨rfl, rx⟩ := rx
    exact ⟨b, rx, hq w1 fe (by simpa using ev1) (by simpa using g1) E1⟩
  · cases hm
theorem jt_test {t : TE} {m : M D} (h : JE K t m) : JT K (tTest t) (mTb m) := jt_val h
def mNot (m : M Bool) : M Bool := fun e => (m e).map fun x => (!x.1, x.2)
def mAndT (a b : M Bool) : M Bool := fun e => (a e).bind fun x => if x.1 = true then b x.2 else some (false, x.2)
def mOrT (a b : M Bool) : M Bool := fun e => (a e).bind fun x => if x.1 = true then some (true, x.2) else b x.2
theorem jt_not {t : TT} {m : M Bool} (h : JT K t m) : JT K (tNot t) (mNot m) := by
  intro σ₀ σ w e f Q b e' E G hm hq
  simp only [mNot, Option.map_eq_some_iff] at hm
  obtain ⟨⟨x, e1⟩, h1, h2⟩ := hm
  cases h2
  exact h σ₀ σ w e f _ x e1 E G h1 hq
theorem jt_and {t u : TT} {a b : M Bool} (h1 : JT K t a) (h2 : JT K u b) : JT K (tAnd t u) (mAndT a b) := by
  intro σ₀ σ w e f Q c e' E G hm hq
  simp only [mAndT, Option.bind_eq_some_iff] at hm
  obtain ⟨⟨x, e1⟩, h3, h4⟩ := hm
  refine h1 σ₀ σ w e f _ x e1 E G h3 fun w1 f1 ev1 g1 E1 => ?_
  cases x with
  | true =>
    rw [if_pos rfl] at h4 ⊢
    exact h2 σ₀ σ w1 e1 f1 Q c e' E1 g1 h4 fun w2 f2 ev2 g2 E2 => hq w2 f2 (ev1.trans ev2) g2 E2
  | false =>
    simp only [Bool.false_eq_true, if_false, Option.some.injEq, Prod.mk.injEq] at h4 ⊢
    obtain ⟨rfl, rfl⟩ := h4
    exact hq w1 f1 ev1 g1 E1
theorem jt_or {t u : TT} {a b : M Bool} (h1 : JT K t a) (h2 : JT K u b) : JT K (tOr t u) (mOrT a b) := by
  intro σ₀ σ w e f Q c e' E G hm hq
  simp only [mOrT, Option.bind_eq_some_iff] at hm
  obtain ⟨⟨x, e1⟩, h3, h4⟩ := hm
  refine h1 σ₀ σ w e f _ x e1 E G h3 fun w1 f1 ev1 g1 E1 => ?_
  cases x with
  | true =>
    rw [if_pos rfl] at h4 ⊢
    simp only [Option.some.injEq, Prod.mk.injEq] at h4
    obtain ⟨rfl, rfl⟩ := h4
    exact hq w1 f1 ev1 g1 E1
  | false =>
    simp only [Bool.false_eq_true, if_false] at h4 ⊢
    exact h2 σ₀ σ w1 e1 f1 Q c e' E1 g1 h4 fun w2 f2 ev2 g2 E2 => hq w2 f2 (ev1.trans ev2) g2 E2
def mNotV (m : M D) : M D := fun e => (mTb m e).map fun x => (.val (.bl (!x.1)), x.2)
def mAndV (a b : M D) : M D := fun e => (mTb a e).bind fun x => if x.1 = true then b x.2 else some (.val (.bl false), x.2)
def mOrV (a b : M D) : M D := fun e => (mTb a e).bind fun x => if x.1 = true then some (.val (.bl true), x.2) else b x.2
theorem je_notV {t : TE} {m : M D} (h : JE K t m) : JE K (tNotV t) (mNotV m) := by
  intro σ₀ σ w e f Q d e' E G hm hq
  simp only [mNotV, Option.map_eq_some_iff] at hm
  obtain ⟨⟨x, e1⟩, h1, h2⟩ := hm
  cases h2
  refine jt_val h σ₀ σ w e f _ x e1 E G h1 fun w1 f1 ev1 g1 E1 => ?_
  exact hq _ w1 f1 [] (by simpa using ev1) (by simpa using g1) E1 ⟨rfl, rfl⟩
theorem je_andV {t u : TE} {a b : M D} (h1 : JE K t a) (h2 : JE K u b) : JE K (tAndV t u) (mAndV a b) := by
  intro σ₀ σ w e f Q d e' E G hm hq
  simp only [mAndV, Option.bind_eq_some_iff] at hm
  obtain ⟨⟨x, e1⟩, h3, h4⟩ := hm
  refine jt_val h1 σ₀ σ w e f _ x e1 E G h3 fun w1 f1 ev1 g1 E1 => ?_
  cases x with
  | true =>
    rw [if_pos rfl] at h4 ⊢
    exact h2 σ₀ σ w1 e1 f1 Q d e' E1 g1 h4 fun v w2 f2 fv ev2 g2 E2 r => hq v w2 f2 fv (ev1.trans ev2) g2 E2 r
  | false =>
    simp only [Bool.false_eq_true, if_false, Option.some.injEq, Prod.mk.injEq] at h4 ⊢
    obtain ⟨rfl, rfl⟩ := h4
    exact hq _ w1 f1 [] (by simpa using ev1) (by simpa using g1) E1 ⟨rfl, rfl⟩
theorem je_orV {t u : TE} {a b : M D} (h1 : JE K t a) (h2 : JE K u b) : JE K (tOrV t u) (mOrV a b) := by
  intro σ₀ σ w e f Q d e' E G hm hq
  simp only [mOrV, Option.bind_eq_some_iff] at hm
  obtain ⟨⟨x, e1⟩, h3, h4⟩ := hm
  refine jt_val h1 σ₀ σ w e f _ x e1 E G h3 fun w1 f1 ev1 g1 E1 => ?_
  cases x with
  | true =>
    rw [if_pos rfl] at h4 ⊢
    simp only [Option.some.injEq, Prod.mk.injEq] at h4
    obtain ⟨rfl, rfl⟩ := h4
    exact hq _ w1 f1 [] (by simpa using ev1) (by simpa using g1) E1 ⟨rfl, rfl⟩
  | false =>
    simp only [Bool.false_eq_true, if_false] at h4 ⊢
    exact h2 σ₀ σ w1 e1 f1 Q d e' E1 g1 h4 fun v w2 f2 fv ev2 g2 E2 r => hq v w2 f2 fv (ev1.trans ev2) g2 E2 r
def mIfE (c : M Bool) (a b : M D) : M D := fun e => (c e).bind fun x => if x.1 = true then a x.2 else b x.2
theorem je_ifE {c : TT} {t u : TE} {m : M Bool} {a b : M D} (h0 : JT K c m) (h1 : JE K t a) (h2 : JE K u b) : JE K (tIf c t u) (mIfE m a b) := by
  intro σ₀ σ w e f Q d e' E G hm hq
  simp only [mIfE, Option.bind_eq_some_iff] at hm
  obtain ⟨⟨x, e1⟩, h3, h4⟩ := hm
  refine h0 σ₀ σ w e f _ x e1 E G h3 fun w1 f1 ev1 g1 E1 => ?_
  cases x with
  | true =>
    rw [if_pos rfl] at h4 ⊢
    exact h1 σ₀ σ w1 e1 f1 Q d e' E1 g1 h4 fun v w2 f2 fv ev2 g2 E2 r => hq v w2 f2 fv (ev1.trans ev2) g2 E2 r
  | false =>
    simp only [Bool.false_eq_true, if_false] at h4 ⊢
    exact h2 σ₀ σ w1 e1 f1 Q d e' E1 g1 h4 fun v w2 f2 fv ev2 g2 E2 r => hq v w2 f2 fv (ev1.trans ev2) g2 E2 r

def JL (K : PySem.W.Frag) (t : TA) (m : M (List D)) : Prop :=
  ∀ (σ₀ σ : St) (w : Wd) (e : Env) (f : List Addr) (Q : List V → Hp → Prop) (ds : List D) (e' : Env), EnvR K w e σ₀ σ f → Good w f → m e = some (ds, e') →
    (∀ vs w' fe fv, Ev f w w' (fe ++ fv) → Good w' (fe ++ fv) → EnvR K w' e' σ₀ σ fe → RepDs K w' ds vs fv → Q vs w'.H) → t σ w.H Q
def mLnil : M (List D) := fun e => some ([], e)
def mLcons (m : M D) (n : M (List D)) : M (List D) := fun e => (m e).bind fun x => (n x.2).map fun y => (x.1 :: y.1, y.2)
theorem jl_nil : JL K tNil mLnil := by
  intro σ₀ σ w e f Q as e' E G hm hq
  simp only [mLnil, Option.some.injEq, Prod.mk.injEq] at hm
  obtain ⟨rfl, rfl⟩ := hm
  exact hq [] w f [] (by simpa using Ev.refl f w) (by simpa using G) E ⟨rfl, rfl⟩
theorem jl_cons {ta : TE} {t : TA} {m : M D} {n : M (List D)} (h1 : JE K ta m) (h2 : JL K t n) : JL K (tCons ta t) (mLcons m n) := by
  intro σ₀ σ w e f Q as e' E G hm hq
  simp only [mLcons, Option.bind_eq_some_iff, Option.map_eq_some_iff] at hm
  obtain ⟨⟨d, e1⟩, h3, ⟨as', e2⟩, h4, h5⟩ := hm
  cases h5
  refine h1 σ₀ σ w e f _ d e1 E G h3 fun v w1 fe fv ev g E1 r => ?_
  refine h2 σ₀ σ w1 e1 fe _ as' e2 E1 g.left h4 fun vs w2 fe2 fv2 ev2 g2 E2 rs => ?_
  have ne : ∀ a ∈ fv, a ∉ fe := fun a m q => (List.nodup_append.mp g.nd).2.2 a q a m rfl
  have g3 := Good.frame g ev2 g2
  refine hq (v :: vs) w2 fe2 (fv ++ fv2) (ev.trans ((ev2.frame fv).less fun a m => ?_)) (g3.perm ?_) E2 ⟨v, vs, fv, fv2, rfl, rfl, r.keeps d v fv (Keeps.of g.left ev2 ne), rs⟩
  · simp only [List.mem_append] at m ⊢
    rcases m with z | z | z <;> simp [z]
  · rw [List.append_assoc]
    exact List.Perm.append_left fe2 List.perm_append_comm
def mkTup (ds : List D) : D := match allV ds with
  | some ps => .val (.tup ps)
  | none => .otup ds
def mTup (m : M (List D)) : M D := fun e => (m e).bind fun x => if x.1.length ≤ sizeLine then some (mkTup x.1, x.2) else none
def mLst (m : M (List D)) : M D := fun e => (m e).bind fun x => if x.1.length ≤ sizeLine then some (.olst x.1, x.2) else none
theorem je_tup {t : TA} {m : M (List D)} (h : JL K t m) : JE K (tTup t) (mTup m) := by
  intro σ₀ σ w e f Q d e' E G hm hq
  simp only [mTup, Option.bind_eq_some_iff] at hm
  obtain ⟨⟨ds, e1⟩, h1, h2⟩ := hm
  split at h2
  · rename_i hz
    cases h2
    refine h σ₀ σ w e f _ ds e1 E G h1 fun vs w1 fe fv ev1 g1 E1 rs => ⟨by rw [← rs.length]; exact hz, fun p hn => ?_⟩
    have ev2 : Ev [] w1 (w1.put p (.tup vs) (.inr hn)) [] := (Ev.new hn).less fun _ m => (nomatch m)
    have ev3 : Ev (fe ++ fv) w1 (w1.put p (.tup vs) (.inr hn)) (fe ++ fv) := by simpa using ev2.frame (fe ++ fv)
    have g3 : Good (w1.put p (.tup vs) (.inr hn)) (fe ++ fv) := by simpa using Good.frame (f := []) (g := fe ++ fv) (by simpa using g1) ev2 (Good.nil _)
    have rs2 := rs.keeps ds vs fv (Keeps.new (o := .tup vs) hn)
    refine hq (.ref p) (w1.put p (.tup vs) (.inr hn)) fe fv (ev1.trans ev3) g3 (E1.keeps (Keeps.new hn)) ?_
    unfold mkTup
    split
    · rename_i ps hp
      have := allV_spec hp
      subst this
      obtain ⟨rfl, rp⟩ := RepDs.ofVals rs2
      refine ⟨rfl, ?_⟩
      simp only [RepP, RepX]
      exact ⟨p, vs, rfl, upd_same, rp⟩
    · simp only [RepD]
      exact ⟨p, vs, rfl, upd_same, rs2⟩
  · cases h2
theorem je_lst {t : TA} {m : M (List D)} (h : JL K t m) : JE K (tLst t) (mLst m) := by
  intro σ₀ σ w e f Q d e' E G hm hq
  simp only [mLst, Option.bind_eq_some_iff] at hm
  obtain ⟨⟨ds, e1⟩, h1, h2⟩ := hm
  split at h2
  · rename_i hz
    cases h2
    refine h σ₀ σ w e f _ ds e1 E G h1 fun vs w1 fe fv ev1 g1 E1 rs => ⟨by rw [← rs.length]; exact hz, fun p hn => ?_⟩
    have ev2 : Ev [] w1 (w1.put p (.lst vs) (.inr hn)) [p] := Ev.new hn
    have ev3 : Ev (fe ++ fv) w1 (w1.put p (.lst vs) (.inr hn)) ([p] ++ (fe ++ fv)) := by simpa using ev2.frame (fe ++ fv)
    have g3 : Good (w1.put p (.lst vs) (.inr hn)) ([p] ++ (fe ++ fv)) := Good.frame (f := []) (g := fe ++ fv) (by simpa using g1) ev2 (Good.new hn rfl)
    have pm : ([p] ++ (fe ++ fv)).Perm (fe ++ (p :: fv)) := by
      show (p :: (fe ++ fv)).Perm (fe ++ (p :: fv))
      exact List.perm_middle.symm
    exact hq (.ref p) (w1.put p (.lst vs) (.inr hn)) fe (p :: fv) (ev1.trans (ev3.less fun a m => (pm.mem_iff).mpr m)) (g3.perm pm) (E1.keeps (Keeps.new hn)) (by
      simp only [RepD]
      exact ⟨p, vs, fv, rfl, upd_same, rfl, rs.keeps ds vs fv (Keeps.new hn)⟩)
  · cases h2

def itemsP : P → Option (List P)
  | .lst ps => some ps
  | .tup ps => some ps
  | _ => none
theorem itemsP_rep {w : Wd} {p : P} {ps : List P} {v : V} (r : RepB K w p v) (h : itemsP p = some ps) : ∃ a vs, v = .ref a ∧ SqA K w.H a vs ∧ RepPs K w ps vs := by
  cases p with
  | lst qs =>
    cases h
    obtain ⟨a, vs, e, s, r⟩ := r
    exact ⟨a, vs, e, .inl (SqL.of s), r⟩
  | tup qs =>
    cases h
    simp only [RepB, RepP, RepX] at r
    obtain ⟨a, vs, e, s, r⟩ := r
    exact ⟨a, vs, e, .inr (tq s), r⟩
  | _ => cases h
def rLenZ (K : PySem.W.Frag) : List V → Hp → VK → Prop := fun xs H Q => (∃ x n, xs = [x] ∧ LenV K x H n ∧ Q (.int n) H) ∨ (∃ a kvs, xs = [V.ref a] ∧ Rd H a (.dK kvs) ∧ Q (.int kvs.length) H)
theorem call_lenR {X : Cx} : CallR X (.builtin "len") (fun xs H Q => ∃ a kvs, xs = [V.ref a] ∧ Rd H a (.dK kvs) ∧ Q (.int kvs.length) H) := by
  intro pins sh σ H xs us Q I r h
  obtain ⟨a, kvs, rfl, ha, q⟩ := (h)
  obtain ⟨u, rfl, ru⟩ := (vals1 r)
  cases ru
  exact (d_len I ha fun t s' I' => ⟨.int kvs.length, H, I', ⟨t, rfl⟩, q⟩)
theorem cr_lenZ {X : Cx} : CallR X (.builtin "len") (rLenZ X.K) := call_len.or call_lenR
def gLen : P → Option D
  | .lst ps => ans (.int ps.length)
  | .tup ps => ans (.int ps.length)
  | .scr ns => ans (.int ns.length)
  | .str x => if x.length ≤ sizeLine then ans (.int x.length) else none
  | .dK ks _ => ans (.int ks.length)
  | _ => none
theorem SqL.ofScr {H : Hp} {a : Addr} {vs : List V} (h : (∃ o, H a = some (.frz o (.lst vs))) ∨ SqL K (fun _ => none) a vs) : SqL K H a vs := by
  rcases h with ⟨o, h⟩ | h
  · exact .inl (.inr ⟨o, h⟩)
  · rcases h with (h | ⟨o, h⟩) | h
    · cases h
    · cases h
    · exact .inr h
theorem sc_len : SC1 K (rLenZ K) gLen := by
  intro w x vx Q d rx h q
  cases x with
  | lst ps =>
    cases h
    obtain ⟨a, vs, rfl, s, r⟩ := rx
    exact .inl ⟨.ref a, _, rfl, .inl ⟨vs, SqL.of s, RepPs.length r⟩, q.pure rfl⟩
  | tup ps =>
    cases h
    simp only [RepB, RepP, RepX] at rx
    obtain ⟨a, vs, rfl, s, r⟩ := rx
    exact .inl ⟨.ref a, _, rfl, .inr ⟨vs, (tq s), RepPs.length r⟩, q.pure rfl⟩
  | scr ns =>
    cases h
    simp only [RepB, RepP, RepX] at rx
    obtain ⟨a, rfl, s⟩ := rx
    exact .inl ⟨.ref a, ns.length, rfl, .inl ⟨_, SqL.ofScr s, by simp⟩, q.pure rfl⟩
  | str x =>
    simp only [gLen] at h
    split at h
    · rename_i hz
      cases h
      cases rx
      exact .inl ⟨.str x, _, rfl, ⟨hz, rfl⟩, q.pure rfl⟩
    · cases h
  | dK ks ps =>
    cases h
    obtain ⟨a, kvs, rfl, s, e, r⟩ := rx
    refine .inr ⟨a, kvs, rfl, s, ?_⟩
    have hl : kvs.length = ks.length := by rw [← e.1, List.length_map]
    rw [hl]
    exact q.pure rfl
  | _ => cases h
def gAbs : P → Option D
  | .int i => ans (.int (if i < 0 then -i else i))
  | _ => none
theorem sc_abs : SC1 K (fun xs H Q => ∃ i, xs = [.int i] ∧ Q (.int (if i < 0 then -i else i)) H) gAbs := by
  intro w x vx Q d rx h q
  cases x with
  | int i => cases h; cases rx; exact ⟨i, rfl, q.pure rfl⟩
  | _ => cases h
def gInt : P → Option D
  | .int i => ans (.int i)
  | .bl k => ans (.int (if k then 1 else 0))
  | _ => none
theorem sc_int : SC1 K (fun xs H Q => (∃ i, xs = [.int i] ∧ Q (.int i) H) ∨ ∃ k, xs = [.bl k] ∧ Q (.int (if k then 1 else 0)) H) gInt := by
  intro w x vx Q d rx h q
  cases x with
  | int i => cases h; cases rx; exact .inl ⟨i, rfl, q.pure rfl⟩
  | bl k => cases h; cases rx; exact .inr ⟨k, rfl, q.pure rfl⟩
  | _ => cases h
def gListOf (p : P) : Option D := (itemsP p).map fun ps => .olst (ps.map .val)
theorem sc_list : SC1 K (fun xs H Q => ∃ p ys, xs = [.ref p] ∧ (SqL K H p ys ∨ SqT K H p ys) ∧ ∀ l, H l = none → Q (.ref l) (upd H l (.lst ys))) gListOf := by
  intro w x vx Q d rx h q
  simp only [gListOf, Option.map_eq_some_iff] at h
  obtain ⟨ps, h1, rfl⟩ := h
  obtain ⟨a, vs, rfl, s, r⟩ := itemsP_rep rx h1
  exact ⟨a, vs, rfl, s, fun l hn => q.lst hn r⟩
def gTupOf : P → Option D
  | .lst ps => ans (.tup ps)
  | .tup ps => ans (.tup ps)
  | _ => none
theorem sc_tuple : SC1 K (fun xs H Q => ∃ p ys, xs = [.ref p] ∧ ((SqL K H p ys ∧ ∀ l, H l = none → Q (.ref l) (upd H l (.tup ys))) ∨ (SqT K H p ys ∧ Q (.ref p) H))) gTupOf := by
  intro w x vx Q d rx h q
  cases x with
  | lst ps =>
    cases h
    obtain ⟨a, vs, rfl, s, r⟩ := rx
    exact ⟨a, vs, rfl, .inl ⟨SqL.of s, fun l hn => q.tup hn r⟩⟩
  | tup ps =>
    cases h
    simp only [RepB, RepP, RepX] at rx
    obtain ⟨a, vs, rfl, s, r⟩ := rx
    refine ⟨a, vs, rfl, .inr ⟨(tq s), q.pure ?_⟩⟩
    simp only [RepP, RepX]
    exact ⟨a, vs, rfl, s, r⟩
  | _ => cases h
def gSum : P → Option D
  | .lst ps => (intsP ps).bind fun ns => ans (.int ns.sum)
  | _ => none
theorem sc_sum : SC1 K (rSum K) gSum := by
  intro w x vx Q d rx h q
  cases x with
  | lst ps =>
    simp only [gSum, Option.bind_eq_some_iff] at h
    obtain ⟨ns, h1, h2⟩ := h
    cases h2
    have e1 := intsP_spec h1
    subst e1
    obtain ⟨a, vs, rfl, s, r⟩ := rx
    rw [repPs_ints r] at s
    exact ⟨a, ns, rfl, SqL.of s, q.pure rfl⟩
  | _ => cases h
def blsP : List P → Option (List Bool)
  | [] => some []
  | .bl i :: ps => (blsP ps).map (i :: ·)
  | _ :: _ => none
theorem blsP_spec {w : Wd} : ∀ {ps : List P} {bs : List Bool} {vs : List V}, blsP ps = some bs → RepPs K w ps vs → vs = bs.map V.bl
  | [], bs, vs, h, r => by
    simp only [blsP, Option.some.injEq] at h; subst h
    simp only [RepPs, RepXs] at r; exact r
  | .bl i :: ps, bs, vs, h, r => by
    simp only [blsP, Option.map_eq_some_iff] at h
    obtain ⟨ms, h1, rfl⟩ := h
    simp only [RepPs, RepXs] at r
    obtain ⟨v, us, rfl, r1, r2⟩ := r
    simp only [RepX] at r1
    rw [blsP_spec h1 r2, r1]; rfl
  | .non :: _, bs, vs, h, _ => by simp [blsP] at h
  | .int _ :: _, bs, vs, h, _ => by simp [blsP] at h
  | .str _ :: _, bs, vs, h, _ => by simp [blsP] at h
  | .tup _ :: _, bs, vs, h, _ => by simp [blsP] at h
  | .lst _ :: _, bs, vs, h, _ => by simp [blsP] at h
  | .scr _ :: _, bs, vs, h, _ => by simp [blsP] at h
  | .dK _ _ :: _, bs, vs, h, _ => by simp [blsP] at h
  | .dT _ _ :: _, bs, vs, h, _ => by simp [blsP] at h
def gAll : P → Option D
  | .lst ps => (blsP ps).bind fun bs => ans (.bl (bs.all id))
  | _ => none
theorem sc_all : SC1 K (rAll K) gAll := by
  intro w x vx Q d rx h q
  cases x with
  | lst ps =>
    simp only [gAll, Option.bind_eq_some_iff] at h
    obtain ⟨bs, h1, h2⟩ := h
    cases h2
    obtain ⟨a, vs, rfl, s, r⟩ := rx
    rw [blsP_spec h1 r] at s
    exact ⟨a, bs, rfl, SqL.of s, q.pure rfl⟩
  | _ => cases h
def tupsP : List P → Option (List (List Int))
  | [] => some []
  | .tup qs :: ps => (intsP qs).bind fun ns => if ns = [] then none else (tupsP ps).map (ns :: ·)
  | _ :: _ => none
def tupI (ns : List Int) : P := .tup (ns.map .int)
theorem tupsP_spec : ∀ {ps : List P} {nss : List (List Int)}, tupsP ps = some nss → ps = nss.map tupI ∧ ∀ ns ∈ nss, ns ≠ []
  | [], nss, h => by
    simp only [tupsP, Option.some.injEq] at h; subst h
    exact ⟨rfl, fun _ m => (nomatch m)⟩
  | .tup qs :: ps, nss, h => by
    simp only [tupsP, Option.bind_eq_some_iff] at h
    obtain ⟨ns, h1, h2⟩ := h
    split at h2
    · cases h2
    · rename_i hne
      simp only [Option.map_eq_some_iff] at h2
      obtain ⟨ms, h3, rfl⟩ := h2
      obtain ⟨e, hm⟩ := tupsP_spec h3
      refine ⟨by rw [intsP_spec h1, e]; rfl, fun x m => ?_⟩
      rcases List.mem_cons.mp m with rfl | m
      · exact hne
      · exact hm x m
  | .non :: _, nss, h => by simp [tupsP] at h
  | .bl _ :: _, nss, h => by simp [tupsP] at h
  | .int _ :: _, nss, h => by simp [tupsP] at h
  | .str _ :: _, nss, h => by simp [tupsP] at h
  | .lst _ :: _, nss, h => by simp [tupsP] at h
  | .scr _ :: _, nss, h => by simp [tupsP] at h
  | .dK _ _ :: _, nss, h => by simp [tupsP] at h
  | .dT _ _ :: _, nss, h => by simp [tupsP] at h
theorem tupsP_map : ∀ {nss : List (List Int)}, (∀ ns ∈ nss, ns ≠ []) → tupsP (nss.map tupI) = some nss
  | [], _ => rfl
  | ns :: nss, h => by
    have h1 := h ns List.mem_cons_self
    have h2 := tupsP_map (nss := nss) fun x m => h x (List.mem_cons_of_mem _ m)
    simp [tupsP, tupI, h1, h2]
theorem repPs_tups {w : Wd} : ∀ {nss : List (List Int)} {vs : List V}, RepPs K w (nss.map tupI) vs → Paired (TupH w.H) vs nss
  | [], vs, h => by
    simp only [List.map_nil, RepPs, RepXs] at h
    subst h; exact .nil
  | ns :: nss, vs, h => by
    simp only [List.map_cons, RepPs, RepXs] at h
    obtain ⟨v, r, rfl, h1, h2⟩ := h
    refine .cons ?_ (repPs_tups h2)
    simp only [tupI, RepX] at h1
    obtain ⟨a, us, rfl, s, r1⟩ := h1
    rw [repPs_ints (K := K) (w := w) r1] at s
    exact ⟨a, rfl, s⟩
theorem tups_repPs {w : Wd} : ∀ {nss : List (List Int)} {vs : List V}, Paired (TupH w.H) vs nss → RepPs K w (nss.map tupI) vs
  | _, _, .nil => by simp [RepPs, RepXs]
  | _, _, .cons p ps => by
    simp only [List.map_cons, RepPs, RepXs]
    refine ⟨_, _, rfl, ?_, tups_repPs ps⟩
    obtain ⟨t, rfl, s⟩ := p
    simp only [tupI, RepX]
    exact ⟨t, _, rfl, s, ints_repPs _⟩
def sortI (ns : List Int) : List Int := ns.mergeSort fun a b => decide (a ≤ b)
def sortT (nss : List (List Int)) : List (List Int) := nss.mergeSort fun a b => !HT.lexLt b a
theorem sortI_uniq {ns ns' : List Int} (p : ns'.Perm ns) (h : ns'.Pairwise (· ≤ ·)) : ns' = sortI ns := by
  have q := List.mergeSort_perm ns fun a b => decide (a ≤ b)
  have s := List.pairwise_mergeSort (le := fun a b : Int => decide (a ≤ b)) (fun a b c h1 h2 => by simp at *; omega) (fun a b => by simp; omega) ns
  refine List.Perm.eq_of_pairwise (le := fun a b : Int => a ≤ b) (fun a b _ _ h1 h2 => Int.le_antisymm h1 h2) h (s.imp fun {a b} h => by simpa using h) (p.trans q.symm)
theorem sortT_uniq {ns ns' : List (List Int)} (p : ns'.Perm ns) (h : ns'.Pairwise fun a b => HT.lexLt b a = false) : ns' = sortT ns := by
  have q := List.mergeSort_perm ns fun a b => !HT.lexLt b a
  have s := List.pairwise_mergeSort (le := fun a b : List Int => !HT.lexLt b a) (fun a b c h1 h2 => by
      simp only [Bool.not_eq_true'] at *
      exact ZS.lexLt_trF h2 h1) (fun a b => by
      cases e : HT.lexLt b a with
      | false => rfl
      | true => rw [ZS.lexLt_asym e]; rfl) ns
  refine List.Perm.eq_of_pairwise (le := fun a b : List Int => HT.lexLt b a = false) (fun a b _ _ h1 h2 => (ZS.lexLt_total h2 h1)) h (s.imp fun {a b} h => by simpa using h) (p.trans q.symm)
def rSortZ (K : PySem.W.Frag) : List V → Hp → VK → Prop := fun vs H Q => rSortIA K vs H Q ∨ rSortTA K vs H Q
theorem cr_sortZ {X : Cx} : CallR X (.builtin "sorted") (rSortZ X.K) := cr_sortIA.or cr_sortTA
def gSorted (p : P) : Option D := (itemsP p).bind fun ps => match intsP ps with
  | some ns => some (.olst ((sortI ns).map fun n => .val (.int n)))
  | none => match tupsP ps with
    | some nss => some (.olst ((sortT nss).map fun ns => .val (tupI ns)))
    | none => none
theorem sc_sorted : SC1 K (rSortZ K) gSorted := by
  intro w x vx Q d rx h q
  simp only [gSorted, Option.bind_eq_some_iff] at h
  obtain ⟨ps, h1, h2⟩ := h
  obtain ⟨a, vs, rfl, s, r⟩ := itemsP_rep rx h1
  split at h2
  · rename_i ns hn
    cases h2
    have e := intsP_spec hn
    subst e
    rw [repPs_ints r] at s
    refine .inl ⟨a, ns, rfl, s, fun ns' p pm sr hp => ?_⟩
    rw [sortI_uniq pm sr]
    have z : (sortI ns).map (fun n => D.val (.int n)) = ((sortI ns).map P.int).map .val := by rw [List.map_map]; rfl
    rw [z] at q
    exact q.lst hp (ints_repPs _)
  · split at h2
    · rename_i nss hn
      cases h2
      obtain ⟨e, hne⟩ := tupsP_spec hn
      subst e
      refine .inr ⟨a, vs, nss, rfl, s, repPs_tups r, hne, fun ys nss' p pr pm sr hp _ => ?_⟩
      have e2 := sortT_uniq pm sr
      subst e2
      have z : (sortT nss).map (fun ns => D.val (tupI ns)) = ((sortT nss).map tupI).map .val := by rw [List.map_map]; rfl
      rw [z] at q
      exact q.lst hp (tups_repPs pr)
    · cases h2

def isiP (T : String) : P → Option Bool
  | .int _ => if T = "int" then some true else if T = "bool" ∨ T = "str" ∨ T = "tuple" ∨ T = "list" ∨ T = "dict" then some false else none
  | .bl _ => if T = "int" ∨ T = "bool" then some true else if T = "str" ∨ T = "tuple" ∨ T = "list" ∨ T = "dict" then some false else none
  | .str _ => if T = "str" then some true else if T = "int" ∨ T = "bool" ∨ T = "tuple" ∨ T = "list" ∨ T = "dict" then some false else none
  | .tup _ => if T = "tuple" then some true else if T = "int" ∨ T = "bool" ∨ T = "str" ∨ T = "list" ∨ T = "dict" then some false else none
  | .lst _ => if T = "list" then some true else if T = "int" ∨ T = "bool" ∨ T = "str" ∨ T = "tuple" ∨ T = "dict" then some false else none
  | .non => if T = "int" ∨ T = "bool" ∨ T = "str" ∨ T = "tuple" ∨ T = "list" ∨ T = "dict" then some false else none
  | _ => none
end Z
namespace Z
open PySem.Spec PyProof.Rows L2 PySem
variable {K : PySem.W.Frag}

theorem kit_tab : ∀ a ∈ ["int", "bool", "str", "tuple", "list", "NoneType"], ∀ T ∈ ["int", "bool", "str", "tuple", "list", "dict"], kitB a T = some (decide (a = T) || (decide (a = "bool") && decide (T = "int"))) := by decide +kernel
theorem tyX_tup {w : Wd} {a : Addr} {vs : List V} (h : SqT K w.H a vs) : TyX K w.H (.ref a) (.type "tuple") := by
  rcases h with (h | ⟨o, h⟩) | ⟨o, its, n, h1, h2, _⟩
  · exact .base (.tup h)
  · exact .fTuple h
  · exact .kTuple h1 h2
theorem isi_key {w : Wd} {p : P} {v : V} {T : String} {b : Bool} (r : RepB K w p v) (h : isiP T p = some b) : ∃ a, TyX K w.H v (.type a) ∧ kitB a T = some b := by
  have tab := fun a T (h1 : a ∈ ["int", "bool", "str", "tuple", "list", "NoneType"]) (h2 : T ∈ ["int", "bool", "str", "tuple", "list", "dict"]) => kit_tab a h1 T h2
  cases p with
  | int i =>
    cases r
    refine ⟨"int", .base (.int i), ?_⟩
    simp only [isiP] at h
    split at h
    · rename_i e; cases h; subst e; rw [tab _ _ (by simp) (by simp)]; rfl
    · split at h
      · rename_i e; cases h; rcases e with rfl | rfl | rfl | rfl | rfl <;> (rw [tab _ _ (by simp) (by simp)]; rfl)
      · cases h
  | bl i =>
    cases r
    refine ⟨"bool", .base (.bl i), ?_⟩
    simp only [isiP] at h
    split at h
    · rename_i e; cases h; rcases e with rfl | rfl <;> (rw [tab _ _ (by simp) (by simp)]; rfl)
    · split at h
      · rename_i e; cases h; rcases e with rfl | rfl | rfl | rfl <;> (rw [tab _ _ (by simp) (by simp)]; rfl)
      · cases h
  | str i =>
    cases r
    refine ⟨"str", .base (.str i), ?_⟩
    simp only [isiP] at h
    split at h
    · rename_i e; cases h; subst e; rw [tab _ _ (by simp) (by simp)]; rfl
    · split at h
      · rename_i e; cases h; rcases e with rfl | rfl | rfl | rfl | rfl <;> (rw [tab _ _ (by simp) (by simp)]; rfl)
      · cases h
  | tup ps =>
    simp only [RepB, RepP, RepX] at r
    obtain ⟨a, vs, rfl, s, r⟩ := r
    refine ⟨"tuple", tyX_tup (tq s), ?_⟩
    simp only [isiP] at h
    split at h
    · rename_i e; cases h; subst e; rw [tab _ _ (by simp) (by simp)]; rfl
    · split at h
      · rename_i e; cases h; rcases e with rfl | rfl | rfl | rfl | rfl <;> (rw [tab _ _ (by simp) (by simp)]; rfl)
      · cases h
  | lst ps =>
    obtain ⟨a, vs, rfl, s, r⟩ := r
    refine ⟨"list", .base (.lst s), ?_⟩
    simp only [isiP] at h
    split at h
    · rename_i e; cases h; subst e; rw [tab _ _ (by simp) (by simp)]; rfl
    · split at h
      · rename_i e; cases h; rcases e with rfl | rfl | rfl | rfl | rfl <;> (rw [tab _ _ (by simp) (by simp)]; rfl)
      · cases h
  | non =>
    cases r
    refine ⟨"NoneType", .base .non, ?_⟩
    simp only [isiP] at h
    split at h
    · rename_i e; cases h; rcases e with rfl | rfl | rfl | rfl | rfl | rfl <;> (rw [tab _ _ (by simp) (by simp)]; rfl)
    · cases h
  | _ => cases h
def gIsi (T : String) (p : P) : Option D := (isiP T p).map fun b => .val (.bl b)
theorem je_isi {ta : TE} {ma : M P} (T : String) (ha : JB K ta ma) : JE K (tCB (rIsi K) (tCons ta (tCons (tC (.ty T)) tNil))) (mUn (gIsi T) ma) := by
  intro σ₀ σ w e f Q d e' E G hm hq
  simp only [mUn, Option.bind_eq_some_iff, Option.map_eq_some_iff, gIsi] at hm
  obtain ⟨⟨x, e1⟩, h1, d', ⟨b, h3, h5⟩, h4⟩ := hm
  cases h4
  cases h5
  refine ha σ₀ σ w e f _ x e1 E G h1 fun vx w1 f1 ev1 g1 E1 rx => ?_
  obtain ⟨a, ty, hk⟩ := isi_key rx h3
  exact ⟨vx, .ty T, .type a, .type T, b, rfl, .ty T, ty, kit_ty hk, hq (.bl b) w1 f1 [] (by simpa using ev1) (by simpa using g1) E1 ⟨rfl, rfl⟩⟩

theorem atI_rep {w : Wd} {ps : List P} {vs : List V} {i : Int} {p : P} (r : RepPs K w ps vs) (h : atI ps i = some p) : ∃ v, atI vs i = some v ∧ RepP K w p v := by
  unfold atI at h ⊢
  rw [← RepPs.length r]
  simp only [Option.bind_eq_some_iff] at h
  obtain ⟨j, h1, h2⟩ := h
  obtain ⟨v, h3, h4⟩ := RepPs.get r h2
  exact ⟨v, by rw [h1]; exact h3, h4⟩
def gIx : P → P → Option D
  | .lst ps, .int i => (atI ps i).map .val
  | .tup ps, .int i => (atI ps i).map .val
  | .str z, .int i => if z.length ≤ sizeLine then (atI z.cps.toList i).map fun c => .val (.str ⟨#[c]⟩) else none
  | _, _ => none
theorem sr_ix : SR2 K (rIx K) gIx := by
  intro w x y vx vy Q d rx ry h q
  cases x with
  | lst ps => cases y with
    | int i =>
      simp only [gIx, Option.map_eq_some_iff] at h
      obtain ⟨p, h1, rfl⟩ := h
      obtain ⟨a, vs, rfl, s, r⟩ := rx
      cases ry
      obtain ⟨v, h2, h3⟩ := atI_rep r h1
      exact .inl ⟨a, vs, i, v, rfl, rfl, SqL.of s, h2, q.pure h3⟩
    | _ => cases h
  | tup ps => cases y with
    | int i =>
      simp only [gIx, Option.map_eq_some_iff] at h
      obtain ⟨p, h1, rfl⟩ := h
      simp only [RepB, RepP, RepX] at rx
      obtain ⟨a, vs, rfl, s, r⟩ := rx
      cases ry
      obtain ⟨v, h2, h3⟩ := atI_rep (K := K) (w := w) r h1
      exact .inr (.inl ⟨a, vs, i, v, rfl, rfl, (tq s), h2, q.pure h3⟩)
    | _ => cases h
  | str z => cases y with
    | int i =>
      simp only [gIx] at h
      split at h
      · rename_i hz
        rw [Option.map_eq_some_iff] at h
        obtain ⟨c, h1, rfl⟩ := h
        cases rx
        cases ry
        exact .inr (.inr ⟨z, i, c, rfl, rfl, hz, h1, q.pure rfl⟩)
      · cases h
    | _ => cases h
  | _ => cases h
def chk (i : Nat) (e : Env) : Option Unit := (e[i]?.bind Sl.dat).map fun _ => ()
theorem slot_v {w : Wd} {e : Env} {σ₀ σ : St} {f : List Addr} {i : Nat} {d : D} (E : EnvR K w e σ₀ σ f) (h : e[i]?.bind Sl.dat = some d) : ∃ v fi, σ[i]? = some (some v) ∧ RepD K w d v fi := by
  obtain ⟨s, hs, hd⟩ := Option.bind_eq_some_iff.mp h
  obtain ⟨o₀, o, f1, fi, f2, g1, g2, g3, g4, g5⟩ := E.at hs
  obtain ⟨v, q, r, rr⟩ := Sl.datR g4 hd
  subst q
  exact ⟨v, fi, g2, r⟩
theorem chk_v {w : Wd} {e : Env} {σ₀ σ : St} {f : List Addr} {i : Nat} (E : EnvR K w e σ₀ σ f) (h : chk i e = some ()) : ∃ v, σ[i]? = some (some v) := by
  simp only [chk, Option.map_eq_some_iff] at h
  obtain ⟨d, h1, _⟩ := h
  obtain ⟨v, fi, hv, _⟩ := slot_v E h1
  exact ⟨v, hv⟩
def mOpN (g : P → P → Option D) (i : Nat) (b : M P) : M D := fun e => (chk i e).bind fun _ => (b e).bind fun y => (y.2[i]?.bind Sl.dat).bind fun d => (viewD d).bind fun p => (g p y.1).map fun r => (r, y.2)
theorem je_opN {r : R2} {g : P → P → Option D} {i : Nat} {tb : TE} {mb : M P} (h : SR2 K r g) (hb : JP K tb mb) : JE K (tOp r (tVar i) tb) (mOpN g i mb) := by
  intro σ₀ σ w e f Q d e' E G hm hq
  simp only [mOpN, Option.bind_eq_some_iff, Option.map_eq_some_iff] at hm
  obtain ⟨_, h0, ⟨y, e1⟩, h1, d0, hd, p, h3, r0, h4, h5⟩ := hm
  cases h5
  obtain ⟨v, hv⟩ := chk_v E h0
  refine ⟨v, hv, ?_⟩
  refine hb σ₀ σ w e f _ y e1 E G h1 fun vy w1 f1 ev1 g1 E1 ry => ?_
  obtain ⟨v', fi, hv', rd⟩ := slot_v E1 (Option.bind_eq_some_iff.mpr hd)
  rw [hv] at hv'; cases hv'
  refine h w1 p y v vy Q d (viewD_rep h3 rd) ry.toB h4 fun v2 w2 fv ev2 g2 r2 => ?_
  obtain ⟨a, b, c⟩ := fin ev1 g1 E1 ev2 g2
  exact hq v2 w2 f1 fv a b c r2

def JO (K : PySem.W.Frag) (t : TO) (m : M (Option Int)) : Prop :=
  ∀ (σ₀ σ : St) (w : Wd) (e : Env) (f : List Addr) (Q : Option Int → Hp → Prop) (o : Option Int) (e' : Env), EnvR K w e σ₀ σ f → Good w f → m e = some (o, e') →
    (∀ w' fe, Ev f w w' fe → Good w' fe → EnvR K w' e' σ₀ σ fe → Q o w'.H) → t σ w.H Q
def mOno : M (Option Int) := fun e => some (none, e)
def mOp1 (m : M P) : M (Option Int) := fun e => match m e with
  | some (.int i, e1) => some (some i, e1)
  | _ => none
theorem jo_none : JO K tNoPart mOno := by
  intro σ₀ σ w e f Q o e' E G hm hq
  simp only [mOno, Option.some.injEq, Prod.mk.injEq] at hm
  obtain ⟨rfl, rfl⟩ := hm
  exact hq w f (Ev.refl f w) G E
theorem jo_some {t : TE} {m : M P} (h : JP K t m) : JO K (tPart t) (mOp1 m) := by
  intro σ₀ σ w e f Q o e' E G hm hq
  unfold mOp1 at hm
  split at hm
  · rename_i i e1 h1
    cases hm
    refine h σ₀ σ w e f _ _ e' E G h1 fun v w1 f1 ev1 g1 E1 rx => ?_
    simp only [RepP, RepX] at rx
    exact ⟨i, rx, hq w1 f1 ev1 g1 E1⟩
  · cases hm
def rSlZ (K : PySem.W.Frag) : V → Option Int → Option Int → Hp → VK → Prop := fun x lo hi H Q => rSlL K x lo hi H Q ∨ rSlA K x lo hi H Q ∨ rSlS x lo hi H Q
theorem sl_Z {X : Cx} : L2.SlR X (rSlZ X.K) := sl_list.or (sl_tupA.or sl_str)
def cutP {α : Type} (xs : List α) (lo hi : Option Int) : List α := (xs.drop (HT.sIx xs.length 0 lo)).take (HT.sIx xs.length xs.length hi - HT.sIx xs.length 0 lo)
def gSl (x : P) (lo hi : Option Int) : Option D := match x with
  | .lst ps => some (.olst ((cutP ps lo hi).map .val))
  | .tup ps => ans (.tup (cutP ps lo hi))
  | .str z => if z.length ≤ sizeLine then ans (.str (cutS z lo hi)) else none
  | _ => none
theorem cut_rep {w : Wd} {ps : List P} {vs : List V} (r : RepPs K w ps vs) (lo hi : Option Int) : RepPs K w (cutP ps lo hi) (cutV vs lo hi) := by
  unfold cutP cutV
  rw [RepPs.length r]
  exact (RepPs.sub (RepPs.sub r _).1 _).2
theorem sl_ans {w : Wd} {x : P} {v : V} {lo hi : Option Int} {d : D} {Q : VK} (rx : RepB K w x v) (h : gSl x lo hi = some d) (q : Ans K w d Q) : rSlZ K v lo hi w.H Q := by
  cases x with
  | lst ps =>
    cases h
    obtain ⟨a, vs, rfl, s, r⟩ := rx
    exact .inl ⟨a, vs, rfl, SqL.of s, fun p hn => q.lst hn (cut_rep r lo hi)⟩
  | tup ps =>
    cases h
    simp only [RepB, RepP, RepX] at rx
    obtain ⟨a, vs, rfl, s, r⟩ := rx
    refine .inr (.inl ⟨a, vs, rfl, (tq s), fun e => ?_, fun _ p hn => q.tup hn (cut_rep (K := K) (w := w) r lo hi)⟩)
    have hl : ps.length = vs.length := RepPs.length (K := K) (w := w) r
    have ec : cutP ps lo hi = ps := by
      unfold cutP
      rw [hl, e.1, e.2]
      simp only [Nat.sub_zero, List.drop_zero]
      rw [← hl]
      exact List.take_length
    rw [ec] at q
    refine q.pure ?_
    simp only [RepP, RepX]
    exact ⟨a, vs, rfl, s, r⟩
  | str z =>
    simp only [gSl] at h
    split at h
    · rename_i hz
      cases h
      cases rx
      exact .inr (.inr ⟨z, rfl, hz, q.pure rfl⟩)
    · cases h
  | _ => cases h
def mSl (m : M P) (l u : M (Option Int)) : M D := fun e => (m e).bind fun x => (l x.2).bind fun a => (u a.2).bind fun b => (gSl x.1 a.1 b.1).map fun d => (d, b.2)
theorem je_sl {t : TE} {tl tu : TO} {m : M P} {l u : M (Option Int)} (h : JP K t m) (hl : JO K tl l) (hu : JO K tu u) : JE K (tSl (rSlZ K) t tl tu) (mSl m l u) := by
  intro σ₀ σ w e f Q d e' E G hm hq
  simp only [mSl, Option.bind_eq_some_iff, Option.map_eq_some_iff] at hm
  obtain ⟨⟨x, e1⟩, h1, ⟨a, e2⟩, h2, ⟨b, e3⟩, h3, d0, h4, h5⟩ := hm
  cases h5
  refine h σ₀ σ w e f _ x e1 E G h1 fun v w1 f1 ev1 g1 E1 rx => ?_
  refine hl σ₀ σ w1 e1 f1 _ a e2 E1 g1 h2 fun w2 f2 ev2 g2 E2 => ?_
  refine hu σ₀ σ w2 e2 f2 _ b e3 E2 g2 h3 fun w3 f3 ev3 g3 E3 => ?_
  refine sl_ans ((rx.ev g1 ev2).ev g2 ev3).toB h4 fun v2 w4 fv ev4 g4 r4 => ?_
  obtain ⟨p, q, r⟩ := fin ((ev1.trans ev2).trans ev3) g3 E3 ev4 g4
  exact hq v2 w4 f3 fv p q r r4
def mSlN (i : Nat) (l u : M (Option Int)) : M D := fun e => (chk i e).bind fun _ => (l e).bind fun a => (u a.2).bind fun b => (b.2[i]?.bind Sl.dat).bind fun d => (viewD d).bind fun x => (gSl x a.1 b.1).map fun d => (d, b.2)
theorem je_slN (i : Nat) {tl tu : TO} {l u : M (Option Int)} (hl : JO K tl l) (hu : JO K tu u) : JE K (tSl (rSlZ K) (tVar i) tl tu) (mSlN i l u) := by
  intro σ₀ σ w e f Q d e' E G hm hq
  simp only [mSlN, Option.bind_eq_some_iff, Option.map_eq_some_iff] at hm
  obtain ⟨_, h0, ⟨a, e2⟩, h2, ⟨b, e3⟩, h3, dd, hd, x, hx, d0, h4, h5⟩ := hm
  cases h5
  obtain ⟨v, hv⟩ := chk_v E h0
  refine ⟨v, hv, ?_⟩
  refine hl σ₀ σ w e f _ a e2 E G h2 fun w2 f2 ev2 g2 E2 => ?_
  refine hu σ₀ σ w2 e2 f2 _ b e3 E2 g2 h3 fun w3 f3 ev3 g3 E3 => ?_
  obtain ⟨v', fi, hv', rd⟩ := slot_v E3 (Option.bind_eq_some_iff.mpr hd)
  rw [hv] at hv'; cases hv'
  refine sl_ans (viewD_rep hx rd) h4 fun v2 w4 fv ev4 g4 r4 => ?_
  obtain ⟨p, q, r⟩ := fin (ev2.trans ev3) g3 E3 ev4 g4
  exact hq v2 w4 f3 fv p q r r4

def SMu (K : PySem.W.Frag) (r : V → List V → Hp → VK → Prop) (h : List D → List D → Option (D × List D)) : Prop :=
  ∀ (w : Wd) (a : Addr) (vs : List V) (ds : List D) (g : List Addr) (as : List D) (us : List V) (ga : List Addr) (Q : VK) (d : D) (ds' : List D), w.H a = some (.lst vs) → RepDs K w ds vs g → RepDs K w as us ga → h ds as = some (d, ds') →
    (∀ v vs' gd gs rest, (g ++ ga).Perm ((gs ++ gd) ++ rest) → RepD K w d v gd → RepDs K w ds' vs' gs → Q v (upd w.H a (.lst vs'))) → r (.ref a) us w.H Q
def mMu (h : List D → List D → Option (D × List D)) (i : Nat) (n : M (List D)) : M D := fun e => (match e[i]?.bind Sl.dat with | some (.olst _) => some () | _ => none).bind fun _ => (n e).bind fun x => match x.2[i]? with
  | some s => (match s.dat with | some (.olst ds) => some ds | _ => none).bind fun (ds : List D) => (h ds x.1).map fun (y : D × List D) => (y.1, x.2.set i (s.with (.olst y.2)))
  | none => none
theorem je_mu {r : V → List V → Hp → VK → Prop} {h : List D → List D → Option (D × List D)} {i : Nat} {t : TA} {n : M (List D)} (hh : SMu K r h) (hn : JL K t n) : JE K (tBM K "list" r (tVar i) t) (mMu h i n) := by
  intro σ₀ σ w e f Q d e' E G hm hq
  simp only [mMu, Option.bind_eq_some_iff] at hm
  obtain ⟨_, h0, ⟨as, e1⟩, h1, h2⟩ := hm
  have hl : ∃ ds0, e[i]?.bind Sl.dat = some (.olst ds0) := by
    split at h0
    · rename_i ds0 hd; exact ⟨ds0, hd⟩
    · cases h0
  obtain ⟨ds0, hd0⟩ := hl
  obtain ⟨v0, fi0, hv0, rd0⟩ := slot_v E hd0
  simp only [RepD] at rd0
  obtain ⟨a, vs0, g0, rfl, ha0, _, _⟩ := rd0
  refine ⟨.ref a, hv0, .inl ⟨rfl, vs0, SqL.of ha0⟩, ?_⟩
  refine hn σ₀ σ w e f _ as e1 E G h1 fun us w1 fe fa ev1 g1 E1 ras => ?_
  split at h2
  · rename_i s hs
    simp only [Option.bind_eq_some_iff, Option.map_eq_some_iff] at h2
    obtain ⟨ds, h3, ⟨d1, ds'⟩, h4, h5⟩ := h2
    cases h5
    have hd : s.dat = some (.olst ds) := by
      split at h3
      · rename_i x hx; cases h3; exact hx
      · cases h3
    obtain ⟨o₀, o, f1, fi, f2, b1, b2, b3, b4, b5⟩ := E1.at hs
    obtain ⟨v', q', rd, rr⟩ := Sl.datR b4 hd
    subst q'
    have b2' : σ[i]? = some (some v') := b2
    rw [hv0] at b2'; cases b2'
    simp only [RepD] at rd
    obtain ⟨a', vs, g, e1', ha, rfl, rds⟩ := rd
    cases e1'
    refine hh w1 a vs ds g as us fa Q d1 ds' ha rds ras h4 fun v vs' gd gs rest pm rdv rds' => ?_
    subst b3
    have ho := g1.own a (by simp)
    -- the whole: f1, a, g, f2, fa
    have p1 : ((f1 ++ ((a :: g) ++ f2)) ++ fa).Perm ((a :: (f1 ++ f2)) ++ (g ++ fa)) := by
      have z1 : (f1 ++ ((a :: g) ++ f2)).Perm ((a :: g) ++ (f1 ++ f2)) := by
        rw [← List.append_assoc]; rw [← List.append_assoc]
        exact List.Perm.append_right f2 List.perm_append_comm
      refine (List.Perm.append_right fa z1).trans ?_
      show (a :: ((g ++ (f1 ++ f2)) ++ fa)).Perm (a :: ((f1 ++ f2) ++ (g ++ fa)))
      refine List.Perm.cons a ?_
      exact List.Perm.trans (List.Perm.append_right fa (List.perm_append_comm (l₁ := g) (l₂ := f1 ++ f2))) (List.Perm.of_eq (List.append_assoc _ _ _))
    have p2 : ((a :: (f1 ++ f2)) ++ (g ++ fa)).Perm (((f1 ++ ((a :: gs) ++ f2)) ++ gd) ++ rest) := by
      refine (List.Perm.append_left _ pm).trans ?_
      rw [← List.append_assoc]
      refine List.Perm.append_right rest ?_
      rw [← List.append_assoc]
      refine List.Perm.append_right gd ?_
      show (a :: ((f1 ++ f2) ++ gs)).Perm (f1 ++ (a :: (gs ++ f2)))
      refine List.Perm.trans (List.Perm.cons a ?_) List.perm_middle.symm
      rw [List.append_assoc]
      exact List.Perm.append_left f1 List.perm_append_comm
    have G2 : Good w1 (((f1 ++ ((a :: gs) ++ f2)) ++ gd) ++ rest) := g1.perm (p1.trans p2)
    have G3 := G2.left
    have nd := G3.nd
    have na : a ∉ f1 ++ f2 ∧ a ∉ gs ∧ a ∉ gd := by
      have q : ((f1 ++ ((a :: gs) ++ f2)) ++ gd).Perm (a :: ((f1 ++ f2) ++ (gs ++ gd))) := by
        have z1 : (f1 ++ ((a :: gs) ++ f2)).Perm ((a :: gs) ++ (f1 ++ f2)) := by
          rw [← List.append_assoc]; rw [← List.append_assoc]
          exact List.Perm.append_right f2 List.perm_append_comm
        refine (List.Perm.append_right gd z1).trans ?_
        show (a :: ((gs ++ (f1 ++ f2)) ++ gd)).Perm (a :: ((f1 ++ f2) ++ (gs ++ gd)))
        refine List.Perm.cons a ?_
        exact List.Perm.trans (List.Perm.append_right gd (List.perm_append_comm (l₁ := gs) (l₂ := f1 ++ f2))) (List.Perm.of_eq (List.append_assoc _ _ _))
      have z := (List.nodup_cons.mp (q.nodup_iff.mp nd)).1
      simp only [List.mem_append, not_or] at z ⊢
      exact ⟨z.1, z.2.1, z.2.2⟩
    have kput : ∀ l, a ∉ l → Keeps w1 (w1.put a (.lst vs') (.inl rfl)) l := fun l h => Keeps.put rfl ha ho.1 rfl h
    have E2 := b5 (w1.put a (.lst vs') (.inl rfl)) (s.with (.olst ds')) (some (.ref a)) (a :: gs) (kput _ na.1) (rr _ _ _ (by
      simp only [RepD]
      exact ⟨a, vs', gs, rfl, upd_same, rfl, rds'.keeps ds' vs' gs (kput gs na.2.1)⟩))
    rw [set_same hv0] at E2
    have ev2 : Ev ((f1 ++ ((a :: g) ++ f2)) ++ fa) w1 (w1.put a (.lst vs') (.inl rfl)) ((f1 ++ ((a :: gs) ++ f2)) ++ gd) :=
      (Ev.put rfl ha (by simp)).less fun b m => ((p1.trans p2).mem_iff).mpr (List.mem_append_left _ m)
    exact hq v _ _ gd (ev1.trans ev2) (G3.put rfl) E2 (rdv.keeps d1 v gd (kput gd na.2.2))
  · cases h2
def hApp : List D → List D → Option (D × List D)
  | ds, [d] => if ds.length < sizeLine then some (.val .non, ds ++ [d]) else none
  | _, _ => none
theorem smu_app : SMu K rAppend hApp := by
  intro w a vs ds g as us ga Q d ds' ha r ra h q
  unfold hApp at h
  split at h
  · rename_i d1
    split at h
    · rename_i hz
      cases h
      obtain ⟨v, r1, f1, f2, rfl, rfl, h1, h2⟩ := ra
      obtain ⟨rfl, rfl⟩ := h2
      exact ⟨a, vs, v, rfl, rfl, ha, by rw [← r.length]; exact hz, q .non (vs ++ [v]) [] (g ++ f1) [] (by simp) ⟨rfl, rfl⟩ (r.append (RepDs.one h1))⟩
    · cases h
  · cases h
theorem RepDs.get {w : Wd} : ∀ {ds : List D} {vs : List V} {f : List Addr} {i : Nat} {d : D}, RepDs K w ds vs f → ds[i]? = some d → ∃ v fd fr, vs[i]? = some v ∧ RepD K w d v fd ∧ RepDs K w (ds.eraseIdx i) (vs.eraseIdx i) fr ∧ f.Perm (fr ++ fd)
  | [], _, _, i, d, h, e => by simp at e
  | d0 :: ds, vs, f, 0, d, h, e => by
    obtain ⟨v, r, f1, f2, rfl, rfl, h1, h2⟩ := h
    have e' : d0 = d := by simpa using e
    subst e'
    exact ⟨v, f1, f2, rfl, h1, h2, List.perm_append_comm⟩
  | d0 :: ds, vs, f, i + 1, d, h, e => by
    obtain ⟨v, r, f1, f2, rfl, rfl, h1, h2⟩ := h
    obtain ⟨v', fd, fr, a1, a2, a3, a4⟩ := RepDs.get (i := i) h2 (by simpa using e)
    refine ⟨v', fd, f1 ++ fr, by simpa using a1, a2, ⟨v, _, f1, fr, rfl, rfl, h1, a3⟩, ?_⟩
    rw [List.append_assoc]
    exact List.Perm.append_left f1 a4
def hPopAt : List D → List D → Option (D × List D)
  | ds, [.val (.int i)] => if -(2 ^ 63) ≤ i ∧ i < 2 ^ 63 then (seqIndex? i ds.length).bind fun k => (ds[k]?).map fun d => (d, ds.eraseIdx k) else none
  | _, _ => none
theorem smu_popAt : SMu K rPopAt hPopAt := by
  intro w a vs ds g as us ga Q d ds' ha r ra h q
  unfold hPopAt at h
  split at h
  · rename_i i
    split at h
    · rename_i hz
      simp only [Option.bind_eq_some_iff, Option.map_eq_some_iff] at h
      obtain ⟨k, h1, d1, h2, h3⟩ := h
      cases h3
      obtain ⟨v, r1, f1, f2, rfl, rfl, h4, h5⟩ := ra
      obtain ⟨rfl, rfl⟩ := h5
      simp only [RepD, RepP, RepX] at h4
      obtain ⟨rfl, rfl⟩ := h4
      obtain ⟨v', fd, fr, a1, a2, a3, a4⟩ := r.get h2
      exact ⟨a, vs, i, k, v', rfl, rfl, ha, hz.1, hz.2, by rw [← r.length]; exact h1, a1, q v' _ fd fr [] (by simpa using a4) a2 a3⟩
    · cases h
  · cases h
def hPop : List D → List D → Option (D × List D)
  | ds, [] => (ds[ds.length - 1]?).map fun d => (d, ds.dropLast)
  | _, _ => none
theorem erase_last {α : Type} (l : List α) : l.eraseIdx (l.length - 1) = l.dropLast := by
  rw [List.eraseIdx_eq_take_drop_succ, List.dropLast_eq_take]
  rcases l with _ | ⟨x, l⟩
  · rfl
  · rw [List.drop_of_length_le (by simp)]
    simp
theorem smu_pop : SMu K rPop hPop := by
  intro w a vs ds g as us ga Q d ds' ha r ra h q
  unfold hPop at h
  split at h
  · simp only [Option.map_eq_some_iff] at h
    obtain ⟨d1, h2, h3⟩ := h
    cases h3
    obtain ⟨rfl, rfl⟩ := ra
    obtain ⟨v', fd, fr, a1, a2, a3, a4⟩ := r.get h2
    rw [r.length, erase_last] at a3
    rw [r.length] at a1
    rw [show ds.eraseIdx (vs.length - 1) = ds.dropLast by rw [← r.length, erase_last]] at a3
    exact ⟨a, vs, v', rfl, rfl, ha, a1, q v' _ fd fr [] (by simpa using a4) a2 a3⟩
  · cases h
def rInsert : V → List V → Hp → VK → Prop := fun x vs H Q => ∃ (l : Addr) (xs : List V) (i : Int) (y : V), x = .ref l ∧ vs = [.int i, y] ∧ H l = some (.lst xs) ∧ xs.length < sizeLine ∧ 0 ≤ i ∧ i < 2 ^ 63 ∧ Q .non (upd H l (.lst (xs.take i.toNat ++ [y] ++ xs.drop i.toNat)))
def hInsert : List D → List D → Option (D × List D)
  | ds, [.val (.int i), d] => if ds.length < sizeLine ∧ 0 ≤ i ∧ i < 2 ^ 63 then some (.val .non, ds.take i.toNat ++ [d] ++ ds.drop i.toNat) else none
  | _, _ => none
theorem RepDs.split {w : Wd} : ∀ {ds : List D} {vs : List V} {f : List Addr} (n : Nat), RepDs K w ds vs f → ∃ f1 f2, f = f1 ++ f2 ∧ RepDs K w (ds.take n) (vs.take n) f1 ∧ RepDs K w (ds.drop n) (vs.drop n) f2
  | ds, vs, f, 0, h => ⟨[], f, rfl, by simp [RepDs], by simpa using h⟩
  | [], vs, f, n + 1, h => by
    obtain ⟨rfl, rfl⟩ := h
    exact ⟨[], [], rfl, by simp [RepDs], by simp [RepDs]⟩
  | d :: ds, vs, f, n + 1, h => by
    obtain ⟨v, r, f1, f2, rfl, rfl, h1, h2⟩ := h
    obtain ⟨g1, g2, rfl, a1, a2⟩ := RepDs.split n h2
    exact ⟨f1 ++ g1, g2, by rw [List.append_assoc], ⟨v, _, f1, g1, rfl, rfl, h1, a1⟩, a2⟩
theorem smu_insert : SMu K rInsert hInsert := by
  intro w a vs ds g as us ga Q d ds' ha r ra h q
  unfold hInsert at h
  split at h
  · rename_i i d1
    split at h
    · rename_i hz
      cases h
      obtain ⟨v, r1, f1, f2, rfl, rfl, h4, h5⟩ := ra
      obtain ⟨v2, r2, f3, f4, rfl, rfl, h6, h7⟩ := h5
      obtain ⟨rfl, rfl⟩ := h7
      simp only [RepD, RepP, RepX] at h4
      obtain ⟨rfl, rfl⟩ := h4
      obtain ⟨g1, g2, rfl, a1, a2⟩ := r.split i.toNat
      refine ⟨a, vs, i, v2, rfl, rfl, ha, by rw [← r.length]; exact hz.1, hz.2.1, hz.2.2, q .non _ [] ((g1 ++ f3) ++ g2) [] ?_ ⟨rfl, rfl⟩ ((a1.append (RepDs.one h6)).append a2)⟩
      simp only [List.append_nil, List.nil_append]
      rw [List.append_assoc]; rw [List.append_assoc]
      exact List.Perm.append_left g1 List.perm_append_comm
    · cases h
  · cases h
end Z
namespace Z
open PySem.Spec PyProof.Rows L2 PySem
variable {K : PySem.W.Frag}

theorem slot_put {w : Wd} {e : Env} {σ₀ σ : St} {fe fa : List Addr} {i : Nat} {s : Sl} {ds : List D} (E : EnvR K w e σ₀ σ fe) (G : Good w (fe ++ fa)) (hs : e[i]? = some s) (hd : s.dat = some (.olst ds)) :
    ∃ a vs g, σ[i]? = some (some (.ref a)) ∧ w.H a = some (.lst vs) ∧ RepDs K w ds vs g ∧
      ∀ vs' ds' gd gs rest, (g ++ fa).Perm ((gs ++ gd) ++ rest) → RepDs K w ds' vs' gs → ∃ f', EnvR K (w.put a (.lst vs') (.inl rfl)) (e.set i (s.with (.olst ds'))) σ₀ σ f' ∧
        Ev (fe ++ fa) w (w.put a (.lst vs') (.inl rfl)) (f' ++ gd) ∧ Good (w.put a (.lst vs') (.inl rfl)) (f' ++ gd) ∧ Keeps w (w.put a (.lst vs') (.inl rfl)) gd := by
  obtain ⟨o₀, o, f1, fi, f2, b1, b2, b3, b4, b5⟩ := E.at hs
  obtain ⟨v', q', rd, rr⟩ := Sl.datR b4 hd
  subst q'
  simp only [RepD] at rd
  obtain ⟨a, vs, g, rfl, ha, rfl, rds⟩ := rd
  refine ⟨a, vs, g, b2, ha, rds, fun vs' ds' gd gs rest pm rds' => ?_⟩
  subst b3
  have ho := G.own a (by simp)
  have p1 : ((f1 ++ ((a :: g) ++ f2)) ++ fa).Perm ((a :: (f1 ++ f2)) ++ (g ++ fa)) := by
    have z1 : (f1 ++ ((a :: g) ++ f2)).Perm ((a :: g) ++ (f1 ++ f2)) := by
      rw [← List.append_assoc]; rw [← List.append_assoc]
      exact List.Perm.append_right f2 List.perm_append_comm
    refine (List.Perm.append_right fa z1).trans ?_
    show (a :: ((g ++ (f1 ++ f2)) ++ fa)).Perm (a :: ((f1 ++ f2) ++ (g ++ fa)))
    refine List.Perm.cons a ?_
    exact List.Perm.trans (List.Perm.append_right fa (List.perm_append_comm (l₁ := g) (l₂ := f1 ++ f2))) (List.Perm.of_eq (List.append_assoc _ _ _))
  have p2 : ((a :: (f1 ++ f2)) ++ (g ++ fa)).Perm (((f1 ++ ((a :: gs) ++ f2)) ++ gd) ++ rest) := by
    refine (List.Perm.append_left _ pm).trans ?_
    rw [← List.append_assoc]
    refine List.Perm.append_right rest ?_
    rw [← List.append_assoc]
    refine List.Perm.append_right gd ?_
    show (a :: ((f1 ++ f2) ++ gs)).Perm (f1 ++ (a :: (gs ++ f2)))
    refine List.Perm.trans (List.Perm.cons a ?_) List.perm_middle.symm
    rw [List.append_assoc]
    exact List.Perm.append_left f1 List.perm_append_comm
  have G2 : Good w (((f1 ++ ((a :: gs) ++ f2)) ++ gd) ++ rest) := G.perm (p1.trans p2)
  have G3 := G2.left
  have na : a ∉ f1 ++ f2 ∧ a ∉ gs ∧ a ∉ gd := by
    have q : ((f1 ++ ((a :: gs) ++ f2)) ++ gd).Perm (a :: ((f1 ++ f2) ++ (gs ++ gd))) := by
      have z1 : (f1 ++ ((a :: gs) ++ f2)).Perm ((a :: gs) ++ (f1 ++ f2)) := by
        rw [← List.append_assoc]; rw [← List.append_assoc]
        exact List.Perm.append_right f2 List.perm_append_comm
      refine (List.Perm.append_right gd z1).trans ?_
      show (a :: ((gs ++ (f1 ++ f2)) ++ gd)).Perm (a :: ((f1 ++ f2) ++ (gs ++ gd)))
      refine List.Perm.cons a ?_
      exact List.Perm.trans (List.Perm.append_right gd (List.perm_append_comm (l₁ := gs) (l₂ := f1 ++ f2))) (List.Perm.of_eq (List.append_assoc _ _ _))
    have z := (List.nodup_cons.mp (q.nodup_iff.mp G3.nd)).1
    simp only [List.mem_append, not_or] at z ⊢
    exact ⟨z.1, z.2.1, z.2.2⟩
  have kput : ∀ l, a ∉ l → Keeps w (w.put a (.lst vs') (.inl rfl)) l := fun l h => Keeps.put rfl ha ho.1 rfl h
  have E2 := b5 (w.put a (.lst vs') (.inl rfl)) (s.with (.olst ds')) (some (.ref a)) (a :: gs) (kput _ na.1) (rr _ _ _ (by
    simp only [RepD]
    exact ⟨a, vs', gs, rfl, upd_same, rfl, rds'.keeps ds' vs' gs (kput gs na.2.1)⟩))
  rw [set_same b2] at E2
  have ev2 : Ev ((f1 ++ ((a :: g) ++ f2)) ++ fa) w (w.put a (.lst vs') (.inl rfl)) ((f1 ++ ((a :: gs) ++ f2)) ++ gd) :=
    (Ev.put rfl ha (by simp)).less fun b m => ((p1.trans p2).mem_iff).mpr (List.mem_append_left _ m)
  exact ⟨_, E2, ev2, G3.put rfl, kput gd na.2.2⟩
theorem RepDs.set {w : Wd} : ∀ {ds : List D} {vs : List V} {f : List Addr} {j : Nat} {d : D} {v : V} {fd : List Addr}, RepDs K w ds vs f → RepD K w d v fd → j < ds.length →
    ∃ f' rest, RepDs K w (ds.set j d) (vs.set j v) f' ∧ (f ++ fd).Perm (f' ++ rest)
  | [], _, _, j, d, v, fd, h, r, hj => by simp at hj
  | d0 :: ds, vs, f, 0, d, v, fd, h, r, hj => by
    obtain ⟨v0, r0, f1, f2, rfl, rfl, h1, h2⟩ := h
    refine ⟨fd ++ f2, f1, ⟨v, r0, fd, f2, rfl, rfl, r, h2⟩, ?_⟩
    refine List.perm_append_comm.trans ?_
    rw [List.append_assoc]
    exact List.Perm.append_left fd List.perm_append_comm
  | d0 :: ds, vs, f, j + 1, d, v, fd, h, r, hj => by
    obtain ⟨v0, r0, f1, f2, rfl, rfl, h1, h2⟩ := h
    obtain ⟨f', rest, a1, a2⟩ := RepDs.set (j := j) h2 r (by simpa using hj)
    refine ⟨f1 ++ f', rest, ⟨v0, _, f1, f', rfl, rfl, h1, a1⟩, ?_⟩
    rw [List.append_assoc]; rw [List.append_assoc]
    exact List.Perm.append_left f1 a2
def putAt (i : Nat) (k : P) (d : D) (e : Env) : Option Env := match e[i]?, k with
  | some s, .int k => match s.dat with
    | some (.olst ds) => (ixN ds.length k).map fun j => e.set i (s.with (.olst (ds.set j d)))
    | _ => none
  | _, _ => none
def sSet (i : Nat) (me : M D) (mi : M P) : MS := fun e => (chk i e).bind fun _ => (me e).bind fun x => (mi x.2).bind fun y => (putAt i y.1 x.1 y.2).map fun e2 => (.nx, e2)
theorem ixN_lt {n : Nat} {i : Int} {j : Nat} (h : ixN n i = some j) : j < n := (ixN_seq h).2.1
theorem js_set (i : Nat) {te ti : TE} {me : M D} {mi : M P} (h1 : JE K te me) (h2 : JP K ti mi) : JS K (tAsg te (L2.gSub (tVar i) ti rSetL)) (sSet i me mi) := by
  intro σ₀ σ w e f D o e' E G hm hp
  simp only [sSet, Option.bind_eq_some_iff, Option.map_eq_some_iff] at hm
  obtain ⟨_, h0, ⟨d, e1⟩, h3, ⟨k, e2⟩, h4, e3, h5, h6⟩ := hm
  cases h6
  obtain ⟨v0, hv0⟩ := chk_v E h0
  refine h1 σ₀ σ w e f _ d e1 E G h3 fun v w1 fe fv ev1 g1 E1 r => ?_
  refine ⟨v0, hv0, ?_⟩
  refine h2 σ₀ σ w1 e1 fe _ k e2 E1 g1.left h4 fun vk w2 f2 ev2 g2 E2 rk => ?_
  have ne : ∀ a ∈ fv, a ∉ fe := fun a m q => (List.nodup_append.mp g1.nd).2.2 a q a m rfl
  have g3 := Good.frame g1 ev2 g2
  have r2 := r.keeps d v fv (Keeps.of g1.left ev2 ne)
  unfold putAt at h5
  split at h5
  · rename_i s k' hs hkk
    have hk2 : k = .int k' := hkk
    subst hk2
    split at h5
    · rename_i ds hd
      simp only [Option.map_eq_some_iff] at h5
      obtain ⟨j, hj, h5⟩ := h5
      subst h5
      obtain ⟨a, vs, g, q1, q2, q3, q4⟩ := slot_put E2 g3 hs hd
      rw [hv0] at q1; cases q1
      obtain ⟨f', rest, a1, a2⟩ := q3.set r2 (ixN_lt hj)
      obtain ⟨f3, E3, ev3, g4, _⟩ := q4 (vs.set j v) (ds.set j d) [] f' rest (by simpa using a2) a1
      cases rk
      refine ⟨a, vs, _, j, rfl, rfl, q2, by rw [← q3.length]; exact hj, ?_⟩
      exact hp σ _ f3 ((ev1.trans (ev2.frame fv)).trans (ev3.less fun b m => List.mem_append_left _ m)) g4.left E3
    · cases h5
  · cases h5

def gIAdd : P → P → Option D
  | .int i, .int j => ans (.int (i + j))
  | .str a, .str b => if a.length + b.length ≤ sizeLine then ans (.str (a ++ b)) else none
  | _, _ => none
def rIAdd : R2 := fun x y H Q => rI0 (fun i j => .int (i + j)) x y H Q ∨ (∃ i j, x = .str i ∧ y = .str j ∧ i.length + j.length ≤ sizeLine ∧ Q (.str (i ++ j)) H)
theorem op_iadd {X : Cx} : OpR X (inplaceOp .Add) rIAdd := iop_add.or iop_add_str
theorem sr_iadd : SR2 K rIAdd gIAdd := by
  intro w x y vx vy Q d rx ry h q
  cases x with
  | int i => cases y with
    | int j =>
      cases h
      cases rx
      cases ry
      exact .inl ⟨i, j, rfl, rfl, q.pure rfl⟩
    | _ => cases h
  | str a => cases y with
    | str b =>
      simp only [gIAdd] at h
      split at h
      · rename_i hc
        cases h
        cases rx
        cases ry
        exact .inr ⟨a, b, rfl, rfl, hc, q.pure rfl⟩
      · cases h
    | _ => cases h
  | _ => cases h
def valAt (i : Nat) (e : Env) : Option P := match e[i]?.bind Sl.dat with
  | some (.val p) => some p
  | _ => none
theorem valAt_v {w : Wd} {e : Env} {σ₀ σ : St} {f : List Addr} {i : Nat} {p : P} (E : EnvR K w e σ₀ σ f) (h : valAt i e = some p) : ∃ v, σ[i]? = some (some v) ∧ RepP K w p v := by
  unfold valAt at h
  split at h
  · rename_i q hd
    cases h
    obtain ⟨v, fi, hv, r⟩ := slot_v E hd
    simp only [RepD] at r
    exact ⟨v, hv, r.2⟩
  · cases h
def sAug (g : P → P → Option D) (i : Nat) (m : M P) : MS := fun e => (valAt i e).bind fun p => (m e).bind fun y => (g p y.1).bind fun d => (gN i d y.2).map fun e2 => (.nx, e2)
theorem js_aug {r : R2} {g : P → P → Option D} (i : Nat) {te : TE} {m : M P} (h : SR2 K r g) (hb : JP K te m) : JS K (tAug i te r) (sAug g i m) := by
  intro σ₀ σ w e f D o e' E G hm hp
  simp only [sAug, Option.bind_eq_some_iff, Option.map_eq_some_iff] at hm
  obtain ⟨p, h0, ⟨y, e1⟩, h1, d, h2, e2, h3, h4⟩ := hm
  cases h4
  obtain ⟨v, hv, rp⟩ := valAt_v E h0
  refine ⟨v, hv, ?_⟩
  refine hb σ₀ σ w e f _ y e1 E G h1 fun vy w1 f1 ev1 g1 E1 ry => ?_
  refine h w1 p y v vy _ d (rp.ev G ev1).toB ry.toB h2 fun z w2 fv ev2 g2 rz => ?_
  obtain ⟨a, b, c⟩ := fin ev1 g1 E1 ev2 g2
  exact jg_name i σ₀ σ w2 e1 f1 fv z d (fun σ H => D.nx σ H) e' c b rz h3 fun σ' w' f' _ ev3 g3 E3 => hp σ' w' f' (a.trans ev3) g3 E3
section
variable {X : Cx}
theorem pget_list : PGet X (rIxL X.K) := by
  intro pins sh σ H o i ov iv Q I ro ri h
  obtain ⟨p, xs, k, z, rfl, rfl, hq, he, q⟩ := h
  cases ro
  obtain ⟨t, rfl⟩ := ri
  obtain ⟨us, r, pl, hz⟩ := I.list hq
  obtain ⟨jx, g1, h2, h3, g4, g5⟩ := atI_get he
  obtain ⟨vw, evw, rvw⟩ := r.get h2
  have hl := r.length
  have hn := line63
  have finish : EP X pins σ Q vw sh := ⟨z, H, I, rvw, q⟩
  by_cases h0 : 0 ≤ k
  · have hj : k.toNat = jx := by
      rw [seqIndex_of h0 g5] at g1
      exact Option.some.inj g1
    exact wpAny_getItem_list pl.isList h0 (by omega) (by rw [hj]; simpa using evw) finish
  · have hj : (k + (us.toArray.size : Int)).toNat = jx := by
      rw [seqIndex_neg (by omega) g4] at g1
      rw [List.size_toArray, ← hl]
      exact Option.some.inj g1
    exact wpAny_getItem_list_neg pl.isList (by omega) (by rw [List.size_toArray] <;> omega) (by omega) (by rw [hj]; simpa using evw) finish
end
def sAugS (g : P → P → Option D) (i : Nat) (mi me : M P) : MS := fun e => (chk i e).bind fun _ => (mi e).bind fun k => (k.2[i]?.bind Sl.dat).bind fun d => (viewD d).bind fun x => (match x with | .lst ps => gIx (.lst ps) k.1 | _ => none).bind fun p =>
  (me k.2).bind fun y => (g (frz p) y.1).bind fun z => (putAt i k.1 z y.2).map fun e2 => (.nx, e2)
theorem js_augS {r : R2} {g : P → P → Option D} (i : Nat) {ti te : TE} {mi me : M P} (h : SR2 K r g) (hi : JP K ti mi) (hb : JP K te me) : JS K (tAugS (tVar i) ti te (rIxL K) r rSetL) (sAugS g i mi me) := by
  intro σ₀ σ w e f D o e' E G hm hp
  simp only [sAugS, Option.bind_eq_some_iff, Option.map_eq_some_iff] at hm
  obtain ⟨_, h0, ⟨k, e1⟩, h1, dd, hd, x, hx, p, hix, ⟨y, e2⟩, h2, z, h3, e3, h4, h5⟩ := hm
  cases h5
  obtain ⟨v0, hv0⟩ := chk_v E h0
  refine ⟨v0, hv0, ?_⟩
  refine hi σ₀ σ w e f _ k e1 E G h1 fun vk w1 f1 ev1 g1 E1 rk => ?_
  obtain ⟨v', fi, hv', rd⟩ := slot_v E1 (Option.bind_eq_some_iff.mpr hd)
  rw [hv0] at hv'; cases hv'
  have rx := viewD_rep hx rd
  cases x with
  | lst ps =>
    cases k with
    | int k =>
      simp only [gIx, Option.map_eq_some_iff] at hix
      obtain ⟨p0, hat, rfl⟩ := hix
      obtain ⟨a, vs, rfl, s, rr⟩ := rx
      cases rk
      obtain ⟨vp, ha, rp⟩ := atI_rep rr hat
      refine ⟨a, vs, k, vp, rfl, rfl, SqL.of s, ha, ?_⟩
      refine hb σ₀ σ w1 e1 f1 _ y e2 E1 g1 h2 fun vy w2 f2 ev2 g2 E2 ry => ?_
      refine h w2 p0 y vp vy _ z (rp.ev g1 ev2).toB ry.toB h3 fun vz w3 fv ev3 g3 rz => ?_
      obtain ⟨q1, q2, q3⟩ := fin (ev1.trans ev2) g2 E2 ev3 g3
      unfold putAt at h4
      split at h4
      · rename_i s k' hs hk
        cases hk
        split at h4
        · rename_i ds hds
          simp only [Option.map_eq_some_iff] at h4
          obtain ⟨j, hj, h4⟩ := h4
          subst h4
          obtain ⟨a', vs', g', b1, b2, b3, b4⟩ := slot_put q3 q2 hs hds
          rw [hv0] at b1; cases b1
          obtain ⟨f', rest, c1, c2⟩ := b3.set rz (ixN_lt hj)
          obtain ⟨f3, E3, ev4, g4, _⟩ := b4 (vs'.set j vz) (ds.set j z) [] f' rest (by simpa using c2) c1
          exact ⟨a, vs', k, j, rfl, rfl, b2, by rw [← b3.length]; exact hj, hp σ _ f3 (q1.trans (ev4.less fun b m => List.mem_append_left _ m)) g4.left E3⟩
        · cases h4
      · cases h4
    | _ => simp [gIx] at hix
  | _ => simp at hix

def iSeq (K : PySem.W.Frag) (tl : TE) : TI := fun σ H R => tl σ H fun x H1 => ∃ a, x = .ref a ∧ (((∃ xs, SqL K H1 a xs) ∧ R (Itl K a) H1) ∨ ((∃ xs, SqT K H1 a xs) ∧ R (Itt K a) H1))
theorem pi_seq {X : Cx} {tg l : Expr} {tl : TE} (hl : PE X l tl) : PI X tg l (iSeq X.K tl) := by
  refine ⟨fun pins sh σ H R I h => ?_⟩
  refine thn (hl.run pins sh σ H _ I h) fun v sh1 ⟨x, H1, I1, r1, q1⟩ => ?_
  obtain ⟨a, eq1, ⟨⟨xs, hq⟩, q⟩ | ⟨⟨xs, hq⟩, q⟩⟩ := q1
  · subst eq1
    cases r1
    obtain ⟨us, rus, p, hz⟩ := I1.list hq
    refine (wpAny_pyIter_list p.isList ?_)
    refine ⟨sh1.heap.objs.size, [sh1.heap.objs.size], _, _, H1, rfl, I1.kept (t' := sh1.toks) fun b o eq1 => Heap.get?_push_of_some _ eq1, turn_list a _, ⟨_, Heap.get?_push_size _ rfl, rfl, rfl⟩, fun b hb => ?_, q⟩
    have eq1 : b = sh1.heap.objs.size := by simpa using hb
    subst eq1
    exact I1.fpOk (Nat.le_refl _) (I1.hok.fresh Nat.le.refl)
  · subst eq1
    cases r1
    obtain ⟨us, rus, p, hz⟩ := I1.tuple hq
    refine wpAny_pyIter_tuple (show sh1.heap.IsTuple a us.toArray from p) ?_
    refine ⟨sh1.heap.objs.size, [sh1.heap.objs.size], _, _, H1, rfl, I1.kept (t' := sh1.toks) fun b o eq1 => Heap.get?_push_of_some _ eq1, turn_tuple a _, ⟨_, Heap.get?_push_size _ rfl, rfl, rfl⟩, fun b hb => ?_, q⟩
    have eq1 : b = sh1.heap.objs.size := by simpa using hb
    subst eq1
    exact I1.fpOk (Nat.le_refl _) (I1.hok.fresh Nat.le.refl)
def seqD : D → Option (List P)
  | .val (.lst ps) => some ps
  | .val (.tup ps) => some ps
  | .val (.scr ns) => some (ns.map .int)
  | .olst ds => allV ds
  | _ => none
def mSeq (m : M D) : M (List P) := fun e => (m e).bind fun x => (seqD x.1).map fun ps => (ps, x.2)
theorem itR_list {w : Wd} {g : List Addr} {a : Addr} {vs : List V} {ps : List P} (hs : ∀ w1, Keeps w w1 g → SqL K w1.H a vs ∧ ∀ ys, SqL K w1.H a ys → vs.length = ys.length → True) (r : RepPs K w ps vs)
    (hk : ∀ w1, Keeps w w1 g → Keeps w w1 []) : ItR K w g (Itl K a) ps := by
  refine ⟨fun w1 i k hi => ?_, fun w1 i k hi => ?_, fun w1 i x H' p k hy hp => ?_⟩
  · have h := (hs w1 k).1
    have hl := RepPs.length r
    exact ⟨vs, vs[i]'(by omega), h, List.getElem?_eq_getElem _⟩
  · have hl := RepPs.length r
    exact ⟨vs, (hs w1 k).1, by omega⟩
  · obtain ⟨rfl, hy⟩ := hy
    refine ⟨w1, rfl, Ev.refl _ _, ?_⟩
    obtain ⟨v, h1, h2⟩ := RepPs.get r hp
    have h3 := hy vs (hs w1 k).1
    rw [h3] at h1; cases h1
    exact h2.keeps (hk w1 k) p x
theorem itR_tup {w : Wd} {g : List Addr} {a : Addr} {vs : List V} {ps : List P} (s : SqT K w.H a vs) (r : RepPs K w ps vs) : ItR K w g (Itt K a) ps := by
  have hs : ∀ w1, Keeps w w1 g → SqT K w1.H a vs := fun w1 k => sqT_keeps k.imm s
  have hl := RepPs.length r
  refine ⟨fun w1 i k hi => ⟨vs, vs[i]'(by omega), hs w1 k, List.getElem?_eq_getElem _⟩, fun w1 i k hi => ⟨vs, hs w1 k, by omega⟩, fun w1 i x H' p k hy hp => ?_⟩
  obtain ⟨rfl, hy⟩ := hy
  refine ⟨w1, rfl, Ev.refl _ _, ?_⟩
  obtain ⟨v, h1, h2⟩ := RepPs.get r hp
  have h3 := hy vs (hs w1 k)
  rw [h3] at h1; cases h1
  exact h2.keeps (k.weak fun _ m => (nomatch m)) p x
theorem ji_seq {t : TE} {m : M D} (h : JE K t m) : JI K (iSeq K t) (mSeq m) := by
  intro σ₀ σ w e f R ps e' E G hm hq
  simp only [mSeq, Option.bind_eq_some_iff, Option.map_eq_some_iff] at hm
  obtain ⟨⟨x, e1⟩, h1, ps', h2, h3⟩ := hm
  cases h3
  refine h σ₀ σ w e f _ x e1 E G h1 fun v w' fe fv ev g E' r => ?_
  have wk : ∀ w1, Keeps w' w1 fv → Keeps w' w1 [] := fun w1 k => k.weak fun _ m => (nomatch m)
  have val : ∀ p, x = .val p → ∃ a, v = .ref a ∧ (((∃ xs, SqL K w'.H a xs) ∧ R (Itl K a) w'.H) ∨ ((∃ xs, SqT K w'.H a xs) ∧ R (Itt K a) w'.H)) := fun p hx => by
    subst hx
    simp only [RepD] at r
    obtain ⟨rfl, r⟩ := r
    cases p with
    | lst qs =>
      cases h2
      simp only [RepP, RepX] at r
      obtain ⟨a, vs, rfl, hF, s, r⟩ := r
      exact ⟨a, rfl, .inl ⟨⟨vs, SqL.of s⟩, hq _ w' fe [] ev g E' (itR_list (fun w1 k => ⟨SqL.of (k.fro a _ s hF), fun _ _ _ => trivial⟩) r wk)⟩⟩
    | tup qs =>
      cases h2
      simp only [RepP, RepX] at r
      obtain ⟨a, vs, rfl, s, r⟩ := r
      exact ⟨a, rfl, .inr ⟨⟨vs, (tq s)⟩, hq _ w' fe [] ev g E' (itR_tup (tq s) r)⟩⟩
    | scr ns =>
      cases h2
      simp only [RepP, RepX] at r
      obtain ⟨a, rfl, s⟩ := r
      refine ⟨a, rfl, .inl ⟨⟨_, SqL.ofScr s⟩, hq _ w' fe [] ev g E' (itR_list (fun w1 k => ⟨?_, fun _ _ _ => trivial⟩) (ints_repPs ns) wk)⟩⟩
      rcases s with ⟨o, s⟩ | s
      · exact SqL.ofScr (.inl ⟨o, k.imm a _ s rfl⟩)
      · exact SqL.ofScr (.inr s)
    | _ => cases h2
  cases x with
  | val p => exact val p rfl
  | olst ds =>
    have e1 := allV_spec h2
    subst e1
    simp only [RepD] at r
    obtain ⟨a, vs, gg, rfl, s, rfl, r⟩ := r
    obtain ⟨eg, r2⟩ := RepDs.ofVals r
    subst eg
    exact ⟨a, rfl, .inl ⟨⟨vs, SqL.of s⟩, hq _ w' fe [a] ev g E' (itR_list (fun w1 k => ⟨SqL.of (k.own a (by simp) _ s), fun _ _ _ => trivial⟩) r2 wk)⟩⟩
  | _ => cases h2
def mRng1 (m : M P) : M (List P) := fun e => match m e with
  | some (.int j, e1) => if -(2 ^ 62) ≤ j ∧ j < 2 ^ 62 then some ((List.range j.toNat).map fun k => .int (k : Nat), e1) else none
  | _ => none
theorem itR_rng {w : Wd} {g : List Addr} (lo : Int) (n : Nat) : ItR K w g (Itr lo n) ((List.range n).map fun k => .int (lo + (k : Nat))) := by
  refine ⟨fun w1 i k hi => (by simp at hi; exact hi), fun w1 i k hi => (by simp at hi; exact hi), fun w1 i x H' p k hy hp => ?_⟩
  obtain ⟨rfl, rfl⟩ := hy
  refine ⟨w1, rfl, Ev.refl _ _, ?_⟩
  rw [List.getElem?_map] at hp
  simp only [Option.map_eq_some_iff] at hp
  obtain ⟨j, h1, rfl⟩ := hp
  rw [List.getElem?_range] at h1
  · cases h1; rfl
  · have := (List.getElem?_eq_some_iff.mp h1).1
    simpa using this
theorem ji_rng1 {t : TE} {m : M P} (h : JP K t m) : JI K (iRng1 (tCons t tNil)) (mRng1 m) := by
  intro σ₀ σ w e f R ps e' E G hm hq
  unfold mRng1 at hm
  split at hm
  · rename_i j e1 h1
    split at hm
    · rename_i hb
      cases hm
      refine h σ₀ σ w e f _ _ e' E G h1 fun v w' fe ev g E' r => ?_
      simp only [RepP, RepX] at r
      subst r
      refine ⟨j, rfl, hb.1, hb.2, ?_⟩
      have z := itR_rng (K := K) (w := w') (g := []) 0 j.toNat
      simp only [Int.zero_add] at z
      exact hq _ w' fe [] (by simpa using ev) (by simpa using g) E' z
    · cases hm
  · cases hm
end Z
namespace Z
open PySem.Spec PyProof.Rows L2 PySem

structure QE (K : PySem.W.Frag) (X : Cx) (e : Expr) (t : TE) (m : M D) : Prop where
  p : PE X e t
  j : JE K t m
structure QP (K : PySem.W.Frag) (X : Cx) (e : Expr) (t : TE) (m : M P) : Prop where
  p : PE X e t
  j : JP K t m
structure QB (K : PySem.W.Frag) (X : Cx) (e : Expr) (t : TE) (m : M P) : Prop where
  p : PE X e t
  j : JB K t m
structure QT (K : PySem.W.Frag) (X : Cx) (e : Expr) (t : TT) (m : M Bool) : Prop where
  p : PT X e t
  j : JT K t m
structure QW (K : PySem.W.Frag) (X : Cx) (e : Expr) (t : TT) (m : M Bool) : Prop where
  p : PW X e t
  j : JT K t m
structure QA (K : PySem.W.Frag) (X : Cx) (es : List Expr) (t : TA) (m : M (List Ar)) : Prop where
  p : PA X es t
  j : JA K t m
structure QL (K : PySem.W.Frag) (X : Cx) (es : List Expr) (t : TA) (m : M (List D)) : Prop where
  p : PA X es t
  j : JL K t m
structure QO (K : PySem.W.Frag) (X : Cx) (e : Option Expr) (t : TO) (m : M (Option Int)) : Prop where
  p : PO X e t
  j : JO K t m
structure QI (K : PySem.W.Frag) (X : Cx) (tg iter : Expr) (t : TI) (m : M (List P)) : Prop where
  p : PI X tg iter t
  j : JI K t m
structure QG (K : PySem.W.Frag) (X : Cx) (cs : List Nat) (tg : Expr) (t : TG) (m : MG) : Prop where
  p : PG X tg t
  j : JG K cs t m
structure QGs (K : PySem.W.Frag) (X : Cx) (cs : List Nat) (n : Nat) (tg : List Expr) (t : TGs) (m : List D → Env → Option Env) : Prop where
  p : PGs X tg t
  j : JGs K cs t m
  l : ∀ ds e e', m ds e = some e' → ds.length = n
structure QS (K : PySem.W.Frag) (X : Cx) (st : Stmt) (t : TS) (m : MS) : Prop where
  p : PS X st t
  j : JS K t m
structure QSs (K : PySem.W.Frag) (X : Cx) (st : List Stmt) (t : TS) (m : MS) : Prop where
  p : PSs X st t
  j : JS K t m
variable {K : PySem.W.Frag} {X : Cx} {pos : Pos} {a b c : Expr} {ta tb tc : TE} {ma mb mc : M P} {da db dc : M D}

theorem QE.P (h : QE K X a ta da) : QP K X a ta (mP da) := ⟨h.p, h.j.toP⟩
theorem QP.E (h : QP K X a ta ma) : QE K X a ta (mV ma) := ⟨h.p, h.j.toE⟩
theorem QP.B (h : QP K X a ta ma) : QB K X a ta ma := ⟨h.p, h.j.toB⟩

theorem qn (i : Nat) {x : Str} (hN : X.N[i]? = some x := by rfl) (hv : Vis X.env.scope x := by first | exact Or.inl rfl | exact Or.inr (Or.inl rfl) | exact Or.inr (Or.inr rfl)) (hd : (x == ("__debug__" : Str)) = false := by decide)
    (hcd : (x == ("__classdict__" : Str)) = false := by decide) : QP K X (.Name x pos) (tVar i) (mN i) := ⟨pe_var hN hv hd hcd, jn i⟩
theorem qw (i : Nat) {x : Str} (hN : X.N[i]? = some x := by rfl) (hv : Vis X.env.scope x := by first | exact Or.inl rfl | exact Or.inr (Or.inl rfl) | exact Or.inr (Or.inr rfl)) (hd : (x == ("__debug__" : Str)) = false := by decide)
    (hcd : (x == ("__classdict__" : Str)) = false := by decide) : QB K X (.Name x pos) (tVar i) (mW i) := ⟨pe_var hN hv hd hcd, jw i⟩
theorem qc_int {i : Int} {j : Nat} : QP K X (.Constant (.int i) j pos) (tC (.int i)) (mC (.int i)) := ⟨pe_int, jc_int i⟩
theorem qc_bl {i : Bool} {j : Nat} : QP K X (.Constant (.bool i) j pos) (tC (.bl i)) (mC (.bl i)) := ⟨pe_bl, jc_bl i⟩
theorem qc_str {i : Str} {j : Nat} : QP K X (.Constant (.str i) j pos) (tC (.str i)) (mC (.str i)) := ⟨pe_str, jc_str i⟩
theorem qc_non {j : Nat} : QP K X (.Constant .none j pos) (tC .non) (mC .non) := ⟨pe_non, jc_non⟩
theorem qc_glob {x : Str} {v : V} {u : Value} {p : P} (hg : Gl X x := by rfl) (hm : X.mg x = some u) (r : RelV v u) (hp : ∀ w : Wd, RepP K w p v) (hd : (x == ("__debug__" : Str)) = false := by decide) : QP K X (.Name x pos) (tC v) (mC p) := ⟨pe_glob hg hm r hd, jc hp⟩

theorem q_bin {op : Operator} {r : R2} {g : P → P → Option D} (ho : OpR X (binaryOp op) r) (hs : SR2 K r g) (ha : QP K X a ta ma) (hb : QP K X b tb mb) : QE K X (.BinOp a op b pos) (tOp r ta tb) (mOp g ma mb) := ⟨pe_op ho ha.p hb.p, je_op hs ha.j hb.j.toB⟩
theorem q_cmp {op : CmpOp} {r : R2} {g : P → P → Option D} (ho : OpR X (compareOp op) r) (hs : SR2 K r g) (ha : QP K X a ta ma) (hb : QB K X b tb mb) (hm : behindInMarks op b = false) : QE K X (.Compare a [op] [b] pos) (tOp r ta tb) (mOp g ma mb) := ⟨pe_cmpR ho ha.p hb.p hm, je_op hs ha.j hb.j⟩
theorem q_cmpT {op : CmpOp} {r : R2} {g : P → P → Option D} (ho : OpR X (compareOp op) r) (hs : SR2 K r g) (ha : QP K X a ta ma) (hb : QB K X b tb mb) (hm : behindInMarks op b = false) : QT K X (.Compare a [op] [b] pos) (tTest (tOp r ta tb)) (mTb (mOp g ma mb)) := ⟨pt_cmpR ho ha.p hb.p hm, jt_test (je_op hs ha.j hb.j)⟩
section
variable (hK : X.K = K)
theorem op_K {f : Value → Value → Sem Value} {r : PySem.W.Frag → R2} (hK : X.K = K) (h : OpR X f (r X.K)) : OpR X f (r K) := hK ▸ h
theorem call_K {f : Value} {r : PySem.W.Frag → List V → Hp → VK → Prop} (hK : X.K = K) (h : CallR X f (r X.K)) : CallR X f (r K) := hK ▸ h
end
theorem q_add (ha : QP K X a ta ma) (hb : QP K X b tb mb) (hK : X.K = K := by rfl) : QE K X (.BinOp a .Add b pos) (tOp (rAddZ K) ta tb) (mOp gAdd ma mb) := q_bin (op_K hK op_addZ) sr_add ha hb
theorem q_sub (ha : QP K X a ta ma) (hb : QP K X b tb mb) : QE K X (.BinOp a .Sub b pos) (tOp (rI0 fun i j => .int (i - j)) ta tb) (mOp gSub ma mb) := q_bin op_sub sr_sub ha hb
theorem q_mul (ha : QP K X a ta ma) (hb : QP K X b tb mb) : QE K X (.BinOp a .Mult b pos) (tOp (rI CMul fun i j => .int (i * j)) ta tb) (mOp gMul ma mb) := q_bin op_mul sr_mul ha hb
theorem q_fdiv (ha : QP K X a ta ma) (hb : QP K X b tb mb) : QE K X (.BinOp a .FloorDiv b pos) (tOp (rI CDivN fun i j => .int (i.fdiv j)) ta tb) (mOp gFdiv ma mb) := q_bin op_fdivN sr_fdiv ha hb
theorem q_mod (ha : QP K X a ta ma) (hb : QP K X b tb mb) : QE K X (.BinOp a .Mod b pos) (tOp (rI (fun _ j => j ≠ 0) fun i j => .int (i.fmod j)) ta tb) (mOp gMod ma mb) := q_bin op_modN sr_mod ha hb
theorem q_pow (ha : QP K X a ta ma) (hb : QP K X b tb mb) : QE K X (.BinOp a .Pow b pos) (tOp (rI CPow fun i j => .int (i ^ j.toNat)) ta tb) (mOp gPow ma mb) := q_bin op_pow sr_pow ha hb
theorem q_shl (ha : QP K X a ta ma) (hb : QP K X b tb mb) : QE K X (.BinOp a .LShift b pos) (tOp (rI CPow fun i j => .int (i * 2 ^ j.toNat)) ta tb) (mOp gShl ma mb) := q_bin op_shl sr_shl ha hb
abbrev Hu (X : Cx) : Prop := X.A.units + 65 < cLine
theorem q_eq (hu : Hu X) (ha : QP K X a ta ma) (hb : QB K X b tb mb) (hK : X.K = K := by rfl) : QE K X (.Compare a [.Eq] [b] pos) (tOp (rEqZ K) ta tb) (mOp gEq ma mb) := q_cmp (op_K hK (op_eqZ (by have : X.A.units + 65 < cLine := hu; omega))) sr_eq ha hb (nomark _)
theorem q_lt (hu : Hu X) (ha : QP K X a ta ma) (hb : QB K X b tb mb) (hK : X.K = K := by rfl) : QE K X (.Compare a [.Lt] [b] pos) (tOp (rLtZ K) ta tb) (mOp gLt ma mb) := q_cmp (op_K hK (op_ltZ (by have : X.A.units + 65 < cLine := hu; omega))) sr_lt ha hb (nomark _)
theorem q_gt (ha : QP K X a ta ma) (hb : QB K X b tb mb) : QE K X (.Compare a [.Gt] [b] pos) (tOp (rI0 fun i j => .bl (decide (j < i))) ta tb) (mOp gGt ma mb) := q_cmp op_gt sr_gt ha hb (nomark _)
theorem QE.T (h : QE K X a ta da) (he : ∀ whole, isTrue a X.env whole = (do let v ← whole; standAt a.pos; holding [v] (truthy v)) := by intro _; rfl) : QT K X a (tB ta) (mTb da) := ⟨pt_val h.p he, jt_val h.j⟩
theorem qt_eq (hu : Hu X) (ha : QP K X a ta ma) (hb : QB K X b tb mb) (hK : X.K = K := by rfl) : QT K X (.Compare a [.Eq] [b] pos) (tTest (tOp (rEqZ K) ta tb)) (mTb (mOp gEq ma mb)) := q_cmpT (op_K hK (op_eqZ (by have : X.A.units + 65 < cLine := hu; omega))) sr_eq ha hb (nomark _)
theorem qt_ne (hu : Hu X) (ha : QP K X a ta ma) (hb : QB K X b tb mb) (hK : X.K = K := by rfl) : QT K X (.Compare a [.NotEq] [b] pos) (tTest (tOp (rNeZ K) ta tb)) (mTb (mOp gNe ma mb)) := q_cmpT (op_K hK (op_neZ (by have : X.A.units + 65 < cLine := hu; omega))) sr_ne ha hb (nomark _)
theorem qt_lt (hu : Hu X) (ha : QP K X a ta ma) (hb : QB K X b tb mb) (hK : X.K = K := by rfl) : QT K X (.Compare a [.Lt] [b] pos) (tTest (tOp (rLtZ K) ta tb)) (mTb (mOp gLt ma mb)) := q_cmpT (op_K hK (op_ltZ (by have : X.A.units + 65 < cLine := hu; omega))) sr_lt ha hb (nomark _)
theorem qt_gt (ha : QP K X a ta ma) (hb : QB K X b tb mb) : QT K X (.Compare a [.Gt] [b] pos) (tTest (tOp (rI0 fun i j => .bl (decide (j < i))) ta tb)) (mTb (mOp gGt ma mb)) := q_cmpT op_gt sr_gt ha hb (nomark _)
theorem qt_ge (ha : QP K X a ta ma) (hb : QB K X b tb mb) : QT K X (.Compare a [.GtE] [b] pos) (tTest (tOp (rI0 fun i j => .bl (decide (j ≤ i))) ta tb)) (mTb (mOp gGe ma mb)) := q_cmpT op_ge sr_ge ha hb (nomark _)
theorem qt_in (hu : Hu X) (ha : QP K X a ta ma) (hb : QB K X b tb mb) (hm : behindInMarks .In b = false := by rfl) (hK : X.K = K := by rfl) : QT K X (.Compare a [.In] [b] pos) (tTest (tOp (rInZ K false) ta tb)) (mTb (mOp gIn ma mb)) := q_cmpT (op_K (r := fun K => rInZ K false) hK (op_inZ hu)) sr_in ha hb hm
theorem qt_notIn (hu : Hu X) (ha : QP K X a ta ma) (hb : QB K X b tb mb) (hm : behindInMarks .NotIn b = false := by rfl) (hK : X.K = K := by rfl) : QT K X (.Compare a [.NotIn] [b] pos) (tTest (tOp (rInZ K true) ta tb)) (mTb (mOp gNotIn ma mb)) := q_cmpT (op_K (r := fun K => rInZ K true) hK (op_notInZ hu)) sr_notIn ha hb hm
theorem qt_isN {j : Nat} {p2 : Pos} (ha : QB K X a ta ma) : QT K X (.Compare a [.Is] [.Constant .none j p2] pos) (tB (tIsN ta)) (mTb (mIsN ma)) := ⟨pt_cmp (pc_isN ha.p), jt_val (je_isN ha.j)⟩
section
variable {rest : List Expr} {t u : TT} {m n : M Bool}
theorem QW.T (h : QW K X a t m) : QT K X a t m := ⟨h.p.pt, h.j⟩
theorem qw_and1 (h : QT K X a t m) : QW K X (.BoolOp .And [a] pos) t m := ⟨pw_and1 h.p, h.j⟩
theorem qw_or1 (h : QT K X a t m) : QW K X (.BoolOp .Or [a] pos) t m := ⟨pw_or1 h.p, h.j⟩
theorem qw_and (ha : QT K X a t m) (hb : QW K X (.BoolOp .And (b :: rest) pos) u n) : QW K X (.BoolOp .And (a :: b :: rest) pos) (tAnd t u) (mAndT m n) := ⟨pw_and ha.p hb.p, jt_and ha.j hb.j⟩
theorem qw_or (ha : QT K X a t m) (hb : QW K X (.BoolOp .Or (b :: rest) pos) u n) : QW K X (.BoolOp .Or (a :: b :: rest) pos) (tOr t u) (mOrT m n) := ⟨pw_or ha.p hb.p, jt_or ha.j hb.j⟩
theorem qt_not (ha : QT K X a t m) : QT K X (.UnaryOp .Not a pos) (tNot t) (mNot m) := ⟨pt_not ha.p, jt_not ha.j⟩
end
theorem q_notV (ha : QE K X a ta da) : QE K X (.UnaryOp .Not a pos) (tNotV ta) (mNotV da) := ⟨pe_not ha.p, je_notV ha.j⟩
theorem q_one {op} (ha : QE K X a ta da) : QE K X (.BoolOp op [a] pos) ta da := ⟨pe_one ha.p, ha.j⟩
theorem q_andV {rest : List Expr} (ha : QE K X a ta da) (hb : QE K X (.BoolOp .And (b :: rest) pos) tb db) : QE K X (.BoolOp .And (a :: b :: rest) pos) (tAndV ta tb) (mAndV da db) := ⟨pe_and ha.p hb.p, je_andV ha.j hb.j⟩
theorem q_orV {rest : List Expr} (ha : QE K X a ta da) (hb : QE K X (.BoolOp .Or (b :: rest) pos) tb db) : QE K X (.BoolOp .Or (a :: b :: rest) pos) (tOrV ta tb) (mOrV da db) := ⟨pe_or ha.p hb.p, je_orV ha.j hb.j⟩
theorem q_ifE {t : TT} {m : M Bool} (hc : QT K X c t m) (ha : QE K X a ta da) (hb : QE K X b tb db) : QE K X (.IfExp c a b pos) (tIf t ta tb) (mIfE m da db) := ⟨pe_ifExp hc.p ha.p hb.p, je_ifE hc.j ha.j hb.j⟩

section
variable {e : Expr} {es : List Expr} {te : TE} {t : TA}
theorem ql_nil : QL K X [] tNil mLnil := ⟨pa_nil, jl_nil⟩
theorem ql_cons {m : M D} {n : M (List D)} (ha : QE K X e te m) (hr : QL K X es t n) (hs : starEach (e :: es) X.env = (false, eval e X.env) :: starEach es X.env := by rfl) : QL K X (e :: es) (tCons te t) (mLcons m n) := ⟨pa_cons ha.p hr.p hs, jl_cons ha.j hr.j⟩
theorem q_tup {x1} {m : M (List D)} (h : QL K X es t m) : QE K X (.Tuple es x1 pos) (tTup t) (mTup m) := ⟨pe_tup h.p, je_tup h.j⟩
theorem q_lst {m : M (List D)} (h : QL K X es t m) : QE K X (.List es pos) (tLst t) (mLst m) := ⟨pe_lst h.p, je_lst h.j⟩
theorem qa_nil : QA K X [] tNil mAnil := ⟨pa_nil, ja_nil⟩
theorem qa_e {m : M D} {n : M (List Ar)} (ha : QE K X e te m) (hr : QA K X es t n) (hs : starEach (e :: es) X.env = (false, eval e X.env) :: starEach es X.env := by rfl) : QA K X (e :: es) (tCons te t) (mAe m n) := ⟨pa_cons ha.p hr.p hs, ja_e ha.j hr.j⟩
theorem qa_n (i : Nat) {x : Str} {p : Pos} {n : M (List Ar)} (hr : QA K X es t n) (hN : X.N[i]? = some x := by rfl) (hv : Vis X.env.scope x := by first | exact Or.inl rfl | exact Or.inr (Or.inl rfl) | exact Or.inr (Or.inr rfl))
    (hd : (x == ("__debug__" : Str)) = false := by decide) (hcd : (x == ("__classdict__" : Str)) = false := by decide) (hs : starEach (.Name x p :: es) X.env = (false, eval (.Name x p) X.env) :: starEach es X.env := by rfl) : QA K X (.Name x p :: es) (tCons (tVar i) t) (mAn i n) := ⟨pa_cons (pe_var hN hv hd hcd) hr.p hs, ja_n i hr.j⟩

structure Has (Pg : Program) (w : World) (K : PySem.W.Frag) (mg : Str → Option Value) (base : Heap) (x : Str) (k : Nat) (ps : List Str) (g : Gf) : Prop where
  ex : ∃ (f : Addr) (fd : FuncData), FnOk Pg w K mg base CX0 k f fd ps (spF K g) ∧ mg x = some (.ref f) ∧ PySem.W.keepIn K (.ref f) = true ∧ Binds K fd ps []
theorem q_call {x : Str} {p : Pos} {k j : Nat} {ps : List Str} {g : Gf} {m : M (List Ar)} (F : Has X.prog X.w K X.mg X.base x k ps g) (hr : Room j X.A) (hj : k ≤ j) (ha : QA K X (e :: es) t m) (hg : Gl X x := by rfl) (hK : X.K = K := by rfl)
    (hdbg : (x == ("__debug__" : Str)) = false := by decide) (he : starEach (e :: es) X.env = (false, eval e X.env) :: starEach es X.env := by rfl) (hpl : (backTo pos (starEach es X.env)).any (·.1) = false := by rfl) :
    QE K X (.Call (.Name x p) (e :: es) [] pos) (tCall (spF K g) [] E0 t) (mCall g m) := by
  subst hK
  obtain ⟨f, fd, h1, h2, h3, h4⟩ := F.ex
  exact ⟨pe_call h1 (hr.mono hj) hg h2 h3 h4 .nil pass0 ha.p hdbg he hpl, je_call ha.j⟩
theorem q_call0 {x : Str} {p : Pos} {k j : Nat} {ps : List Str} {g : Gf} (F : Has X.prog X.w K X.mg X.base x k ps g) (hr : Room j X.A) (hj : k ≤ j) (hg : Gl X x := by rfl) (hK : X.K = K := by rfl) (hdb : (x == ("__debug__" : Str)) = false := by decide) :
    QE K X (.Call (.Name x p) [] [] pos) (tCall (spF K g) [] E0 tNil) (mCall g mAnil) := by
  subst hK
  obtain ⟨f, fd, h1, h2, h3, h4⟩ := F.ex
  exact ⟨pe_call0 h1 (hr.mono hj) hg h2 h3 h4 .nil pass0 hdb, je_call ja_nil⟩
theorem q_b1 {x : Str} {p : Pos} {id : String} {r : List V → Hp → VK → Prop} {g : P → Option D} (hc : CallR X (.builtin id) r) (hs : SC1 K r g) (hm : X.mg x = none) (ha : QB K X e te ma) (hg : Gl X x := by rfl) (hv : bootBuiltins x = some (.builtin id) := by decide +kernel) (hn : x ≠ "__name__" := by decide)
    (hdb : (x == ("__debug__" : Str)) = false := by decide) (he : starEach [e] X.env = (false, eval e X.env) :: starEach [] X.env := by rfl) : QE K X (.Call (.Name x p) [e] [] pos) (tCB r (tCons te tNil)) (mUn g ma) :=
  ⟨pe_callB hc hg hm hv (pa_cons ha.p pa_nil he) hn hdb he rfl, je_c1 hs ha.j⟩
theorem q_ty1 {x : Str} {p : Pos} {T : String} {r : List V → Hp → VK → Prop} {g : P → Option D} (hc : CallR X (.type T) r) (hs : SC1 K r g) (hm : X.mg x = none) (ha : QB K X e te ma) (hg : Gl X x := by rfl) (hv : bootBuiltins x = some (.type T) := by decide +kernel) (hn : x ≠ "__name__" := by decide)
    (hdb : (x == ("__debug__" : Str)) = false := by decide) (he : starEach [e] X.env = (false, eval e X.env) :: starEach [] X.env := by rfl) : QE K X (.Call (.Name x p) [e] [] pos) (tCB r (tCons te tNil)) (mUn g ma) :=
  ⟨pe_callTy hc hg hm hv (pa_cons ha.p pa_nil he) hn hdb he rfl, je_c1 hs ha.j⟩
theorem q_isi {x : Str} (T : String) {p p2 : Pos} (hm : X.mg "isinstance" = none) (hmT : X.mg x = none) (ha : QB K X e te ma) (hg : Gl X "isinstance" := by rfl) (hgT : Gl X x := by rfl) (hvT : bootBuiltins x = some (.type T) := by decide +kernel) (hn : x ≠ "__name__" := by decide) (hd : (x == ("__debug__" : Str)) = false := by decide)
    (he : starEach [e, .Name x p2] X.env = (false, eval e X.env) :: starEach [.Name x p2] X.env := by rfl) (he2 : starEach [.Name x p2] X.env = (false, eval (.Name x p2) X.env) :: starEach [] X.env := by rfl) (hpl : (backTo pos (starEach [.Name x p2] X.env)).any (·.1) = false := by rfl) (hK : X.K = K := by rfl) :
    QE K X (.Call (.Name "isinstance" p) [e, .Name x p2] [] pos) (tCB (rIsi K) (tCons te (tCons (tC (.ty T)) tNil))) (mUn (gIsi T) ma) :=
  ⟨pe_callB (call_K hK call_isi) hg hm (by decide +kernel) (pa_cons ha.p (pa_cons (pe_bltn hgT hmT hvT rfl hn hd) pa_nil he2) he) (by decide) (by decide) he hpl, je_isi T ha.j⟩
end

theorem q_ix (ha : QP K X a ta ma) (hb : QP K X b tb mb) (hs : PlainIx b := by exact fun _ _ => rfl) (hK : X.K = K := by rfl) : QE K X (.Subscript a b pos) (tOp (rIx K) ta tb) (mOp gIx ma mb) := by
  subst hK
  exact ⟨pe_ix ix_seq ha.p hb.p hs, je_op sr_ix ha.j hb.j.toB⟩
theorem q_ixN (i : Nat) {x : Str} {p : Pos} (hb : QP K X b tb mb) (hN : X.N[i]? = some x := by rfl) (hv : Vis X.env.scope x := by first | exact Or.inl rfl | exact Or.inr (Or.inl rfl) | exact Or.inr (Or.inr rfl)) (hd : (x == ("__debug__" : Str)) = false := by decide)
    (hcd : (x == ("__classdict__" : Str)) = false := by decide) (hs : PlainIx b := by exact fun _ _ => rfl) (hK : X.K = K := by rfl) : QE K X (.Subscript (.Name x p) b pos) (tOp (rIx K) (tVar i) tb) (mOpN gIx i mb) := by
  subst hK
  exact ⟨pe_ix ix_seq (pe_var hN hv hd hcd) hb.p hs, je_opN sr_ix hb.j⟩
theorem qo_none : QO K X none tNoPart mOno := ⟨po_none, jo_none⟩
theorem qo_some (h : QP K X a ta ma) : QO K X (some a) (tPart ta) (mOp1 ma) := ⟨po_some h.p, jo_some h.j⟩
theorem q_sl {lo hi : Option Expr} {tl th : TO} {ml mh : M (Option Int)} {p2 : Pos} (h : QP K X a ta ma) (hl : QO K X lo tl ml) (hh : QO K X hi th mh) (hK : X.K = K := by rfl) : QE K X (.Subscript a (.Slice lo hi none p2) pos) (tSl (rSlZ K) ta tl th) (mSl ma ml mh) := by
  subst hK
  exact ⟨pe_slice sl_Z h.p hl.p hh.p, je_sl h.j hl.j hh.j⟩
theorem q_slN (i : Nat) {x : Str} {p : Pos} {lo hi : Option Expr} {tl th : TO} {ml mh : M (Option Int)} {p2 : Pos} (hl : QO K X lo tl ml) (hh : QO K X hi th mh) (hN : X.N[i]? = some x := by rfl) (hv : Vis X.env.scope x := by first | exact Or.inl rfl | exact Or.inr (Or.inl rfl) | exact Or.inr (Or.inr rfl))
    (hd : (x == ("__debug__" : Str)) = false := by decide) (hcd : (x == ("__classdict__" : Str)) = false := by decide) (hK : X.K = K := by rfl) : QE K X (.Subscript (.Name x p) (.Slice lo hi none p2) pos) (tSl (rSlZ K) (tVar i) tl th) (mSlN i ml mh) := by
  subst hK
  exact ⟨pe_slice sl_Z (pe_var hN hv hd hcd) hl.p hh.p, je_slN i hl.j hh.j⟩

section
variable {x : Str} {p apos : Pos} {e : Expr} {es : List Expr} {t : TA}
theorem q_mu {name : Str} {id : String} {r : V → List V → Hp → VK → Prop} {h : List D → List D → Option (D × List D)} (i : Nat) {n : M (List D)} (slot : Slot "list" name id) (hty : typeOf (.builtin id) = pure (.type "method_descriptor")) (hm : MtR X id r) (hh : SMu K r h) (ha : QL K X (e :: es) t n)
    (hN : X.N[i]? = some x := by rfl) (hv : Vis X.env.scope x := by first | exact Or.inl rfl | exact Or.inr (Or.inl rfl) | exact Or.inr (Or.inr rfl)) (hd : (x == ("__debug__" : Str)) = false := by decide) (hcd : (x == ("__classdict__" : Str)) = false := by decide)
    (hbase : attributeBase (.Name x p) name X.env (eval (.Name x p) X.env) = eval (.Name x p) X.env := by rfl)
    (hfew : ((backTo pos (starEach (e :: es) X.env)).all (fun x => !x.1) && (backToKw pos (keywordEach [] X.env)).all (fun x => x.1.isSome) && decide ((e :: es).length + ([] : List Keyword).length + (if ([] : List Keyword).isEmpty then 0 else 1) < 30)) = true := by rfl)
    (hline : (apos.endLine == pos.line) = true := by rfl) (hs : starEach (e :: es) X.env = (false, eval e X.env) :: starEach es X.env := by rfl) (hplain : (backTo pos (starEach es X.env)).any (·.1) = false := by rfl) (hK : X.K = K := by rfl) :
    QE K X (.Call (.Attribute (.Name x p) name apos) (e :: es) [] pos) (tBM K "list" r (tVar i) t) (mMu h i n) := by
  subst hK
  exact ⟨pe_bm PySem.F.plainAttrs_list slot hty hm (pe_var hN hv hd hcd) ha.p hbase hfew hline hs hplain, je_mu hh ha.j⟩
end

theorem qi_seq {tg : Expr} (h : QE K X a ta da) (hK : X.K = K := by rfl) : QI K X tg a (iSeq K ta) (mSeq da) := by
  subst hK
  exact ⟨pi_seq h.p, ji_seq h.j⟩
theorem qi_rng1 {tg : Expr} {p : Pos} (hm : X.mg "range" = none) (h : QP K X a ta ma) (hg : Gl X "range" := by rfl) (hs : starEach [a] X.env = [(false, eval a X.env)] := by rfl) (hs' : starEach [a] X.env = (false, eval a X.env) :: starEach [] X.env := by rfl) :
    QI K X tg (.Call (.Name "range" p) [a] [] pos) (iRng1 (tCons ta tNil)) (mRng1 ma) := ⟨pi_range1 hg hm (pa_cons h.p pa_nil hs') hs, ji_rng1 h.j⟩
theorem qg_n (i : Nat) {x : Str} (nd : X.N.Nodup) (hi : X.N[i]? = some x := by rfl) (hx : Loc X.env.scope x := by first | exact Or.inl rfl | exact Or.inr rfl) (hf : X.fn x = true ∨ X.env.scope.names.lookup x = some .local := by first | exact .inl rfl | exact .inr rfl) : QG K X [i] (.Name x pos) (gName i) (gN i) := ⟨pg_name nd hi hx hf, jg_name i⟩
theorem qgs_nil : QGs K X [] 0 [] gNil gsNil := ⟨pgs_nil, jgs_nil, gsNil_len⟩
theorem qgs_cons {e : Expr} {es : List Expr} {t : TG} {u : TGs} {g : MG} {h : List D → Env → Option Env} {cs ks : List Nat} {n : Nat} (h1 : QG K X cs e t g) (h2 : QGs K X ks n es u h)
    (hs : (assignEach (e :: es) X.env).map (·.2) = assign e X.env :: (assignEach es X.env).map (·.2) := by rfl) : QGs K X (cs ++ ks) (n + 1) (e :: es) (gCons t u) (gsCons g h) := ⟨pgs_cons h1.p h2.p hs, jgs_cons h1.j h2.j, gsCons_len h2.l⟩
theorem qg_tup {es : List Expr} {k : Nat} {t : TGs} {n : Nat} {cs : List Nat} {h : List D → Env → Option Env} (hc : X.calm = true) (h1 : QGs K X cs n es t h) (hn : (assignEach es X.env).length = n := by rfl) (hst : (assignEach es X.env).findIdx? (·.1) = none := by rfl) (hK : X.K = K := by rfl) :
    QG K X cs (.Tuple es k pos) (gTup K n t) (gT h) := by
  subst hK
  exact ⟨pg_tup hc h1.p hn hst, jg_tup h1.j h1.l⟩

section
variable {st : Stmt} {rest : List Stmt} {t u : TS} {m n : MS}
theorem qss_nil : QSs K X [] tNext sNil := ⟨pss_nil, js_nil⟩
theorem qss_cons (h1 : QS K X st t m) (h2 : QSs K X rest u n) : QSs K X (st :: rest) (tSeq t u) (sSeq m n) := ⟨pss_cons h1.p h2.p, js_seq h1.j h2.j⟩
theorem qss_one (h1 : QS K X st t m) : QSs K X [st] t m := ⟨pss_one h1.p, h1.j⟩
theorem qs_brk : QS K X (.Break pos) tBreak sBrk := ⟨ps_break, js_brk⟩
theorem qs_con : QS K X (.Continue pos) tCont sCon := ⟨ps_continue, js_con⟩
theorem qs_ret (h : QE K X a ta da) : QS K X (.Return (some a) pos) (tRet ta) (sRet da) := ⟨ps_ret h.p, js_ret h.j⟩
theorem qs_expr (h : QE K X a ta da) (hs : swapsWith a none pos.line X.env = pure false := by rfl) : QS K X (.Expr a pos) (tDrop ta) (sDrop da) := ⟨ps_expr h.p hs, js_expr h.j⟩
theorem qs_if {c : Expr} {x y : List Stmt} {tc : TT} {mc : M Bool} (hc : QT K X c tc mc) (ha : QSs K X x t m) (hb : QSs K X y u n) : QS K X (.If c x y pos) (tIfS tc t u) (sIf mc m n) := ⟨ps_if hc.p ha.p hb.p, js_if hc.j ha.j hb.j⟩
theorem qs_set (i : Nat) {x : Str} {p : Pos} (nd : X.N.Nodup) (h : QE K X a ta da) (hi : X.N[i]? = some x := by rfl) (hx : Loc X.env.scope x := by first | exact Or.inl rfl | exact Or.inr rfl) (hs : swapsWith a (some (.Name x p)) pos.line X.env = pure false := by rfl)
    (hf : X.fn x = true ∨ X.env.scope.names.lookup x = some .local := by first | exact .inl rfl | exact .inr rfl) : QS K X (.Assign [.Name x p] a pos) (tAsg ta (gName i)) (sAsg da (gN i)) := ⟨ps_set nd hi hx h.p hs hf, js_asg h.j (jg_name i)⟩
theorem qs_put (i : Nat) {x : Str} {p p2 : Pos} {v : Expr} {tv : TE} {dv : M D} (h : QE K X v tv dv) (hi : QP K X b tb mb) (hN : X.N[i]? = some x := by rfl) (hv : Vis X.env.scope x := by first | exact Or.inl rfl | exact Or.inr (Or.inl rfl) | exact Or.inr (Or.inr rfl)) (hd : (x == ("__debug__" : Str)) = false := by decide)
    (hcd : (x == ("__classdict__" : Str)) = false := by decide) (ha : ∀ v, assign (.Subscript (.Name x p) b p2) X.env v = (do
      let o1 ← holding [v] (eval (.Name x p) X.env)
      let i1 ← holding [v, o1] (eval b X.env)
      standAt p2
      holding [v, o1, i1] (setItem o1 i1 v)
      release [v, o1, i1] []) := by intro _; rfl) (hs : swapsWithSole [.Subscript (.Name x p) b p2] v pos.line X.env = pure false := by rfl) (hw : swappedStores [.Subscript (.Name x p) b p2] v X.env = pure none := by rfl)
    (h1 : (assignEach [.Subscript (.Name x p) b p2] X.env).map (·.2) = [assign (.Subscript (.Name x p) b p2) X.env] := by rfl) : QS K X (.Assign [.Subscript (.Name x p) b p2] v pos) (tAsg tv (L2.gSub (tVar i) tb rSetL)) (sSet i dv mb) :=
  ⟨ps_asg h.p (pg_sub (pe_var hN hv hd hcd) hi.p set_list ha) hs hw h1, js_set i h.j hi.j⟩
theorem qs_aug {op : Operator} {r : R2} {g : P → P → Option D} (i : Nat) {x : Str} {p : Pos} (nd : X.N.Nodup) (ho : OpR X (inplaceOp op) r) (hs : SR2 K r g) (h : QP K X a ta ma) (hi : X.N[i]? = some x := by rfl) (hx : Loc X.env.scope x := by first | exact Or.inl rfl | exact Or.inr rfl)
    (hf : X.fn x = true ∨ X.env.scope.names.lookup x = some .local := by first | exact .inl rfl | exact .inr rfl) : QS K X (.AugAssign (.Name x p) op a pos) (tAug i ta r) (sAug g i ma) := ⟨ps_aug nd hi hx h.p ho hf, js_aug i hs h.j⟩
theorem qs_augS {op : Operator} {r : R2} {g : P → P → Option D} (i : Nat) {x : Str} {p tpos : Pos} (ho : OpR X (inplaceOp op) r) (hs : SR2 K r g) (hi : QP K X b tb mb) (h : QP K X a ta ma) (hN : X.N[i]? = some x := by rfl) (hv : Vis X.env.scope x := by first | exact Or.inl rfl | exact Or.inr (Or.inl rfl) | exact Or.inr (Or.inr rfl))
    (hd : (x == ("__debug__" : Str)) = false := by decide) (hcd : (x == ("__classdict__" : Str)) = false := by decide) (ha : ∀ ov iv new, augStore b ov iv new = (do holding [new, ov, iv] (setItem ov iv new); release [new, ov, iv] []; pure .next) := by intros; rfl) (hK : X.K = K := by rfl) : QS K X (.AugAssign (.Subscript (.Name x p) b tpos) op a pos) (tAugS (tVar i) tb ta (rIxL K) r rSetL) (sAugS g i mb ma) := by
  subst hK
  exact ⟨ps_augS (pe_var hN hv hd hcd) hi.p pget_list h.p ho set_list ha, js_augS i hs hi.j h.j⟩
theorem qs_for {tg iter : Expr} {body : List Stmt} {wi : TI} {g : TG} {mi : M (List P)} {mg : MG} {cs : List Nat} (hp : PassesOwn (model X.prog X.w) X.A X.env X.xe) (hc : X.calm = true) (hi : QI K X tg iter wi mi) (hg : QG K X cs tg g mg) (hb : QSs K X body t m) (hs : ∀ x, foldedSetIterable iter X.env x = pure x := by intro _; rfl) :
    QS K X (.For tg iter body [] pos) (tFor wi g t) (sFor mi mg m) := ⟨ps_for hp hc hi.p hg.p hb.p hs, js_for hi.j hg.j hb.j⟩
theorem qs_while (fuel : Nat) {c : Expr} {body : List Stmt} {tc : TT} {mc : M Bool} (hp : PassesOwn (model X.prog X.w) X.A X.env X.xe) (hc : QT K X c tc mc) (hb : QSs K X body t m) : QS K X (.While c body [] pos) (tWhile tc t) (whileL mc m fuel) := ⟨ps_while hp hc.p hb.p, js_while fuel hc.j hb.j⟩
end

section
variable {elt tg iter : Expr} {ifs : List Expr} {scope : Scope} {wi : TI} {g : TG} {tt : TT} {te : TE} {mi : M (List P)} {mg : MG} {mt : M Bool} {me : M D} {cs : List Nat}
structure QTs (K : PySem.W.Frag) (X : Cx) (ifs : List Expr) (t : TT) (m : M Bool) : Prop where
  p : PTs X ifs t
  j : JT K t m
def mYes : M Bool := fun e => some (true, e)
theorem qts_nil : QTs K X [] tYes mYes := ⟨pts_nil, by
  intro σ₀ σ w e f Q b e' E G hm hq
  simp only [mYes, Option.some.injEq, Prod.mk.injEq] at hm
  obtain ⟨rfl, rfl⟩ := hm
  exact hq w f (Ev.refl f w) G E⟩
theorem qts_one {c : Expr} {t : TT} {m : M Bool} (h : QT K X c t m) : QTs K X [c] t m := ⟨pts_one h.p, h.j⟩
theorem q_comp (own : List (Str × Nat)) (nd : X.N.Nodup) (hc : X.calm = true) (hi : QI K X tg iter wi mi) (ok : BlkOk X.N X.env.scope scope own)
    (hg : ∀ (s : Shared) (H : Hp) (C : Addr) (cl : List (Str × Addr)) (fp : List Addr), QG K (X.blk s H scope (compEnvC scope cl C X.env) fp) cs tg g mg) (ht : ∀ (s : Shared) (H : Hp) (C : Addr) (cl : List (Str × Addr)) (fp : List Addr), QTs K (X.blk s H scope (compEnvC scope cl C X.env) fp) ifs tt mt)
    (he : ∀ (s : Shared) (H : Hp) (C : Addr) (cl : List (Str × Addr)) (fp : List Addr), QE K (X.blk s H scope (compEnvC scope cl C X.env) fp) elt te me) (hcs : ∀ i ∈ cs, i ∈ own.map (·.2) := by decide) (hs : ∀ x, foldedSetIterable iter X.env x = pure x := by intro _; rfl) :
    QE K X (.ListComp elt [⟨tg, iter, ifs, 0⟩] scope pos) (tLc wi g tt te (own.map (·.2))) (mComp mi mg mt me (own.map (·.2))) :=
  ⟨pe_lc hc nd hi.p ok (fun s H C cl fp => (hg s H C cl fp).p) (fun s H C cl fp => (ht s H C cl fp).p) (fun s H C cl fp => (he s H C cl fp).p) hs,
   je_comp hi.j (hg {} (fun _ => none) 0 [] []).j hcs (ht {} (fun _ => none) 0 [] []).j (he {} (fun _ => none) 0 [] []).j⟩
theorem qs_setLc (i : Nat) {y : Str} {py spos : Pos} (own : List (Str × Nat)) (nd : X.N.Nodup) (hc : X.calm = true) (hsw : swapsWith (.ListComp elt [⟨tg, iter, ifs, 0⟩] scope pos) (some (.Name y py)) spos.line X.env = pure true) (hi : QI K X tg iter wi mi) (ok : BlkOk X.N X.env.scope scope own)
    (hg : ∀ (s : Shared) (H : Hp) (C : Addr) (cl : List (Str × Addr)) (fp : List Addr), QG K (X.blk s H scope (compEnvC scope cl C X.env) fp) cs tg g mg) (ht : ∀ (s : Shared) (H : Hp) (C : Addr) (cl : List (Str × Addr)) (fp : List Addr), QTs K (X.blk s H scope (compEnvC scope cl C X.env) fp) ifs tt mt)
    (he : ∀ (s : Shared) (H : Hp) (C : Addr) (cl : List (Str × Addr)) (fp : List Addr), QE K (X.blk s H scope (compEnvC scope cl C X.env) fp) elt te me) (hy : X.N[i]? = some y := by rfl) (hyl : X.env.scope.names.lookup y = some .local := by rfl) (hcs : ∀ i ∈ cs, i ∈ own.map (·.2) := by decide) (hs : ∀ x, foldedSetIterable iter X.env x = pure x := by intro _; rfl) :
    QS K X (.Assign [.Name y py] (.ListComp elt [⟨tg, iter, ifs, 0⟩] scope pos) spos) (tAsg (tLc wi g tt te (own.map (·.2))) (gName i)) (sAsg (mComp mi mg mt me (own.map (·.2))) (gN i)) :=
  ⟨ps_setLc hc nd hy hyl hsw hi.p ok (fun s H C cl fp => (hg s H C cl fp).p) (fun s H C cl fp => (ht s H C cl fp).p) (fun s H C cl fp => (he s H C cl fp).p) hs,
   js_asg (je_comp hi.j (hg {} (fun _ => none) 0 [] []).j hcs (ht {} (fun _ => none) 0 [] []).j (he {} (fun _ => none) 0 [] []).j) (jg_name i)⟩
end
end Z
namespace Z
open PySem.Spec PyProof.Rows L2 PySem
variable {K : PySem.W.Frag} {X : Cx} {pos : Pos} {a b c : Expr} {ta tb tc : TE} {ma mb mc : M P} {da db dc : M D}
def rListZ (K : PySem.W.Frag) : List V → Hp → VK → Prop := fun xs H Q => ∃ p ys, xs = [.ref p] ∧ (SqL K H p ys ∨ SqT K H p ys) ∧ ∀ l, H l = none → Q (.ref l) (upd H l (.lst ys))
theorem call_listZ : CallR X (.type "list") (rListZ X.K) := call_list_of
theorem sc_listZ : SC1 K (rListZ K) gListOf := sc_list
def rTupZ (K : PySem.W.Frag) : List V → Hp → VK → Prop := fun xs H Q => ∃ p ys, xs = [.ref p] ∧ ((SqL K H p ys ∧ ∀ l, H l = none → Q (.ref l) (upd H l (.tup ys))) ∨ (SqT K H p ys ∧ Q (.ref p) H))
theorem call_tupZ : CallR X (.type "tuple") (rTupZ X.K) := call_tuple_of
theorem sc_tupZ : SC1 K (rTupZ K) gTupOf := sc_tuple
def gSplit : P → P → Option D
  | .str a, .str b => if (b.length == 0) = false ∧ a.length + 2 ≤ sizeLine then some (.olst ((Txt.split a b).map fun x => .val (.str x))) else none
  | _, _ => none
theorem strs_repPs {w : Wd} : ∀ xs : List Str, RepPs K w (xs.map .str) (xs.map V.str)
  | [] => by simp [RepPs, RepXs]
  | n :: ns => by
    simp only [List.map_cons, RepPs, RepXs]
    exact ⟨_, _, rfl, rfl, strs_repPs ns⟩
theorem q_split {apos pos : Pos} (ha : QP K X a ta ma) (hb : QP K X b tb mb) (hs : starEach [b] X.env = [(false, eval b X.env)] := by rfl) (hbase : attributeBase a "split" X.env (eval a X.env) = eval a X.env := by rfl) (hline : (apos.endLine == pos.line) = true := by rfl) :
    QE K X (.Call (.Attribute a "split" apos) [b] [] pos) (tM1 (fun x xs H Q => ∃ a b, x = V.str a ∧ xs = [V.str b] ∧ (b.length == 0) = false ∧ a.length + 2 ≤ sizeLine ∧ rNewStrs (Txt.split a b) H Q) ta tb) (mOp gSplit ma mb) := by
  refine ⟨pe_split ha.p hb.p hs hbase hline, ?_⟩
  intro σ₀ σ w e f Q d e' E G hm hq
  simp only [mOp, Option.bind_eq_some_iff, Option.map_eq_some_iff] at hm
  obtain ⟨⟨x, e1⟩, h1, ⟨y, e2⟩, h2, d', h3, h4⟩ := hm
  cases h4
  refine ha.j σ₀ σ w e f _ x e1 E G h1 fun vx w1 f1 ev1 g1 E1 rx => ?_
  cases x with
  | str a =>
    cases y with
    | str b =>
      simp only [gSplit] at h3
      split at h3
      · rename_i hc
        cases h3
        simp only [RepP, RepX] at rx
        refine ⟨⟨a, rx⟩, ?_⟩
        refine hb.j σ₀ σ w1 e1 f1 _ _ e2 E1 g1 h2 fun vy w2 f2 ev2 g2 E2 ry => ?_
        simp only [RepP, RepX] at ry
        refine ⟨a, b, rx, by rw [ry], hc.1, hc.2, fun p hn => ?_⟩
        have q : Ans K w2 (.olst (((Txt.split a b).map P.str).map .val)) Q := fun v w3 fv ev3 g3 r3 => by
          obtain ⟨z1, z2, z3⟩ := fin (ev1.trans ev2) g2 E2 ev3 g3
          refine hq v w3 f2 fv z1 z2 z3 ?_
          rw [List.map_map] at r3
          exact r3
        exact q.lst hn (strs_repPs _)
      · cases h3
    | _ => simp [gSplit] at h3
  | _ => simp [gSplit] at h3
def sPar (i j : Nat) (m : M (List D)) : MS := fun e => (m e).bind fun x => match x.1 with
  | [d1, d2] => if i = j then none else (gN i d1 x.2).bind fun e1 => (gN j d2 e1).map fun e2 => (.nx, e2)
  | _ => none
theorem js_par (i j : Nat) {t : TA} {m : M (List D)} (h : JL K t m) : JS K (tPar i j t) (sPar i j m) := by
  intro σ₀ σ w e f D o e' E G hm hp
  simp only [sPar, Option.bind_eq_some_iff] at hm
  obtain ⟨⟨ds, e1⟩, h1, h2⟩ := hm
  split at h2
  · rename_i d1 d2 hds
    have hds' : ds = [d1, d2] := hds
    subst hds'
    split at h2
    · cases h2
    · simp only [Option.bind_eq_some_iff, Option.map_eq_some_iff] at h2
      obtain ⟨e2, h3, e3, h4, h5⟩ := h2
      cases h5
      refine h σ₀ σ w e f _ _ e1 E G h1 fun vs w1 fe fv ev g1 E1 rs => ?_
      obtain ⟨v1, r1, f1, f2, rfl, rfl, ra, rs⟩ := rs
      obtain ⟨v2, r2, f3, f4, rfl, rfl, rb, rs⟩ := rs
      obtain ⟨rfl, rfl⟩ := rs
      refine ⟨v1, v2, rfl, ?_⟩
      have e0 : f3 ++ [] = f3 := List.append_nil f3
      rw [e0] at g1 ev
      have G1 : Good w1 ((fe ++ f1) ++ f3) := by rw [List.append_assoc]; exact g1
      refine jg_name i σ₀ σ w1 e1 fe f1 v1 d1 (fun σ' H' => D.nx (σ'.set j (some v2)) H') e2 E1 G1.left ra h3 fun σ' w' f' _ ev2 g2 E2 => ?_
      have ne : ∀ a ∈ f3, a ∉ fe ++ f1 := fun a m q => (List.nodup_append.mp G1.nd).2.2 a q a m rfl
      refine jg_name j σ₀ σ' w' e2 f' f3 v2 d2 (fun σ2 H2 => D.nx σ2 H2) e' E2 (G1.frame ev2 g2) (rb.keeps d2 v2 f3 (Keeps.of G1.left ev2 ne)) h4 fun σ2 w2 f5 _ ev3 g3 E3 => ?_
      refine hp σ2 w2 f5 (ev.trans (Ev.trans (f1 := f' ++ f3) ?_ ev3)) g3 E3
      have := ev2.frame f3
      simp only [List.append_assoc] at this
      exact this
  · cases h2
theorem qs_par (i j : Nat) {x y : Str} {px py pt pt2 : Pos} {kt k2 : Nat} {t : TA} {m : M (List D)} (nd : X.N.Nodup) (h : QL K X [a, b] t m) (hi : X.N[i]? = some x := by rfl) (hj : X.N[j]? = some y := by rfl) (hij : i ≠ j := by decide)
    (hc : X.calm = true := by rfl) (hx : X.env.scope.names.lookup x = some .local := by rfl) (hy : X.env.scope.names.lookup y = some .local := by rfl) (hw : swappedStores [.Tuple [.Name x px, .Name y py] kt pt] (.Tuple [a, b] k2 pt2) X.env = pure (some [x, y]) := by rfl)
    (hs : swapsWithSole [.Tuple [.Name x px, .Name y py] kt pt] (.Tuple [a, b] k2 pt2) pos.line X.env = pure false := by rfl) : QS K X (.Assign [.Tuple [.Name x px, .Name y py] kt pt] (.Tuple [a, b] k2 pt2) pos) (tPar i j t) (sPar i j m) :=
  ⟨ps_par hc nd hi hj hij hx hy h.p hw hs, js_par i j h.j⟩

theorem ex_of {sts : List Stmt} {t : TS} {m : MS} (h : QSs K X sts t m) : ∃ t, PSs X sts t ∧ JS K t m := ⟨t, h.p, h.j⟩
theorem hu_room {k : Nat} {A : Around} (hr : Room k A) : A.units + 65 < cLine := by
  have := hr.un
  omega
theorem fnok_zero {Pg : Program} {w : World} {mg : Str → Option Value} {base : Heap} {f : Addr} {fd : FuncData} {ps : List Str} {k : Nat} : FnOk Pg w K mg base CX0 k f fd ps (spF K fun _ => none) :=
  ⟨fun vs H Q E h => (by
    obtain ⟨w, ds, f, d, ds', _, _, _, h, _⟩ := h
    cases h), fun A outer s H args us vs Q E hr he hb hv h => (by
    obtain ⟨w, ds, f, d, ds', _, _, _, h, _⟩ := h
    cases h)⟩
theorem has_zero {Pg : Program} {w : World} {mg : Str → Option Value} {base : Heap} {x qual : Str} {st : Stmt} {f : Addr} {fd : FuncData} {ps : List Str} {k : Nat} {g : Gf} (F : Fun K x qual st f fd) (hm : mg x = some (.ref f)) (hb : Binds K fd ps []) (hg : g = fun _ => none) : Has Pg w K mg base x k ps g := by
  subst hg
  exact ⟨f, fd, fnok_zero, hm, F.kp, hb⟩
theorem sp_end {H : Hp} {a : Addr} {ns : List Int} {g : Gf} {r : List D} (h : g [.val (.scr ns)] = some (.val (.bl true), r)) (hO : Only H) (hS : SqL K H a (ns.map V.int)) : spF K g [.ref a] H (fun v _ => v = .bl true) fun _ _ _ => False := by
  refine ⟨⟨H, fun _ => False, fun _ q => q.elim⟩, [.val (.scr ns)], [], _, r, rfl, ⟨.ref a, [], [], [], rfl, rfl, ⟨rfl, ?_⟩, rfl, rfl⟩, Good.nil _, h, fun v w' fa fr ev g' R rd => ?_⟩
  · simp only [RepP, RepX]
    refine ⟨a, rfl, ?_⟩
    rcases hS with (hS | ⟨o, hS⟩) | hS
    · rcases hO a with z | ⟨o, xs, z⟩
      · rw [hS] at z; cases z
      · rw [hS] at z; cases z
    · exact .inl ⟨o, hS⟩
    · exact .inr (.inr hS)
  · simp only [RepD, RepP, RepX] at rd
    exact rd.2
end Z
namespace Z
open PySem.Spec PyProof.Rows L2 PySem
variable {K : PySem.W.Frag}

theorem EnvR.lock {w : Wd} : ∀ {e : Env} {σ₀ σ : St} {f : List Addr} {i : Nat} {s : Sl}, EnvR K w e σ₀ σ f → e[i]? = some s →
    ∃ o₀ o f1 fi f2, σ₀[i]? = some o₀ ∧ σ[i]? = some o ∧ f = f1 ++ (fi ++ f2) ∧ SlR K w s o₀ o fi ∧ EnvR K w (e.set i .hol) (σ₀.set i o) σ (f1 ++ f2)
  | [], _, _, _, i, s, h, e => by simp at e
  | t :: e, σ₀, σ, f, 0, s, h, q => by
    simp only [EnvR] at h
    obtain ⟨o₀, r₀, o, r, f1, f2, e1, e2, e3, h1, h2⟩ := h
    have q' : t = s := by simpa using q
    subst q' e1 e2 e3
    exact ⟨o₀, o, [], f1, f2, rfl, rfl, rfl, h1, by simp only [List.set_cons_zero, EnvR]; exact ⟨o, r₀, o, r, [], f2, rfl, rfl, rfl, ⟨rfl, rfl⟩, h2⟩⟩
  | t :: e, σ₀, σ, f, i + 1, s, h, q => by
    simp only [EnvR] at h
    obtain ⟨o₀, r₀, o, r, f1, f2, e1, e2, e3, h1, h2⟩ := h
    obtain ⟨p₀, p, g1, gi, g2, a1, a2, a3, a4, a5⟩ := EnvR.lock (i := i) (s := s) h2 (by simpa using q)
    subst e1 e2 e3 a3
    refine ⟨p₀, p, f1 ++ g1, gi, g2, by simpa using a1, by simpa using a2, by simp, a4, ?_⟩
    simp only [List.set_cons_succ, EnvR]
    exact ⟨o₀, r₀.set i p, o, r, f1, g1 ++ g2, rfl, rfl, by simp, h1, a5⟩
theorem EnvR.unlock {w : Wd} {s : Sl} {fi : List Addr} : ∀ {e : Env} {σ₀ σ : St} {f : List Addr} {i : Nat} {o₀ o : Option V}, EnvR K w e (σ₀.set i o) σ f → e[i]? = some .hol → σ₀[i]? = some o₀ → SlR K w s o₀ o fi →
    ∃ f1 f2, f = f1 ++ f2 ∧ EnvR K w (e.set i s) σ₀ σ (f1 ++ (fi ++ f2))
  | [], _, _, _, i, _, _, h, e, _, _ => by simp at e
  | t :: e, σ₀, σ, f, 0, o₀, o, h, q, q0, hs => by
    simp only [EnvR] at h
    obtain ⟨p₀, r₀, p, r, f1, f2, e1, e2, e3, h1, h2⟩ := h
    have q' : t = .hol := by simpa using q
    subst q' e2 e3
    cases σ₀ with
    | nil => simp at q0
    | cons x xs =>
      have q1 : x = o₀ := by simpa using q0
      subst q1
      simp only [List.set_cons_zero, List.cons.injEq] at e1
      obtain ⟨rfl, rfl⟩ := e1
      obtain ⟨rfl, rfl⟩ := h1
      refine ⟨[], f2, rfl, ?_⟩
      simp only [List.set_cons_zero, EnvR]
      exact ⟨x, _, _, r, fi, f2, rfl, rfl, rfl, hs, h2⟩
  | t :: e, σ₀, σ, f, i + 1, o₀, o, h, q, q0, hs => by
    simp only [EnvR] at h
    obtain ⟨p₀, r₀, p, r, f1, f2, e1, e2, e3, h1, h2⟩ := h
    subst e2 e3
    cases σ₀ with
    | nil => simp at q0
    | cons x xs =>
      simp only [List.set_cons_succ, List.cons.injEq] at e1
      obtain ⟨rfl, rfl⟩ := e1
      obtain ⟨g1, g2, rfl, E⟩ := EnvR.unlock (i := i) h2 (by simpa using q) (by simpa using q0) hs
      refine ⟨f1 ++ g1, g2, by simp, ?_⟩
      simp only [List.set_cons_succ, EnvR]
      exact ⟨_, xs, p, r, f1, g1 ++ (fi ++ g2), rfl, rfl, by simp, h1, E⟩

theorem for_core {gt : TG} {tb : TS} {g : MG} {b : MS} {cs : List Nat} {σ₀ σ : St} {w' : Wd} {fe fv : List Addr} {J : It} {ps : List P} {e1 e' : Env} {o : Out} {D : Ends} (hg : JG K cs gt g) (hb : JS K tb b)
    (g' : Good w' (fe ++ fv)) (E' : EnvR K w' e1 σ₀ σ fe) (it : ItR K w' fv J ps) (h2 : forL g b ps e1 = some (o, e')) (hp' : Post K σ₀ w' fe D o e') : tFor (fun _ H R => R J H) gt tb D σ w'.H := by
  have kp : ∀ {w1 : Wd} {f1 : List Addr}, Ev fe w' w1 f1 → Keeps w' w1 fv := fun {w1 f1} ev1 => Keeps.of g'.left ev1 fun a m q => (List.nodup_append.mp g'.nd).2.2 a q a m rfl
  refine ⟨fun i mm σ H => ∃ w1 e1 f1, w1.H = H ∧ Ev fe w' w1 f1 ∧ Good w1 f1 ∧ EnvR K w1 e1 σ₀ σ f1 ∧ i + mm = ps.length ∧ forL g b (ps.drop i) e1 = some (o, e'), ⟨ps.length, w', e1, fe, rfl, Ev.refl _ _, g'.left, E', by omega, by simpa using h2⟩, fun i mm σ H hW => ?_⟩
  obtain ⟨w1, e2, f1, rfl, ev1, g1, E1, hl, hf⟩ := hW
  by_cases hi : i < ps.length
  · refine .inr ⟨it.go w1 i (kp ev1) hi, fun σ' H' => ∃ w1 e1 f1, w1.H = H' ∧ Ev fe w' w1 f1 ∧ Good w1 f1 ∧ EnvR K w1 e1 σ₀ σ' f1 ∧ forL g b (ps.drop (i + 1)) e1 = some (o, e'), fun σ' H' hN => ?_, fun x H' hy => ?_⟩
    · obtain ⟨w3, e3, f3, a1, a2, a3, a4, a5⟩ := hN
      exact ⟨mm - 1, by omega, w3, e3, f3, a1, a2, a3, a4, by omega, a5⟩
    · obtain ⟨w2, rfl, ev2, rp⟩ := it.yld w1 i x H' ps[i] (kp ev1) hy (List.getElem?_eq_getElem hi)
      rw [List.drop_eq_getElem_cons hi] at hf
      simp only [forL] at hf
      have f1' : Ev fe w' w2 f1 := ev1.trans (by simpa using ev2.frame f1)
      have g2 : Good w2 f1 := by simpa using Good.frame (f := []) (g := f1) (by simpa using g1) ev2 (Good.nil _)
      have E2 : EnvR K w2 e2 σ₀ σ f1 := E1.keeps (Keeps.of (Good.nil w1) ev2 fun _ _ => by simp)
      split at hf
      · cases hf
      · rename_i e3 h3
        refine hg σ₀ σ w2 e2 f1 [] x (.val ps[i]) _ e3 E2 (by simpa using g2) ⟨rfl, rp⟩ h3 fun σ3 w3 f3 _ ev3 g3 E3 => ?_
        have f3' : Ev fe w' w3 f3 := f1'.trans (by simpa using ev3)
        split at hf
        · rename_i e4 h4
          exact hb σ₀ σ3 w3 e3 f3 _ .nx e4 E3 g3 h4 fun σ4 w4 f4 ev4 g4 E4 => ⟨w4, e4, f4, rfl, f3'.trans ev4, g4, E4, hf⟩
        · rename_i e4 h4
          exact hb σ₀ σ3 w3 e3 f3 _ .ct e4 E3 g3 h4 fun σ4 w4 f4 ev4 g4 E4 => ⟨w4, e4, f4, rfl, f3'.trans ev4, g4, E4, hf⟩
        · rename_i e4 h4
          cases hf
          exact hb σ₀ σ3 w3 e3 f3 _ .bk e' E3 g3 h4 fun σ4 w4 f4 ev4 g4 E4 => hp' σ4 w4 f4 (f3'.trans ev4) g4 E4
        · rename_i d e4 h4
          cases hf
          exact hb σ₀ σ3 w3 e3 f3 _ (.ret d) e' E3 g3 h4 fun v w4' w4 fe4 fv4 ev4 g4 E4 r => hp' v w4' w4 fe4 fv4 (f3'.trans ev4) g4 E4 r
        · cases hf
  · refine .inl ⟨it.stop w1 i (kp ev1) (by omega), ?_⟩
    rw [List.drop_of_length_le (by omega)] at hf
    simp only [forL, Option.some.injEq, Prod.mk.injEq] at hf
    obtain ⟨rfl, rfl⟩ := hf
    exact hp' σ w1 f1 ev1 g1 E1

def sForN (i : Nat) (g : MG) (b : MS) : MS := fun e => match e[i]? with
  | some s => match s.dat with
    | some (.olst ds) => (allV ds).bind fun ps => match forL g b ps (e.set i .hol) with
      | some (o, e2) => match e2[i]? with
        | some .hol => some (o, e2.set i s)
        | _ => none
      | none => none
    | _ => sFor (mSeq (mV (mN i))) g b e
  | none => none
theorem js_forN {gt : TG} {tb : TS} {g : MG} {b : MS} {cs : List Nat} (i : Nat) (hg : JG K cs gt g) (hb : JS K tb b) : JS K (tFor (iSeq K (tVar i)) gt tb) (sForN i g b) := by
  intro σ₀ σ w e f D o e' E G hm hp
  unfold sForN at hm
  split at hm
  · rename_i s hs
    split at hm
    · rename_i ds hd
      obtain ⟨ps, hv, hm⟩ := Option.bind_eq_some_iff.mp hm
      split at hm
      · rename_i o2 e2 hf
        split at hm
        · rename_i hh
          cases hm
          have ea := allV_spec hv
          subst ea
          obtain ⟨o₀, o1, f1, fi, f2, a1, a2, rfl, a4, a5⟩ := E.lock hs
          obtain ⟨v, q, r, rr⟩ := Sl.datR a4 hd
          subst q
          simp only [RepD] at r
          obtain ⟨a, vs, gg, rfl, sH, rfl, r⟩ := r
          obtain ⟨eg, r2⟩ := RepDs.ofVals r
          subst eg
          have pm : (f1 ++ ([a] ++ f2)).Perm ((f1 ++ f2) ++ [a]) := by
            rw [List.append_assoc]
            exact List.Perm.append_left f1 List.perm_append_comm
          have g' := G.perm pm
          have dj : ∀ b ∈ [a], b ∉ f1 ++ f2 := fun b m q => (List.nodup_append.mp g'.nd).2.2 b q b m rfl
          refine ⟨.ref a, a2, a, rfl, .inl ⟨⟨vs, SqL.of sH⟩, ?_⟩⟩
          have wk : ∀ w1, Keeps w w1 [a] → Keeps w w1 [] := fun w1 k => k.weak fun _ m => (nomatch m)
          have it : ItR K w [a] (Itl K a) ps := itR_list (fun w1 k => ⟨SqL.of (k.own a (by simp) _ sH), fun _ _ _ => trivial⟩) r2 wk
          have back : ∀ {w1 : Wd} {fr fx : List Addr} {σ' : St}, Ev (f1 ++ f2) w w1 (fr ++ fx) → Good w1 (fr ++ fx) → EnvR K w1 e2 (σ₀.set i (some (.ref a))) σ' fr → ∃ fr', EnvR K w1 (e2.set i s) σ₀ σ' fr' ∧ Ev (f1 ++ ([a] ++ f2)) w w1 (fr' ++ fx) ∧ Good w1 (fr' ++ fx) := by
            intro w1 fr fx σ' ev g1 E1
            have sl := a4.keeps (Keeps.of g'.left ev dj)
            obtain ⟨h1, h2, rfl, E2⟩ := E1.unlock hh a1 sl
            have pm2 : (((h1 ++ h2) ++ fx) ++ [a]).Perm ((h1 ++ ([a] ++ h2)) ++ fx) := by
              have z1 : (((h1 ++ h2) ++ fx) ++ [a]).Perm (((h1 ++ h2) ++ [a]) ++ fx) := by
                rw [List.append_assoc (h1 ++ h2) fx [a], List.append_assoc (h1 ++ h2) [a] fx]
                exact List.Perm.append_left _ List.perm_append_comm
              refine z1.trans (List.Perm.append_right fx ?_)
              rw [List.append_assoc]
              exact List.Perm.append_left h1 List.perm_append_comm
            refine ⟨_, E2, ((ev.frame [a]).weak fun b m => (pm.mem_iff).mpr m).less fun b m => (pm2.mem_iff).mpr m, (g'.frame ev g1).perm pm2⟩
          refine for_core (σ := σ) (D := D) (o := o) (e' := e2) (fe := f1 ++ f2) (fv := [a]) hg hb g' a5 it hf ?_
          cases o with
          | nx =>
            intro σ' w1 f' ev g1 E1
            obtain ⟨fr, E2, ev2, g2⟩ := back (fx := []) (by simpa using ev) (by simpa using g1) E1
            exact hp σ' w1 fr (by simpa using ev2) (by simpa using g2) E2
          | bk =>
            intro σ' w1 f' ev g1 E1
            obtain ⟨fr, E2, ev2, g2⟩ := back (fx := []) (by simpa using ev) (by simpa using g1) E1
            exact hp σ' w1 fr (by simpa using ev2) (by simpa using g2) E2
          | ct =>
            intro σ' w1 f' ev g1 E1
            obtain ⟨fr, E2, ev2, g2⟩ := back (fx := []) (by simpa using ev) (by simpa using g1) E1
            exact hp σ' w1 fr (by simpa using ev2) (by simpa using g2) E2
          | ret d =>
            intro v σ' w1 fe4 fv4 ev g1 E1 r
            obtain ⟨fr, E2, ev2, g2⟩ := back (fx := fv4) ev g1 E1
            exact hp v σ' w1 fr fv4 ev2 g2 E2 r
        · cases hm
      · cases hm
    · exact js_for (ji_seq (jn i).toE) hg hb σ₀ σ w e f D o e' E G hm hp
  · cases hm
theorem qs_forN {X : Cx} {t : TS} {m : MS} {p : Pos} {tg iter : Expr} {body : List Stmt} {g : TG} {mg : MG} {cs : List Nat} (i : Nat) (hp : PassesOwn (model X.prog X.w) X.A X.env X.xe) (hc : X.calm = true) (hi : QP K X iter (tVar i) (mN i)) (hg : QG K X cs tg g mg) (hb : QSs K X body t m) (hs : ∀ x, foldedSetIterable iter X.env x = pure x := by intro _; rfl) (hK : X.K = K := by rfl) :
    QS K X (.For tg iter body [] p) (tFor (iSeq K (tVar i)) g t) (sForN i mg m) := by
  subst hK
  exact ⟨ps_for hp hc (pi_seq hi.p) hg.p hb.p hs, js_forN i hg.j hb.j⟩
end Z
namespace Z
open PySem.Spec PyProof.Rows L2 PySem

def W {α : Type} (x : Option (α × Env)) (Q : α → Env → Prop) : Prop := ∃ a e, x = some (a, e) ∧ Q a e
def Gs (x : Option (D × List D)) (R : D → List D → Prop) : Prop := ∃ d ds, x = some (d, ds) ∧ R d ds
theorem W.mono {α : Type} {x : Option (α × Env)} {Q R : α → Env → Prop} (h : W x Q) (f : ∀ a e, Q a e → R a e) : W x R := by
  obtain ⟨a, e, h, q⟩ := h
  exact ⟨a, e, h, f _ _ q⟩
theorem Gs.mono {x : Option (D × List D)} {Q R : D → List D → Prop} (h : Gs x Q) (f : ∀ a e, Q a e → R a e) : Gs x R := by
  obtain ⟨a, e, h, q⟩ := h
  exact ⟨a, e, h, f _ _ q⟩

inductive AtR : Env → Nat → Sl → Prop where
  | z (s : Sl) (e : Env) : AtR (s :: e) 0 s
  | s {t : Sl} {e : Env} {i : Nat} (x : Sl) (h : AtR e i t) : AtR (x :: e) (i + 1) t
inductive SetR : Env → Nat → Sl → Env → Prop where
  | z (t s : Sl) (e : Env) : SetR (s :: e) 0 t (t :: e)
  | s {t : Sl} {e e' : Env} {i : Nat} (x : Sl) (h : SetR e i t e') : SetR (x :: e) (i + 1) t (x :: e')
inductive DatR : Env → Nat → D → Prop where
  | l (d : D) (e : Env) : DatR (.loc d :: e) 0 d
  | p (d : D) (e : Env) : DatR (.par d :: e) 0 d
  | s {t : D} {e : Env} {i : Nat} (x : Sl) (h : DatR e i t) : DatR (x :: e) (i + 1) t
inductive SetL : List D → Nat → D → List D → Prop where
  | z (t s : D) (e : List D) : SetL (s :: e) 0 t (t :: e)
  | s {t : D} {e e' : List D} {i : Nat} (x : D) (h : SetL e i t e') : SetL (x :: e) (i + 1) t (x :: e')
theorem SetL.eq {e e' : List D} {i : Nat} {s : D} (h : SetL e i s e') : e.set i s = e' := by
  induction h with
  | z => rfl
  | s x h ih => simp [ih]
theorem AtR.eq {e : Env} {i : Nat} {s : Sl} (h : AtR e i s) : e[i]? = some s := by
  induction h with
  | z => rfl
  | s x h ih => simpa using ih
theorem SetR.eq {e e' : Env} {i : Nat} {s : Sl} (h : SetR e i s e') : e.set i s = e' := by
  induction h with
  | z => rfl
  | s x h ih => simp [ih]
theorem SetR.at {e e' : Env} {i : Nat} {s : Sl} (h : SetR e i s e') : ∃ t, e[i]? = some t := by
  induction h with
  | z t s e => exact ⟨s, rfl⟩
  | s x h ih => simpa using ih
theorem DatR.eq {e : Env} {i : Nat} {d : D} (h : DatR e i d) : e[i]?.bind Sl.dat = some d := by
  induction h with
  | l => rfl
  | p => rfl
  | s x h ih => simpa using ih
theorem DatR.chk {e : Env} {i : Nat} {d : D} (h : DatR e i d) : chk i e = some () := by
  unfold Z.chk
  rw [h.eq]; rfl
theorem DatR.at {e : Env} {i : Nat} {d : D} (h : DatR e i d) : ∃ s, e[i]? = some s ∧ s.dat = some d := by
  have q := h.eq
  cases g : e[i]? with
  | none => rw [g] at q; cases q
  | some s => rw [g] at q; exact ⟨s, rfl, q⟩

theorem frzs_map (xs : List P) : frzs (xs.map .val) = xs := by
  induction xs with
  | nil => rfl
  | cons x xs ih => simp [frzs, frz, ih]
theorem view_map (xs : List P) : viewD (.olst (xs.map .val)) = some (.lst xs) := by simp [viewD, allV_map]
theorem frz_map (xs : List P) : frz (.olst (xs.map .val)) = .lst xs := by simp [frz, frzs_map]

theorem fz_val (p : P) : frz (.val p) = p := rfl
theorem fz_nil : frz (.olst []) = .lst [] := rfl
theorem fz_cons {ds : List D} {ps : List P} {p : P} (h : frz (.olst ds) = .lst ps) : frz (.olst (.val p :: ds)) = .lst (p :: ps) := by
  simp only [frz, P.lst.injEq] at h ⊢
  simp [frzs, frz, h]
variable {α : Type} {e e' : Env} {i : Nat} {d : D} {p : P}
section
variable {Q : P → Env → Prop}
theorem w_nl (h : AtR e i (.loc (.val p))) (q : Q p e) : W (mN i e) Q := ⟨p, e, by unfold mN; rw [h.eq], q⟩
theorem w_np (h : AtR e i (.par (.val p))) (q : Q p e) : W (mN i e) Q := ⟨p, e, by unfold mN; rw [h.eq], q⟩
theorem w_no (h : AtR e i (.loc d)) (hf : frz d = p) (hs : SetR e i (.loc (.val p)) e') (q : Q p e') : W (mN i e) Q := by
  subst hf
  have h1 := h.eq
  have h2 := hs.eq
  unfold mN; rw [h1]
  cases d with
  | val p =>
    refine ⟨p, e, rfl, ?_⟩
    have : e.set i (.loc (.val p)) = e := set_same h1
    simp only [frz] at h2 q
    rw [this] at h2; subst h2; exact q
  | _ => exact ⟨_, _, rfl, by simpa [Sl.with, ← h2] using q⟩
theorem w_npo (h : AtR e i (.par d)) (hf : frz d = p) (hs : SetR e i (.par (.val p)) e') (q : Q p e') : W (mN i e) Q := by
  subst hf
  have h1 := h.eq
  have h2 := hs.eq
  unfold mN; rw [h1]
  cases d with
  | val p =>
    refine ⟨p, e, rfl, ?_⟩
    have : e.set i (.par (.val p)) = e := set_same h1
    simp only [frz] at h2 q
    rw [this] at h2; subst h2; exact q
  | _ => exact ⟨_, _, rfl, by simpa [Sl.with, ← h2] using q⟩
theorem w_w (h : DatR e i d) (hv : viewD d = some p) (q : Q p e) : W (mW i e) Q := ⟨p, e, by unfold mW; rw [h.eq]; simp [hv], q⟩
theorem w_c (q : Q p e) : W (mC p e) Q := ⟨p, e, rfl, q⟩
theorem w_P {m : M D} (h : W (m e) (fun d e' => ∃ p, frz d = p ∧ Q p e')) : W (mP m e) Q := by
  obtain ⟨d, e', h, p, rfl, q⟩ := h
  exact ⟨_, _, by unfold mP; rw [h]; rfl, q⟩
end
section
variable {Q : D → Env → Prop} {g : P → P → Option D} {g1 : P → Option D}
theorem w_V {m : M P} (h : W (m e) (fun d e' => Q (.val d) e')) : W (mV m e) Q := by
  obtain ⟨d, e', h, q⟩ := h
  exact ⟨_, _, by unfold mV; rw [h]; rfl, q⟩
theorem w_op {a b : M P} (h : W (a e) (fun x e1 => W (b e1) (fun y e2 => ∃ r, g x y = some r ∧ Q r e2))) : W (mOp g a b e) Q := by
  obtain ⟨x, e1, h1, y, e2, h2, r, h3, q⟩ := h
  exact ⟨r, e2, by simp [mOp, h1, h2, h3], q⟩
theorem w_un {a : M P} (h : W (a e) (fun x e1 => ∃ r, g1 x = some r ∧ Q r e1)) : W (mUn g1 a e) Q := by
  obtain ⟨x, e1, h1, r, h3, q⟩ := h
  exact ⟨r, e1, by simp [mUn, h1, h3], q⟩
theorem w_opC {k : P} {r : D} (h : DatR e i d) (hv : viewD d = some p) (hg : g p k = some r) (q : Q r e) : W (mOpN g i (mC k) e) Q :=
  ⟨r, e, by simp [mOpN, h.chk, mC, h.eq, hv, hg], q⟩
theorem w_opN {b : M P} (h : DatR e i d) (hb : W (b e) (fun y e2 => ∃ d2 p r, DatR e2 i d2 ∧ viewD d2 = some p ∧ g p y = some r ∧ Q r e2)) : W (mOpN g i b e) Q := by
  obtain ⟨y, e2, h1, d2, p, r, h2, h3, h4, q⟩ := hb
  exact ⟨r, e2, by simp [mOpN, h.chk, h1, h2.eq, h3, h4], q⟩
theorem w_isN {m : M P} (h : W (m e) (fun x e1 => Q (.val (.bl (Z.isNon x))) e1)) : W (mIsN m e) Q := by
  obtain ⟨d, e', h, q⟩ := h
  exact ⟨_, _, by simp only [mIsN, h]; rfl, q⟩
theorem w_tup {m : M (List D)} (h : W (m e) (fun ds e1 => ∃ d, ds.length ≤ sizeLine ∧ mkTup ds = d ∧ Q d e1)) : W (mTup m e) Q := by
  obtain ⟨ds, e', h, d, h1, h2, q⟩ := h
  exact ⟨_, _, by simp [mTup, h, h1, h2], q⟩
theorem w_lst {m : M (List D)} (h : W (m e) (fun ds e1 => ds.length ≤ sizeLine ∧ Q (.olst ds) e1)) : W (mLst m e) Q := by
  obtain ⟨ds, e', h, h1, q⟩ := h
  exact ⟨_, _, by simp [mLst, h, h1], q⟩
theorem w_sl {m : M P} {l u : M (Option Int)} (h : W (m e) (fun x e1 => W (l e1) (fun a e2 => W (u e2) (fun b e3 => ∃ r, gSl x a b = some r ∧ Q r e3)))) : W (mSl m l u e) Q := by
  obtain ⟨x, e1, h1, a, e2, h2, b, e3, h3, r, h4, q⟩ := h
  exact ⟨r, e3, by simp [mSl, h1, h2, h3, h4], q⟩
theorem w_slN {l u : M (Option Int)} (hc : DatR e i d) (h : W (l e) (fun a e2 => W (u e2) (fun b e3 => ∃ d2 p r, DatR e3 i d2 ∧ viewD d2 = some p ∧ gSl p a b = some r ∧ Q r e3))) : W (mSlN i l u e) Q := by
  obtain ⟨a, e2, h2, b, e3, h3, d2, p, r, h4, h5, h6, q⟩ := h
  exact ⟨r, e3, by simp [mSlN, hc.chk, h2, h3, h4.eq, h5, h6], q⟩
theorem w_muL {h : List D → List D → Option (D × List D)} {n : M (List D)} {ds0 : List D} (h0 : AtR e i (.loc (.olst ds0)))
    (hn : W (n e) (fun xs e1 => ∃ ds d ds' e2, AtR e1 i (.loc (.olst ds)) ∧ h ds xs = some (d, ds') ∧ SetR e1 i (.loc (.olst ds')) e2 ∧ Q d e2)) : W (mMu h i n e) Q := by
  obtain ⟨xs, e1, h1, ds, d, ds', e2, h2, h3, h4, q⟩ := hn
  exact ⟨d, e2, by unfold mMu; rw [h0.eq]; simp [h1, h2.eq, Sl.dat, h3, Sl.with, h4.eq], q⟩
theorem w_muP {h : List D → List D → Option (D × List D)} {n : M (List D)} {ds0 : List D} (h0 : AtR e i (.par (.olst ds0)))
    (hn : W (n e) (fun xs e1 => ∃ ds d ds' e2, AtR e1 i (.par (.olst ds)) ∧ h ds xs = some (d, ds') ∧ SetR e1 i (.par (.olst ds')) e2 ∧ Q d e2)) : W (mMu h i n e) Q := by
  obtain ⟨xs, e1, h1, ds, d, ds', e2, h2, h3, h4, q⟩ := hn
  exact ⟨d, e2, by unfold mMu; rw [h0.eq]; simp [h1, h2.eq, Sl.dat, h3, Sl.with, h4.eq], q⟩
end
section
variable {Q : Bool → Env → Prop}
theorem w_tb {m : M D} (h : W (m e) (fun d e1 => ∃ b, d = .val (.bl b) ∧ Q b e1)) : W (mTb m e) Q := by
  obtain ⟨d, e1, h, b, rfl, q⟩ := h
  exact ⟨b, e1, by simp [mTb, h], q⟩
theorem w_not {m : M Bool} (h : W (m e) (fun b e1 => Q (!b) e1)) : W (mNot m e) Q := by
  obtain ⟨d, e1, h, q⟩ := h
  exact ⟨_, e1, by simp only [mNot, h]; rfl, q⟩
theorem w_andT {a b : M Bool} (h : W (a e) (fun x e1 => (x = true → W (b e1) Q) ∧ (x = false → Q false e1))) : W (mAndT a b e) Q := by
  obtain ⟨x, e1, h, h1, h2⟩ := h
  cases x with
  | true =>
    obtain ⟨y, e2, h3, q⟩ := h1 rfl
    exact ⟨y, e2, by simp [mAndT, h, h3], q⟩
  | false => exact ⟨false, e1, by simp [mAndT, h], h2 rfl⟩
theorem w_orT {a b : M Bool} (h : W (a e) (fun x e1 => (x = false → W (b e1) Q) ∧ (x = true → Q true e1))) : W (mOrT a b e) Q := by
  obtain ⟨x, e1, h, h1, h2⟩ := h
  cases x with
  | false =>
    obtain ⟨y, e2, h3, q⟩ := h1 rfl
    exact ⟨y, e2, by simp [mOrT, h, h3], q⟩
  | true => exact ⟨true, e1, by simp [mOrT, h], h2 rfl⟩
theorem w_yes (q : Q true e) : W (mYes e) Q := ⟨_, _, rfl, q⟩
end
theorem w_notV {m : M D} {Q : D → Env → Prop} (h : W (m e) (fun d e1 => ∃ b, d = .val (.bl b) ∧ Q (.val (.bl !b)) e1)) : W (mNotV m e) Q := by
  obtain ⟨d, e1, h, b, rfl, q⟩ := h
  exact ⟨_, e1, by simp [mNotV, mTb, h], q⟩
theorem w_andV {a b : M D} {Q : D → Env → Prop} (h : W (a e) (fun d e1 => ∃ x, d = .val (.bl x) ∧ (x = true → W (b e1) Q) ∧ (x = false → Q (.val (.bl false)) e1))) : W (mAndV a b e) Q := by
  obtain ⟨d, e1, h, x, rfl, h1, h2⟩ := h
  cases x with
  | true =>
    obtain ⟨y, e2, h3, q⟩ := h1 rfl
    exact ⟨y, e2, by simp [mAndV, mTb, h, h3], q⟩
  | false => exact ⟨_, e1, by simp [mAndV, mTb, h], h2 rfl⟩
section
variable {Q : Option Int → Env → Prop}
theorem w_no1 (q : Q none e) : W (mOno e) Q := ⟨_, _, rfl, q⟩
theorem w_op1 {m : M P} (h : W (m e) (fun x e1 => ∃ j, x = .int j ∧ Q (some j) e1)) : W (mOp1 m e) Q := by
  obtain ⟨x, e1, h, j, rfl, q⟩ := h
  exact ⟨some j, e1, by simp [mOp1, h], q⟩
end
section
variable {Q : List D → Env → Prop}
theorem w_lnil (q : Q [] e) : W (mLnil e) Q := ⟨_, _, rfl, q⟩
theorem w_lcons {m : M D} {n : M (List D)} (h : W (m e) (fun d e1 => W (n e1) (fun ds e2 => Q (d :: ds) e2))) : W (mLcons m n e) Q := by
  obtain ⟨d, e1, h, ds, e2, h2, q⟩ := h
  exact ⟨_, _, by simp only [mLcons, h, Option.bind_some, h2]; rfl, q⟩
end
section
variable {Q : List Ar → Env → Prop}
theorem w_anil (q : Q [] e) : W (mAnil e) Q := ⟨_, _, rfl, q⟩
theorem w_ae {m : M D} {n : M (List Ar)} (h : W (m e) (fun d e1 => W (n e1) (fun ds e2 => Q (.v d :: ds) e2))) : W (mAe m n e) Q := by
  obtain ⟨d, e1, h, ds, e2, h2, q⟩ := h
  exact ⟨_, _, by simp only [mAe, h, Option.bind_some, h2]; rfl, q⟩
theorem w_an {n : M (List Ar)} (hc : DatR e i d) (h : W (n e) (fun ds e2 => Q (.r i :: ds) e2)) : W (mAn i n e) Q := by
  obtain ⟨ds, e2, h2, q⟩ := h
  exact ⟨_, _, by unfold mAn; rw [hc.eq]; simp only [h2]; rfl, q⟩
end
def Tk (as : List Ar) (e : Env) (Q : List D → Env → Prop) : Prop := ∃ ds e2, takeR as e = some (ds, e2) ∧ Q ds e2
def Pt (as : List Ar) (ds : List D) (e : Env) (Q : Env → Prop) : Prop := ∃ e2, putR as ds e = some e2 ∧ Q e2
section
variable {Q : List D → Env → Prop} {as : List Ar} {R : Env → Prop} {ds : List D}
theorem tk_nil (q : Q [] e) : Tk [] e Q := ⟨_, _, rfl, q⟩
theorem tk_v (h : Tk as e (fun ds e2 => Q (d :: ds) e2)) : Tk (.v d :: as) e Q := by
  obtain ⟨ds, e2, h, q⟩ := h
  exact ⟨_, _, by simp only [takeR, h]; rfl, q⟩
theorem tk_val (hd : DatR e i (.val p)) (h : Tk as e (fun ds e2 => Q (.val p :: ds) e2)) : Tk (.r i :: as) e Q := by
  obtain ⟨ds, e2, h, q⟩ := h
  obtain ⟨s, h1, h2⟩ := hd.at
  exact ⟨_, _, by simp only [takeR, h1, h2, h]; rfl, q⟩
theorem tk_loc {xs : List D} (ha : AtR e i (.loc (.olst xs))) (hs : SetR e i .un e') (h : Tk as e' (fun ds e2 => Q (.olst xs :: ds) e2)) : Tk (.r i :: as) e Q := by
  obtain ⟨ds, e2, h, q⟩ := h
  exact ⟨_, _, by simp only [takeR, ha.eq, Sl.dat, Sl.out, hs.eq, h]; rfl, q⟩
theorem tk_par {xs : List D} (ha : AtR e i (.par (.olst xs))) (hs : SetR e i .hol e') (h : Tk as e' (fun ds e2 => Q (.olst xs :: ds) e2)) : Tk (.r i :: as) e Q := by
  obtain ⟨ds, e2, h, q⟩ := h
  exact ⟨_, _, by simp only [takeR, ha.eq, Sl.dat, Sl.out, hs.eq, h]; rfl, q⟩
theorem pt_nil (q : R e) : Pt [] [] e R := ⟨_, rfl, q⟩
theorem pt_v {x : D} (h : Pt as ds e R) : Pt (.v d :: as) (x :: ds) e R := by
  obtain ⟨e2, h, q⟩ := h
  exact ⟨_, by simpa only [putR] using h, q⟩
theorem pt_hol (ha : AtR e i .hol) (hs : SetR e i (.par d) e') (h : Pt as ds e' R) : Pt (.r i :: as) (d :: ds) e R := by
  obtain ⟨e2, h, q⟩ := h
  exact ⟨_, by simpa only [putR, ha.eq, hs.eq] using h, q⟩
theorem pt_un (ha : AtR e i .un) (hs : SetR e i (.loc d) e') (h : Pt as ds e' R) : Pt (.r i :: as) (d :: ds) e R := by
  obtain ⟨e2, h, q⟩ := h
  exact ⟨_, by simpa only [putR, ha.eq, hs.eq] using h, q⟩
theorem pt_l {x : D} (ha : AtR e i (.loc x)) (h : Pt as ds e R) : Pt (.r i :: as) (d :: ds) e R := by
  obtain ⟨e2, h, q⟩ := h
  exact ⟨_, by simpa only [putR, ha.eq] using h, q⟩
theorem pt_p {x : D} (ha : AtR e i (.par x)) (h : Pt as ds e R) : Pt (.r i :: as) (d :: ds) e R := by
  obtain ⟨e2, h, q⟩ := h
  exact ⟨_, by simpa only [putR, ha.eq] using h, q⟩
theorem w_call {g : Gf} {m : M (List Ar)} {Q : D → Env → Prop} (h : W (m e) (fun as e1 => Tk as e1 (fun ds e2 => Gs (g ds) (fun d ds' => Pt as ds' e2 (fun e3 => Q d e3))))) : W (mCall g m e) Q := by
  obtain ⟨as, e1, h1, ds, e2, h2, d, ds', h3, e3, h4, q⟩ := h
  exact ⟨d, e3, by simp [mCall, h1, h2, h3, h4], q⟩
end
section
variable {Q : Out → Env → Prop}
theorem w_nil (q : Q .nx e) : W (sNil e) Q := ⟨_, _, rfl, q⟩
theorem w_seq {a b : MS} (h : W (a e) (fun o e1 => (o = .nx → W (b e1) Q) ∧ (o ≠ .nx → Q o e1))) : W (sSeq a b e) Q := by
  obtain ⟨o, e1, h, h1, h2⟩ := h
  cases o with
  | nx =>
    obtain ⟨o2, e2, h3, q⟩ := h1 rfl
    exact ⟨o2, e2, by simp [sSeq, h, h3], q⟩
  | _ => exact ⟨_, e1, by simp only [sSeq, h], h2 (fun h => nomatch h)⟩
theorem sq_nx {p : Prop} {r : Prop} (h : p) : ((Out.nx = .nx) → p) ∧ (Out.nx ≠ .nx → r) := ⟨fun _ => h, fun h => absurd rfl h⟩
theorem sq_ret {p : Prop} {r : Prop} (h : r) : ((Out.ret d = .nx) → p) ∧ (Out.ret d ≠ .nx → r) := ⟨fun q => (nomatch q), fun _ => h⟩
theorem w_if {c : M Bool} {a b : MS} (h : W (c e) (fun x e1 => (x = true → W (a e1) Q) ∧ (x = false → W (b e1) Q))) : W (sIf c a b e) Q := by
  obtain ⟨x, e1, h, h1, h2⟩ := h
  cases x with
  | true =>
    obtain ⟨o2, e2, h3, q⟩ := h1 rfl
    exact ⟨o2, e2, by simp [sIf, h, h3], q⟩
  | false =>
    obtain ⟨o2, e2, h3, q⟩ := h2 rfl
    exact ⟨o2, e2, by simp [sIf, h, h3], q⟩
theorem w_ret {m : M D} (h : W (m e) (fun d e1 => Q (.ret d) e1)) : W (sRet m e) Q := by
  obtain ⟨d, e1, h, q⟩ := h
  exact ⟨_, _, by simp only [sRet, h]; rfl, q⟩
theorem w_drop {m : M D} (h : W (m e) (fun d e1 => Q .nx e1)) : W (sDrop m e) Q := by
  obtain ⟨d, e1, h, q⟩ := h
  exact ⟨_, _, by simp only [sDrop, h]; rfl, q⟩
theorem w_asg {m : M D} (h : W (m e) (fun d e1 => ∃ e2, SetR e1 i (.loc d) e2 ∧ Q .nx e2)) : W (sAsg m (gN i) e) Q := by
  obtain ⟨d, e1, h, e2, h2, q⟩ := h
  obtain ⟨t, ht⟩ := h2.at
  exact ⟨_, _, by simp [sAsg, h, gN, ht, h2.eq], q⟩
theorem w_set {me : M D} {mi : M P} (hc : DatR e i d) (h : W (me e) (fun x e1 => W (mi e1) (fun k e2 => ∃ e3, Z.putAt i k x e2 = some e3 ∧ Q .nx e3))) : W (sSet i me mi e) Q := by
  obtain ⟨x, e1, h1, k, e2, h2, e3, h3, q⟩ := h
  exact ⟨_, _, by simp [sSet, hc.chk, h1, h2, h3], q⟩
theorem put_p {ds ds' : List D} {k : Int} {j : Nat} {x : D} (ha : AtR e i (.par (.olst ds))) (hk : ixN ds.length k = some j) (hl : SetL ds j x ds') (hs : SetR e i (.par (.olst ds')) e') : Z.putAt i (.int k) x e = some e' := by
  simp [Z.putAt, ha.eq, Sl.dat, hk, Sl.with, hl.eq, hs.eq]
theorem put_l {ds ds' : List D} {k : Int} {j : Nat} {x : D} (ha : AtR e i (.loc (.olst ds))) (hk : ixN ds.length k = some j) (hl : SetL ds j x ds') (hs : SetR e i (.loc (.olst ds')) e') : Z.putAt i (.int k) x e = some e' := by
  simp [Z.putAt, ha.eq, Sl.dat, hk, Sl.with, hl.eq, hs.eq]
theorem w_augS {g : P → P → Option D} {mi me : M P} (hc : DatR e i d)
    (h : W (mi e) (fun k e1 => ∃ d ps p, DatR e1 i d ∧ viewD d = some (.lst ps) ∧ gIx (.lst ps) k = some p ∧ ∃ p', frz p = p' ∧ W (me e1) (fun y e2 => ∃ z, g p' y = some z ∧ ∃ e3, Z.putAt i k z e2 = some e3 ∧ Q .nx e3))) : W (sAugS g i mi me e) Q := by
  obtain ⟨k, e1, h1, d, ps, p, h2, h3, h4, p', rfl, y, e2, h5, z, h6, e3, h7, q⟩ := h
  exact ⟨_, _, by simp [sAugS, hc.chk, h1, h2.eq, h3, h4, h5, h6, h7], q⟩
end
theorem gs_fn {np n : Nat} {body : MS} {ds : List D} {R : D → List D → Prop} (hl : ds.length = np) (h : W (body (ds.map .par ++ List.replicate (n - np) .un)) (fun o e => ∃ d ds', (o = .ret d ∨ (o = .nx ∧ d = .val .non)) ∧ outs ds e = some ds' ∧ R d ds')) : Gs (fnM np n body ds) R := by
  obtain ⟨o, e, h1, d, ds', h2, h3, r⟩ := h
  refine ⟨d, ds', ?_, r⟩
  unfold fnM
  rw [if_pos hl, h1]
  rcases h2 with rfl | ⟨rfl, rfl⟩
  · simp [h3]
  · simp [h3]

theorem w_for {m : M (List P)} {g : MG} {b : MS} {Q : Out → Env → Prop} (h : W (m e) (fun ps e1 => W (forL g b ps e1) Q)) : W (sFor m g b e) Q := by
  obtain ⟨ps, e1, h1, o, e2, h2, q⟩ := h
  exact ⟨o, e2, by simp [sFor, h1, h2], q⟩
theorem w_seqI {m : M D} {Q : List P → Env → Prop} (h : W (m e) (fun d e1 => ∃ ps, seqD d = some ps ∧ Q ps e1)) : W (mSeq m e) Q := by
  obtain ⟨d, e1, h1, ps, h2, q⟩ := h
  exact ⟨ps, e1, by simp [mSeq, h1, h2], q⟩
theorem w_rng1 {m : M P} {Q : List P → Env → Prop} (h : W (m e) (fun x e1 => ∃ j, x = .int j ∧ (-(2 ^ 62) ≤ j ∧ j < 2 ^ 62) ∧ Q ((List.range j.toNat).map fun k => .int (k : Nat)) e1)) : W (mRng1 m e) Q := by
  obtain ⟨x, e1, h1, j, rfl, h2, q⟩ := h
  exact ⟨_, e1, by simp only [mRng1, h1, if_pos h2], q⟩
theorem gN_set {d : D} (h : SetR e i (.loc d) e') : gN i d e = some e' := by
  obtain ⟨t, ht⟩ := h.at
  simp [gN, ht, h.eq]
theorem w_comp {β : Type} {m : M (List P)} {v : Nat} {tt : M Bool} {te : M D} {Q : D → Z.Env → Prop} (F : β → P) (c : β → Bool) (f : β → D)
    (h : W (m e) (fun ps e0 => ∃ xs : List β, ps = xs.map F ∧ (∃ s, AtR e0 v s ∧ (s = .un ∨ (∃ p, s = .loc (.val p)) ∨ ∃ p, s = .par (.val p))) ∧ xs.length ≤ sizeLine ∧
      (∀ x ∈ xs, W (tt (e0.set v (.loc (.val (F x))))) (fun b e' => b = c x ∧ e' = e0.set v (.loc (.val (F x))))) ∧
      (∀ x ∈ xs, c x = true → W (te (e0.set v (.loc (.val (F x))))) (fun d e' => d = f x ∧ e' = e0.set v (.loc (.val (F x))))) ∧
      Q (.olst ((xs.filter c).map f)) e0)) : W (mComp m (gN v) tt te [v] e) Q := by
  obtain ⟨ps, e0, hm, xs, rfl, ⟨s, hs, hu⟩, hl, ht, he, q⟩ := h
  have hv : v < e0.length := (List.getElem?_eq_some_iff.mp hs.eq).1
  have key : ∀ (xs : List β) (acc : List D), acc.length + xs.length ≤ sizeLine → (∀ x ∈ xs, W (tt (e0.set v (.loc (.val (F x))))) (fun b e' => b = c x ∧ e' = e0.set v (.loc (.val (F x))))) →
      (∀ x ∈ xs, c x = true → W (te (e0.set v (.loc (.val (F x))))) (fun d e' => d = f x ∧ e' = e0.set v (.loc (.val (F x))))) →
      compL (gN v) tt te [v] (xs.map F) acc (e0.set v .un) = some (acc ++ (xs.filter c).map f, e0.set v .un) := by
    intro xs
    induction xs with
    | nil => intro acc _ _ _; simp [compL]
    | cons p ps ih =>
      intro acc hl ht he
      have hg : gN v (.val (F p)) (e0.set v .un) = some (e0.set v (.loc (.val (F p)))) := by simp [gN, hv]
      obtain ⟨b, e2, hc, rfl, rfl⟩ := ht p (List.mem_cons_self)
      have hl2 : acc.length + (ps.length + 1) ≤ sizeLine := by simpa using hl
      cases hcp : c p with
      | false =>
        rw [hcp] at hc
        simp only [List.map_cons, compL, hg, hc, clr, List.set_set]
        rw [ih acc (by omega) (fun p hp => ht p (List.mem_cons_of_mem _ hp)) (fun p hp => he p (List.mem_cons_of_mem _ hp))]
        simp [hcp]
      | true =>
        rw [hcp] at hc
        obtain ⟨d, e3, hf, rfl, rfl⟩ := he p (List.mem_cons_self) hcp
        have hl3 : acc.length < sizeLine := by omega
        simp only [List.map_cons, compL, hg, hc, hf, clr, List.set_set, if_pos hl3]
        rw [ih (acc ++ [f p]) (by simp only [List.length_append, List.length_cons, List.length_nil]; omega) (fun p hp => ht p (List.mem_cons_of_mem _ hp)) (fun p hp => he p (List.mem_cons_of_mem _ hp))]
        simp [hcp]
  have hh : hid [v] e0 = some (e0.set v .un) := by
    simp only [hid, List.not_mem_nil, if_false, Option.bind_some, hs.eq]
    rcases hu with rfl | ⟨p, rfl⟩ | ⟨p, rfl⟩
    · rw [set_same hs.eq]
    · rfl
    · rfl
  refine ⟨_, _, ?_, q⟩
  unfold mComp
  rw [hm]
  simp only [Option.bind_some, hh]
  rw [key xs [] (by simpa using hl) ht he]
  simp only [Option.map_some, res, hs.eq, List.nil_append, List.set_set]
  rw [set_same hs.eq]
theorem for_invM {β : Type} {g : MG} {b : MS} {Q : Out → Z.Env → Prop} (F : β → P) (I : List β → Z.Env → Prop) (xs : List β) (e : Z.Env) (h : I xs e)
    (hs : ∀ p r e, p ∈ xs → I (p :: r) e → ∃ e1, g (.val (F p)) e = some e1 ∧ W (b e1) (fun o e2 => ((o = .nx ∨ o = .ct) ∧ I r e2) ∨ (o = .bk ∧ Q .nx e2) ∨ (∃ d, o = .ret d ∧ Q o e2)))
    (hn : ∀ e, I [] e → Q .nx e) : W (forL g b (xs.map F) e) Q := by
  induction xs generalizing e with
  | nil => exact ⟨.nx, e, rfl, hn e h⟩
  | cons p ps ih =>
    obtain ⟨e1, h1, o, e2, h2, h3⟩ := hs p ps e List.mem_cons_self h
    rcases h3 with ⟨ho, h3⟩ | ⟨rfl, h3⟩ | ⟨d, rfl, h3⟩
    · obtain ⟨o', e', h4, q⟩ := ih e2 h3 (fun p r e hp => hs p r e (List.mem_cons_of_mem _ hp))
      refine ⟨o', e', ?_, q⟩
      rcases ho with rfl | rfl
      · simp [forL, h1, h2, h4]
      · simp [forL, h1, h2, h4]
    · exact ⟨.nx, e2, by simp [forL, h1, h2], h3⟩
    · exact ⟨.ret d, e2, by simp [forL, h1, h2], h3⟩
end Z
namespace Z
theorem ex2 {α : Sort _} {A B : α → Prop} {r : α} (h : A r) (q : B r) : ∃ r, A r ∧ B r := ⟨r, h, q⟩
theorem br_t {p q : Prop} (h : p) : (true = true → p) ∧ (true = false → q) := ⟨fun _ => h, fun q => nomatch q⟩
theorem br_f {p q : Prop} (h : q) : (false = true → p) ∧ (false = false → q) := ⟨fun q => (nomatch q), fun _ => h⟩
theorem br_t' {p q : Prop} (h : p) : (true = false → q) ∧ (true = true → p) := ⟨fun q => (nomatch q), fun _ => h⟩
theorem br_f' {p q : Prop} (h : q) : (false = false → q) ∧ (false = true → p) := ⟨fun _ => h, fun q => nomatch q⟩
end Z
namespace Z
theorem vw_val (p : P) : viewD (.val p) = some p := rfl
theorem vw_nil : viewD (.olst []) = some (.lst []) := rfl
theorem vw_cons {ds : List D} {ps : List P} {p : P} (h : viewD (.olst ds) = some (.lst ps)) : viewD (.olst (.val p :: ds)) = some (.lst (p :: ps)) := by
  simp only [viewD, Option.map_eq_some_iff, P.lst.injEq, exists_eq_right] at h ⊢
  simp [allV, h]
end Z
namespace Z
open PySem.Spec PyProof.Rows L2 PySem
theorem o_gt (i j : Int) : gGt (.int i) (.int j) = some (.val (.bl (decide (j < i)))) := rfl
theorem o_ge (i j : Int) : gGe (.int i) (.int j) = some (.val (.bl (decide (j ≤ i)))) := rfl
theorem o_lt (i j : Int) : gLt (.int i) (.int j) = some (.val (.bl (decide (i < j)))) := rfl
theorem o_le (i j : Int) : gLe (.int i) (.int j) = some (.val (.bl (decide (i ≤ j)))) := rfl
theorem o_add (i j : Int) : gAdd (.int i) (.int j) = some (.val (.int (i + j))) := rfl
theorem o_iadd (i j : Int) : gIAdd (.int i) (.int j) = some (.val (.int (i + j))) := rfl
theorem o_addt {xs ys : List P} (h : xs.length + ys.length ≤ sizeLine) : gAdd (.tup xs) (.tup ys) = some (.val (.tup (xs ++ ys))) := by simp [gAdd, h, ans]
theorem o_addl {xs ys : List P} (h : xs.length + ys.length ≤ sizeLine) : gAdd (.lst xs) (.lst ys) = some (.olst ((xs ++ ys).map .val)) := if_pos h
theorem o_sub (i j : Int) : Z.gSub (.int i) (.int j) = some (.val (.int (i - j))) := rfl
theorem o_mulr {i j : Int} (h : -(2 ^ 64) < j ∧ j < 2 ^ 64) : gMul (.int i) (.int j) = some (.val (.int (i * j))) := if_pos (.inr h)
theorem o_mull {i j : Int} (h : -(2 ^ 64) < i ∧ i < 2 ^ 64) : gMul (.int i) (.int j) = some (.val (.int (i * j))) := if_pos (.inl h)
theorem o_fdiv {i j : Int} (h : j ≠ 0 ∧ j.natAbs < 1073741824) : gFdiv (.int i) (.int j) = some (.val (.int (i.fdiv j))) := if_pos h
theorem o_mod {i j : Int} (h : j ≠ 0) : gMod (.int i) (.int j) = some (.val (.int (i.fmod j))) := if_pos h
theorem o_pow {i j : Int} (h : 0 ≤ j ∧ j ≤ 1000000 ∧ i.natAbs < 2 ^ 64) : gPow (.int i) (.int j) = some (.val (.int (i ^ j.toNat))) := if_pos h
theorem o_shl {i j : Int} (h : 0 ≤ j ∧ j ≤ 1000000 ∧ i.natAbs < 2 ^ 64) : gShl (.int i) (.int j) = some (.val (.int (i * 2 ^ j.toNat))) := if_pos h
theorem o_abs (i : Int) : gAbs (.int i) = some (.val (.int (if i < 0 then -i else i))) := rfl
theorem o_inti (i : Int) : gInt (.int i) = some (.val (.int i)) := rfl
theorem o_intb (b : Bool) : gInt (.bl b) = some (.val (.int (if b then 1 else 0))) := rfl
theorem o_lenl (ps : List P) : gLen (.lst ps) = some (.val (.int ps.length)) := rfl
theorem o_lent (ps : List P) : gLen (.tup ps) = some (.val (.int ps.length)) := rfl
theorem o_listl (ps : List P) : gListOf (.lst ps) = some (.olst (ps.map .val)) := rfl
theorem o_listt (ps : List P) : gListOf (.tup ps) = some (.olst (ps.map .val)) := rfl
theorem o_tupl (ps : List P) : gTupOf (.lst ps) = some (.val (.tup ps)) := rfl
theorem o_ixl {ps : List P} {i : Int} {p : P} (h : atI ps i = some p) : gIx (.lst ps) (.int i) = some (.val p) := congrArg (Option.map D.val) h
theorem o_ixt {ps : List P} {i : Int} {p : P} (h : atI ps i = some p) : gIx (.tup ps) (.int i) = some (.val p) := congrArg (Option.map D.val) h
theorem o_eqi (i j : Int) : gEq (.int i) (.int j) = some (.val (.bl (decide (i = j)))) := rfl
theorem o_nei (i j : Int) : gNe (.int i) (.int j) = some (.val (.bl (!decide (i = j)))) := rfl
theorem o_eqs (i j : Str) : gEq (.str i) (.str j) = some (.val (.bl (decide (i = j)))) := rfl
theorem o_nes (i j : Str) : gNe (.str i) (.str j) = some (.val (.bl (!decide (i = j)))) := rfl
theorem o_app {ds : List D} {d : D} (h : ds.length < sizeLine) : hApp ds [d] = some (.val .non, ds ++ [d]) := if_pos h
theorem mk_nil : mkTup [] = .val (.tup []) := rfl
theorem mk_cons {ds : List D} {ps : List P} {p : P} (h : mkTup ds = .val (.tup ps)) : mkTup (.val p :: ds) = .val (.tup (p :: ps)) := by
  unfold mkTup at h ⊢
  cases g : allV ds with
  | none => rw [g] at h; simp at h
  | some qs =>
    rw [g] at h
    simp only [D.val.injEq, P.tup.injEq] at h
    subst h
    simp [allV, g]
theorem se_lst (ps : List P) : seqD (.val (.lst ps)) = some ps := rfl
theorem se_tup (ps : List P) : seqD (.val (.tup ps)) = some ps := rfl
theorem se_scr (ps : List Int) : seqD (.val (.scr ps)) = some (ps.map .int) := rfl
end Z
namespace Z
theorem ex_tup {ds : List D} {d0 : D} {A : D → Prop} (h : ds.length ≤ sizeLine) (hm : mkTup ds = d0) (q : A d0) : ∃ d, ds.length ≤ sizeLine ∧ mkTup ds = d ∧ A d := ⟨d0, h, hm, q⟩
end Z
namespace Z
theorem ex_view {e : Z.Env} {i : Nat} {d : D} {ps : P} {A : P → D → Prop} {B : P → D → Prop} {p : D} (h1 : DatR e i d) (h2 : viewD d = some ps) (h3 : A ps p) (h4 : B ps p) : ∃ d ps p, DatR e i d ∧ viewD d = some ps ∧ A ps p ∧ B ps p := ⟨_, _, _, h1, h2, h3, h4⟩
theorem ex_viewL {e : Z.Env} {i : Nat} {d : D} {ps : List P} {A : List P → D → Prop} {B : List P → D → Prop} {p : D} (h1 : DatR e i d) (h2 : viewD d = some (.lst ps)) (h3 : A ps p) (h4 : B ps p) : ∃ d ps p, DatR e i d ∧ viewD d = some (.lst ps) ∧ A ps p ∧ B ps p := ⟨_, _, _, h1, h2, h3, h4⟩
theorem ex_muL {h : List D → List D → Option (D × List D)} {xs : List D} {e : Z.Env} {i : Nat} {ds ds' : List D} {d : D} {e2 : Z.Env} {Q : D → Z.Env → Prop} (h1 : AtR e i (.loc (.olst ds))) (h2 : h ds xs = some (d, ds')) (h3 : SetR e i (.loc (.olst ds')) e2) (q : Q d e2) :
    ∃ ds d ds' e2, AtR e i (.loc (.olst ds)) ∧ h ds xs = some (d, ds') ∧ SetR e i (.loc (.olst ds')) e2 ∧ Q d e2 := ⟨_, _, _, _, h1, h2, h3, q⟩
theorem ex_muP {h : List D → List D → Option (D × List D)} {xs : List D} {e : Z.Env} {i : Nat} {ds ds' : List D} {d : D} {e2 : Z.Env} {Q : D → Z.Env → Prop} (h1 : AtR e i (.par (.olst ds))) (h2 : h ds xs = some (d, ds')) (h3 : SetR e i (.par (.olst ds')) e2) (q : Q d e2) :
    ∃ ds d ds' e2, AtR e i (.par (.olst ds)) ∧ h ds xs = some (d, ds') ∧ SetR e i (.par (.olst ds')) e2 ∧ Q d e2 := ⟨_, _, _, _, h1, h2, h3, q⟩
theorem o_slt {ps qs : List P} {l u : Option Int} (h : cutP ps l u = qs) : gSl (.tup ps) l u = some (.val (.tup qs)) := by subst h; rfl
end Z
namespace Z
open PySem.Spec PyProof.Rows L2 PySem

theorem dats_ints (ns : List Int) : dats (ns.map .int) = some (ns.map .int) := by
  induction ns with
  | nil => rfl
  | cons n ns ih => simp [dats, dat, ih]
theorem dat_tupI (ns : List Int) : dat (tupI ns) = some (.tuple (ns.map .int)) := by simp [tupI, dat, dats_ints]
def pdT (ns : List Int) : PyData := .tuple (ns.map .int)
theorem dats_tups (G : List (List Int)) : dats (G.map tupI) = some (G.map pdT) := by
  induction G with
  | nil => rfl
  | cons n ns ih => simp [dats, dat_tupI, ih, pdT]
theorem lay_ints (ns : List Int) : PyData.canLayAll0 (ns.map .int) = true := by
  induction ns with
  | nil => rfl
  | cons n ns ih => simp [PyData.canLayAll0, PyData.canLay0, ih]
theorem dep_ints (ns : List Int) : PyData.depthAll (ns.map .int) = 0 := by
  induction ns with
  | nil => rfl
  | cons n ns ih => simp [PyData.depthAll, PyData.depth, ih]
theorem lay_tups (G : List (List Int)) : PyData.canLayAll0 (G.map pdT) = true := by
  induction G with
  | nil => rfl
  | cons n ns ih => simp [PyData.canLayAll0, PyData.canLay0, ih, pdT, lay_ints]
theorem dep_tups (G : List (List Int)) : PyData.depthAll (G.map pdT) ≤ 1 := by
  induction G with
  | nil => simp [PyData.depthAll]
  | cons n ns ih => simp only [List.map_cons, PyData.depthAll, PyData.depth, pdT, dep_ints]; omega
theorem sh_int (n : Int) : SeqAt.shaped (.int n) = true := rfl
theorem sh_tupI (ns : List Int) : SeqAt.shaped (.tuple (ns.map .int)) = true := by
  simp [SeqAt.shaped, PyData.canLay0, lay_ints, PyData.depth, dep_ints]
theorem sh_tups (G : List (List Int)) : SeqAt.shaped (.tuple (G.map pdT)) = true := by
  have := dep_tups G
  simp only [SeqAt.shaped, PyData.canLay0, lay_tups, PyData.depth, Bool.true_and, decide_eq_true_eq]
  exact decide_eq_true (Nat.le_trans (Nat.add_le_add_right this 1) (show 1 + 1 ≤ 64 by decide))
theorem sh_tupsL (G : List (List Int)) : SeqAt.shaped (.list (G.map pdT)) = true := by
  have := dep_tups G
  simp only [SeqAt.shaped, PyData.canLay0, lay_tups, PyData.depth, Bool.true_and, decide_eq_true_eq]
  exact decide_eq_true (Nat.le_trans (Nat.add_le_add_right this 1) (show 1 + 1 ≤ 64 by decide))
theorem eqv_ints (a b : List Int) : PyData.eqvAll (a.map .int) (b.map .int) = decide (a = b) := by
  induction a generalizing b with
  | nil => cases b <;> simp [PyData.eqvAll]
  | cons x xs ih =>
    cases b with
    | nil => simp [PyData.eqvAll]
    | cons y ys =>
      simp only [List.map_cons, PyData.eqvAll, PyData.eqv, ih, List.cons.injEq]
      by_cases h : x = y <;> by_cases h2 : xs = ys <;> simp [h, h2]
theorem eqv_tupI (a b : List Int) : PyData.eqv (pdT a) (pdT b) = decide (a = b) := by simp [pdT, PyData.eqv, eqv_ints]
theorem eqP_tupI (a b : List Int) : eqP (tupI a) (tupI b) = some (decide (a = b)) := by
  have h : eqP (tupI a) (tupI b) = (dat (tupI a)).bind fun d => (dat (tupI b)).bind fun e => if SeqAt.shaped d = true ∧ SeqAt.shaped e = true then some (PyData.eqv d e) else none := rfl
  rw [h, dat_tupI, dat_tupI]
  simp only [Option.bind_some, sh_tupI, and_self, if_true]
  exact congrArg some (eqv_tupI a b)
theorem o_neT (a b : List Int) : gNe (tupI a) (tupI b) = some (.val (.bl (!decide (a = b)))) := by simp [gNe, eqP_tupI]
theorem any_tupI (a : List Int) (G : List (List Int)) : ((G.map pdT).any fun z => PyData.eqv z (pdT a)) = decide (a ∈ G) := by
  induction G with
  | nil => simp
  | cons g G ih =>
    simp only [List.map_cons, List.any_cons, ih, eqv_tupI, List.mem_cons]
    have e : (a = g) = (g = a) := propext eq_comm
    by_cases h : g = a <;> by_cases h2 : a ∈ G <;> simp [h, h2, e]
theorem inP_t (a : List Int) (G : List (List Int)) : inP (tupI a) (.tup (G.map tupI)) = some (decide (a ∈ G)) := by
  simp only [inP, dat_tupI, dats_tups, Option.bind_some, sh_tupI, sh_tups, and_self, if_true]
  exact congrArg some (any_tupI a G)
theorem inP_l (a : List Int) (G : List (List Int)) : inP (tupI a) (.lst (G.map tupI)) = some (decide (a ∈ G)) := by
  simp only [inP, dat_tupI, dats_tups, Option.bind_some, sh_tupI, sh_tupsL, and_self, if_true]
  exact congrArg some (any_tupI a G)
theorem o_inTt (a : List Int) (G : List (List Int)) : gIn (tupI a) (.tup (G.map tupI)) = some (.val (.bl (decide (a ∈ G)))) := by simp [gIn, inP_t]
theorem o_inTl (a : List Int) (G : List (List Int)) : gIn (tupI a) (.lst (G.map tupI)) = some (.val (.bl (decide (a ∈ G)))) := by simp [gIn, inP_l]
theorem o_niTl (a : List Int) (G : List (List Int)) : gNotIn (tupI a) (.lst (G.map tupI)) = some (.val (.bl (!decide (a ∈ G)))) := by simp [gNotIn, inP_l]
theorem any_int (a : Int) (ns : List Int) : ((ns.map PyData.int).any fun z => PyData.eqv z (.int a)) = decide (a ∈ ns) := by
  induction ns with
  | nil => simp
  | cons g G ih =>
    simp only [List.map_cons, List.any_cons, ih, PyData.eqv, List.mem_cons]
    have e : (a = g) = (g = a) := propext eq_comm
    by_cases h : g = a <;> by_cases h2 : a ∈ G <;> simp [h, h2, e]
theorem o_inIt (a : Int) (ns : List Int) : gIn (.int a) (.tup (ns.map .int)) = some (.val (.bl (decide (a ∈ ns)))) := by
  simp only [gIn, inP, dat, dats_ints, Option.bind_some, sh_tupI, sh_int, and_self, if_true, any_int, Option.map_some]
theorem o_in2 (a i j : Int) : gIn (.int a) (.tup [.int i, .int j]) = some (.val (.bl (decide (a ∈ [i, j])))) := o_inIt a [i, j]
theorem o_in3 (a i j k : Int) : gIn (.int a) (.tup [.int i, .int j, .int k]) = some (.val (.bl (decide (a ∈ [i, j, k])))) := o_inIt a [i, j, k]
theorem intsP_ints (ns : List Int) : intsP (ns.map .int) = some ns := by
  induction ns with
  | nil => rfl
  | cons n ns ih => simp [intsP, ih]
theorem tupsP_tups (G : List (List Int)) (h : ∀ g ∈ G, g ≠ []) : tupsP (G.map tupI) = some G := by
  induction G with
  | nil => rfl
  | cons n ns ih =>
    have := ih fun g hg => h g (List.mem_cons_of_mem _ hg)
    simp only [List.map_cons]
    simp only [tupI, tupsP, intsP_ints, Option.bind_some, if_neg (h n List.mem_cons_self)]
    change Option.map _ (tupsP (ns.map tupI)) = _
    rw [this]; rfl
theorem sortT_perm (G : List (List Int)) : (sortT G).Perm G := List.mergeSort_perm _ _
theorem sorted_core (ps : List P) (G : List (List Int)) (hp : ps = G.map tupI) (h : ∀ g ∈ G, g ≠ []) : (match intsP ps with
  | some ns => some (D.olst ((sortI ns).map fun n => .val (.int n)))
  | none => match tupsP ps with
    | some nss => some (.olst ((sortT nss).map fun ns => .val (tupI ns)))
    | none => none) = some (.olst (((sortT G).map tupI).map .val)) := by
  subst hp
  cases G with
  | nil => simp [intsP, sortI, sortT]
  | cons g G =>
    have h1 : intsP ((g :: G).map tupI) = none := rfl
    rw [h1, tupsP_tups _ h]
    simp
theorem o_sortTl {G : List (List Int)} (h : ∀ g ∈ G, g ≠ []) : gSorted (.lst (G.map tupI)) = some (.olst (((sortT G).map tupI).map .val)) := sorted_core _ G rfl h
theorem o_sum (ns : List Int) : gSum (.lst (ns.map .int)) = some (.val (.int ns.sum)) := by simp [gSum, intsP_ints, ans]
theorem at_map {α β : Type} {xs : List α} {F : α → β} {k : Nat} {x : α} (h : xs[k]? = some x) : atI (xs.map F) (k : Int) = some (F x) := by
  have hk : k < xs.length := (List.getElem?_eq_some_iff.mp h).1
  have h2 := (List.getElem?_eq_some_iff.mp h).2
  simp [atI, ixN, hk, h2]
theorem at_mapI {α β : Type} {xs : List α} {F : α → β} {i : Int} {x : α} (h0 : 0 ≤ i) (h : xs[i.toNat]? = some x) : atI (xs.map F) i = some (F x) := by
  have := at_map (F := F) h
  rwa [Int.toNat_of_nonneg h0] at this
theorem o_adds {a b : Str} (h : a.length + b.length ≤ sizeLine) : gAdd (.str a) (.str b) = some (.val (.str (a ++ b))) := if_pos h
theorem o_split {a b : Str} (h : (b.length == 0) = false ∧ a.length + 2 ≤ sizeLine) : gSplit (.str a) (.str b) = some (.olst (((Txt.split a b).map .str).map .val)) := by
  unfold gSplit
  simp only [if_pos h, List.map_map]
  rfl
theorem w_compV {e : Z.Env} {β : Type} {m : M (List P)} {v : Nat} {tt : M Bool} {te : M D} {Q : D → Z.Env → Prop} (F : β → P) (c : β → Bool) (f : β → P)
    (h : W (m e) (fun ps e0 => ∃ xs : List β, ps = xs.map F ∧ (∃ s, AtR e0 v s ∧ (s = .un ∨ (∃ p, s = .loc (.val p)) ∨ ∃ p, s = .par (.val p))) ∧ xs.length ≤ sizeLine ∧
      (∀ x ∈ xs, W (tt (e0.set v (.loc (.val (F x))))) (fun b e' => b = c x ∧ e' = e0.set v (.loc (.val (F x))))) ∧
      (∀ x ∈ xs, c x = true → W (te (e0.set v (.loc (.val (F x))))) (fun d e' => d = .val (f x) ∧ e' = e0.set v (.loc (.val (F x))))) ∧
      Q (.olst (((xs.filter c).map f).map .val)) e0)) : W (mComp m (gN v) tt te [v] e) Q := by
  refine w_comp F c (fun x => .val (f x)) (h.mono fun ps e0 ⟨xs, h1, h2, h3, h4, h5, h6⟩ => ⟨xs, h1, h2, h3, h4, h5, ?_⟩)
  rw [List.map_map] at h6
  exact h6
theorem w_compM {e : Z.Env} {β : Type} {m : M (List P)} {v : Nat} {te : M D} {Q : D → Z.Env → Prop} (F : β → P) (f : β → P)
    (h : W (m e) (fun ps e0 => ∃ xs : List β, ps = xs.map F ∧ (∃ s, AtR e0 v s ∧ (s = .un ∨ (∃ p, s = .loc (.val p)) ∨ ∃ p, s = .par (.val p))) ∧ xs.length ≤ sizeLine ∧
      (∀ x ∈ xs, W (te (e0.set v (.loc (.val (F x))))) (fun d e' => d = .val (f x) ∧ e' = e0.set v (.loc (.val (F x))))) ∧
      Q (.olst ((xs.map f).map .val)) e0)) : W (mComp m (gN v) mYes te [v] e) Q := by
  refine w_compV F (fun _ => true) f (h.mono fun ps e0 ⟨xs, h1, h2, h3, h5, h6⟩ => ⟨xs, h1, h2, h3, fun x _ => ⟨true, _, rfl, rfl, rfl⟩, fun x hx _ => h5 x hx, ?_⟩)
  rw [List.filter_eq_self.mpr fun _ _ => rfl]
  exact h6
theorem le_size {n k : Nat} (h : n ≤ k) (hk : k ≤ 16777216) : n ≤ sizeLine := Nat.le_trans h (Nat.le_trans hk (by decide))
theorem lt_size {n k : Nat} (h : n ≤ k) (hk : k < 16777216) : n < sizeLine := Nat.lt_of_le_of_lt h (Nat.lt_of_lt_of_le hk (by decide))
theorem and_len {ds : List D} {p : Prop} (h : ds.length ≤ sizeLine) (q : p) : ds.length ≤ sizeLine ∧ p := ⟨h, q⟩
theorem app_V {ps : List P} {p : P} (h : ps.length < sizeLine) : hApp (ps.map .val) [.val p] = some (.val .non, (ps ++ [p]).map .val) := by
  rw [o_app (by simpa using h)]
  simp
theorem app_T {acc : List (List Int)} (ns : List Int) (h : acc.length < sizeLine) : hApp ((acc.map tupI).map .val) [.val (tupI ns)] = some (.val .non, ((acc ++ [ns]).map tupI).map .val) := by
  rw [app_V (by simpa using h)]
  simp
theorem br_gen {x : Bool} {a b : MS} {e : Z.Env} {Q : Out → Z.Env → Prop} (I : Z.Env → Z.Env → Prop) (h1 : x = true → W (a e) (fun o e1 => o = .nx ∧ I e e1)) (h2 : I e e) (k : ∀ e1, I e e1 → W (b e1) Q) :
    (x = true → W (a e) (fun o e1 => (o = .nx → W (b e1) Q) ∧ (o ≠ .nx → Q o e1))) ∧ (x = false → W (sNil e) (fun o e1 => (o = .nx → W (b e1) Q) ∧ (o ≠ .nx → Q o e1))) :=
  ⟨fun hx => (h1 hx).mono fun o e1 ⟨ho, hi⟩ => by subst ho; exact sq_nx (k e1 hi), fun _ => ⟨.nx, e, rfl, sq_nx (k e h2)⟩⟩
section
variable {e e1 : Z.Env} {i : Nat} {g : MG} {b : MS} {Q : Out → Z.Env → Prop} {ps : List P} {p : P} {d : D}
theorem w_forNv (h : DatR e i (.val p)) (hs : seqD (.val p) = some ps) (q : W (forL g b ps e) Q) : W (sForN i g b e) Q := by
  obtain ⟨o, e2, h2, q⟩ := q
  obtain ⟨s, h3, h4⟩ := h.at
  refine ⟨o, e2, ?_, q⟩
  have h5 : mN i e = some (p, e) := by
    unfold mN; rw [h3]
    cases s with
    | loc d => simp only [Sl.dat, Option.some.injEq] at h4; subst h4; rfl
    | par d => simp only [Sl.dat, Option.some.injEq] at h4; subst h4; rfl
    | _ => cases h4
  simp only [sForN, h3, h4, sFor, mSeq, mV, h5, Option.map_some, Option.bind_some, hs, h2]
theorem w_forNo {s : Sl} (h : AtR e i s) (hd : s.dat = some (.olst (ps.map .val))) (hs : SetR e i .hol e1) (q : W (forL g b ps e1) (fun o e2 => AtR e2 i .hol ∧ ∃ e3, SetR e2 i s e3 ∧ Q o e3)) : W (sForN i g b e) Q := by
  obtain ⟨o, e2, h2, h3, e3, h4, q⟩ := q
  refine ⟨o, e3, ?_, q⟩
  simp only [sForN, h.eq, hd, allV_map, Option.bind_some, hs.eq, h2, h3.eq, h4.eq]
end
theorem ix_t0 (a b c : Int) : gIx (tupI [a, b, c]) (.int 0) = some (.val (.int a)) := rfl
theorem ix_t1 (a b c : Int) : gIx (tupI [a, b, c]) (.int 1) = some (.val (.int b)) := rfl
theorem ix_t2 (a b c : Int) : gIx (tupI [a, b, c]) (.int 2) = some (.val (.int c)) := rfl
theorem and_at {e : Z.Env} {i : Nat} {s : Sl} {p : Prop} (h : AtR e i s) (q : p) : AtR e i s ∧ p := ⟨h, q⟩
end Z
namespace Z
open PySem.Spec PyProof.Rows L2 PySem
variable {K : PySem.W.Frag}

end Z
namespace Z
open PySem.Spec PyProof.Rows L2 PySem
variable {K : PySem.W.Frag}

theorem RepDs.upd {w : Wd} : ∀ {ds : List D} {vs : List V} {f : List Addr} {j : Nat} {d : D}, RepDs K w ds vs f → ds[j]? = some d →
    ∃ v g1 fk g2, vs[j]? = some v ∧ f = g1 ++ (fk ++ g2) ∧ RepD K w d v fk ∧ ∀ w' d' fk', Keeps w w' (g1 ++ g2) → RepD K w' d' v fk' → RepDs K w' (ds.set j d') vs (g1 ++ (fk' ++ g2))
  | [], _, _, j, d, h, e => by simp at e
  | d0 :: ds, vs, f, 0, d, h, e => by
    obtain ⟨v, r, f1, f2, rfl, rfl, h1, h2⟩ := h
    have e : d0 = d := by simpa using e
    subst e
    refine ⟨v, [], f1, f2, rfl, rfl, h1, fun w' d' fk' k h' => ?_⟩
    exact ⟨v, r, fk', f2, rfl, rfl, h', h2.keeps ds r f2 (k.weak fun a m => by simpa using m)⟩
  | d0 :: ds, vs, f, j + 1, d, h, e => by
    obtain ⟨v, r, f1, f2, rfl, rfl, h1, h2⟩ := h
    obtain ⟨u, g1, fk, g2, a1, rfl, a3, a4⟩ := RepDs.upd (j := j) h2 (by simpa using e)
    refine ⟨u, f1 ++ g1, fk, g2, by simpa using a1, by simp, a3, fun w' d' fk' k h' => ?_⟩
    have := a4 w' d' fk' (k.weak fun a m => by simp at m ⊢; rcases m with m | m <;> simp [m]) h'
    exact ⟨v, r, f1, g1 ++ (fk' ++ g2), rfl, by simp, h1.keeps d0 v f1 (k.weak fun a m => by simp [m]), this⟩
inductive Ix where
  | c (k : Int) | n (j : Nat)
def Ix.te : Ix → TE
  | .c k => tC (.int k)
  | .n j => tVar j
def Ix.get (e : Env) : Ix → Option Int
  | .c k => some k
  | .n j => match e[j]?.bind Sl.dat with
    | some (.val (.int k)) => some k
    | _ => none
section
variable {X : Cx} {o e : Expr} {es : List Expr} {p apos pos : Pos} {x : Str} {t : TA} {i : Nat}
end
end Z
namespace Z
open PySem.Spec PyProof.Rows L2 PySem

theorem blsP_bls (bs : List Bool) : blsP (bs.map .bl) = some bs := by
  induction bs with
  | nil => rfl
  | cons b bs ih => simp [blsP, ih]
theorem o_all (bs : List Bool) : gAll (.lst (bs.map .bl)) = some (.val (.bl (bs.all id))) := by
  unfold gAll
  simp only [blsP_bls, Option.bind_some]
  rfl
end Z
namespace Z
open PySem.Spec PyProof.Rows L2 PySem
variable {K : PySem.W.Frag}

def mChain (g g' : P → P → Option D) (a b c : M P) : M D := fun e => (a e).bind fun x => (b x.2).bind fun y => match g x.1 y.1 with
  | some (.val (.bl true)) => (c y.2).bind fun z => (g' y.1 z.1).map fun r => (r, z.2)
  | some (.val (.bl false)) => some (.val (.bl false), y.2)
  | _ => none
theorem je_chain {r r' : R2} {g g' : P → P → Option D} {ta tb tc : TE} {ma mb mc : M P} (h1 : SR2 K r g) (h2 : SR2 K r' g') (ha : JP K ta ma) (hb : JP K tb mb) (hc : JB K tc mc) : JE K (tChain r r' ta tb tc) (mChain g g' ma mb mc) := by
  intro σ₀ σ w e f Q d e' E G hm hq
  simp only [mChain, Option.bind_eq_some_iff] at hm
  obtain ⟨⟨x, e1⟩, k1, ⟨y, e2⟩, k2, k3⟩ := hm
  refine ha σ₀ σ w e f _ x e1 E G k1 fun vx w1 f1 ev1 g1 E1 rx => ?_
  refine hb σ₀ σ w1 e1 f1 _ y e2 E1 g1 k2 fun vy w2 f2 ev2 g2 E2 ry => ?_
  split at k3
  · rename_i hg
    simp only [Option.bind_eq_some_iff, Option.map_eq_some_iff] at k3
    obtain ⟨⟨z, e3⟩, k4, r0, k5, k6⟩ := k3
    cases k6
    refine h1 w2 x y vx vy _ _ (rx.ev g1 ev2).toB ry.toB hg fun v w3 fv ev3 g3 r3 => ?_
    obtain ⟨rfl, r4⟩ := r3
    have r4 : v = .bl true := r4
    subst r4
    obtain ⟨a, b, c⟩ := fin (ev1.trans ev2) g2 E2 ev3 g3
    refine ⟨true, rfl, ?_⟩
    rw [if_pos rfl]
    refine hc σ₀ σ w3 e2 f2 _ z e3 c (by simpa using b) k4 fun vz w4 f4 ev4 g4 E4 rz => ?_
    have ry2 : RepP K w3 y vy := ry.keeps (Keeps.of (Good.nil w2) ev3 fun _ m => (nomatch m)) y vy
    have b2 : Good w3 f2 := by simpa using b
    refine h2 w4 y z vy vz Q d (ry2.ev b2 ev4).toB rz k5 fun v w5 fv ev5 g5 r5 => ?_
    have a2 : Ev f w w3 f2 := by simpa using a
    obtain ⟨a6, b6, c6⟩ := fin (a2.trans ev4) g4 E4 ev5 g5
    exact hq v w5 f4 fv a6 b6 c6 r5
  · rename_i hg
    cases k3
    refine h1 w2 x y vx vy _ _ (rx.ev g1 ev2).toB ry.toB hg fun v w3 fv ev3 g3 r3 => ?_
    obtain ⟨rfl, r4⟩ := r3
    have r4 : v = .bl false := r4
    subst r4
    obtain ⟨a, b, c⟩ := fin (ev1.trans ev2) g2 E2 ev3 g3
    refine ⟨false, rfl, ?_⟩
    rw [if_neg (by simp)]
    exact hq _ w3 f2 [] a b c ⟨rfl, rfl⟩
  · cases k3
section
variable {X : Cx} {a b c : Expr} {ta tb tc : TE} {ma mb : M P} {mc : M P} {pos : Pos}
theorem o_ltO (hu : Hu X) (hK : X.K = K := by rfl) : OpR X (compareOp .Lt) (rLtZ K) := op_K hK (op_ltZ (by have : X.A.units + 65 < cLine := hu; omega))
theorem q_chain {op op' : CmpOp} {r r' : R2} {g g' : P → P → Option D} (ho : OpR X (compareOp op) r) (s1 : SR2 K r g) (ho' : OpR X (compareOp op') r') (s2 : SR2 K r' g') (ha : QP K X a ta ma) (hb : QP K X b tb mb) (hc : QB K X c tc mc)
    (hm : lastMarks [op, op'] [b, c] = false := by with_unfolding_all rfl) : QE K X (.Compare a [op, op'] [b, c] pos) (tChain r r' ta tb tc) (mChain g g' ma mb mc) :=
  ⟨pe_chain ho ho' ha.p hb.p hc.p hm, je_chain s1 s2 ha.j hb.j hc.j⟩
end
end Z
namespace Z
open PySem.Spec PyProof.Rows L2 PySem
variable {K : PySem.W.Frag}
def insU (x : Int) : List Int → List Int
  | [] => [x]
  | y :: ys => if x < y then x :: y :: ys else if x = y then y :: ys else y :: insU x ys
def upL (ns : List Int) : List Int := ns.foldr insU []
theorem mem_insU (x k : Int) : ∀ l : List Int, k ∈ insU x l ↔ k = x ∨ k ∈ l
  | [] => by simp [insU]
  | y :: ys => by
    unfold insU
    split
    · simp
    · split
      · rename_i h1 h2
        subst h2
        simp
      · simp only [List.mem_cons, mem_insU x k ys]
        constructor
        · rintro (h | h | h) <;> simp [h]
        · rintro (h | h | h) <;> simp [h]
theorem up_insU (x : Int) : ∀ l : List Int, l.Pairwise (· < ·) → (insU x l).Pairwise (· < ·)
  | [], _ => by simp [insU]
  | y :: ys, h => by
    obtain ⟨h1, h2⟩ := (List.pairwise_cons.mp h)
    unfold insU
    split
    · rename_i lt
      refine List.pairwise_cons.mpr ⟨fun k hk => ?_, h⟩
      rcases List.mem_cons.mp hk with rfl | hk
      · exact lt
      · exact Int.lt_trans lt (h1 k hk)
    · split
      · exact h
      · rename_i n1 n2
        refine List.pairwise_cons.mpr ⟨fun k hk => ?_, up_insU x ys h2⟩
        rcases (mem_insU x k ys).mp hk with rfl | hk
        · omega
        · exact h1 k hk
theorem mem_upL (k : Int) : ∀ ns : List Int, k ∈ upL ns ↔ k ∈ ns
  | [] => by simp [upL]
  | n :: ns => by
    show k ∈ insU n (upL ns) ↔ _
    rw [mem_insU, mem_upL k ns, List.mem_cons]
theorem up_upL : ∀ ns : List Int, (upL ns).Pairwise (· < ·)
  | [] => List.Pairwise.nil
  | n :: ns => up_insU n (upL ns) (up_upL ns)
theorem nd_up {l : List Int} (h : l.Pairwise (· < ·)) : l.Nodup := h.imp fun h e => by omega
theorem up_uniq {l m : List Int} (h1 : l.Pairwise (· < ·)) (h2 : m.Pairwise (· < ·)) (e : ∀ k, k ∈ l ↔ k ∈ m) : l = m := by
  refine List.Perm.eq_of_pairwise (le := fun a b : Int => a < b) (fun a b _ _ h1 h2 => by omega) h1 h2 ?_
  exact (List.perm_ext_iff_of_nodup (nd_up h1) (nd_up h2)).mpr e
theorem upL_eq {ns m : List Int} (h2 : m.Pairwise (· < ·)) (e : ∀ k, k ∈ m ↔ k ∈ ns) : upL ns = m := up_uniq (up_upL ns) h2 fun k => (mem_upL k ns).trans (e k).symm
theorem setR_len {w : World} {h : Heap} {z : Addr} {ns : List Int} {c : Nat} (R : L2.SetR w h z (fun j => decide (j ∈ ns)) c) : c = (upL ns).length := by
  obtain ⟨o, es, ep, t, _, _, _, g, nd, hm, _, _, hn, _, _⟩ := R
  have p : (es.toList.map keyOf).Perm (upL ns) := (List.perm_ext_iff_of_nodup nd (nd_up (up_upL ns))).mpr fun k => by
    rw [mem_upL, ← hm k]
    simp
  rw [← hn, ← p.length_eq]
  simp
def rUp (K : PySem.W.Frag) : List V → Hp → VK → Prop := fun vs H Q => ∃ (a : Addr) (ns : List Int), vs = [V.ref a] ∧ SqA K H a (ns.map V.int) ∧ ns.length ≤ 4000 ∧ (upL ns).length < 64 ∧
  ∀ p, H p = none → Q (.ref p) (upd H p (.lst ((upL ns).map V.int)))
theorem set_any {X : Cx} {A : Around} {E : Value → Shared → Prop} {sh : Shared} {l : Addr} {its : List Value} {ns : List Int} {Q : Value → Shared → Prop} (hh : A.handled = none) (hl : sh.heap.IsList l its.toArray ∨ IsTup sh.heap l its.toArray)
    (hi : IntsAre its ns) (few : ns.length ≤ 4000) (q : ∀ hp tk c, L2.SetR X.w hp sh.heap.objs.size (fun j => decide (j ∈ ns)) c → (∀ b o, sh.heap.get? b = some o → hp.get? b = some o) → Q (.ref sh.heap.objs.size) { sh with heap := hp, toks := tk }) :
    wpAny (model X.prog X.w) A (call (.type "set") [.ref l]) Q E sh := by
  have room : ns.length + 1 < scanBound := by
    show ns.length + 1 < 4096
    omega
  rcases hl with hl | hl
  · refine ZS.set_of_list hh hl (by simpa using hi) room fun s2 fd => ?_
    obtain ⟨hp, tk, c, rfl, full, _, kept⟩ := fd
    exact q hp tk c full fun b o e => kept b o (Nat.ne_of_lt (Heap.lt_size e)) e
  · exact call_set_tupI ns hh hl (by simpa using hi) room fun hp tk c full _ kept => q hp tk c full kept
def gUp (p : P) : Option D := (itemsP p).bind fun ps => (intsP ps).bind fun ns => if ns.length ≤ 4000 ∧ (upL ns).length < 64 then some (.olst ((upL ns).map fun n => .val (.int n))) else none
theorem sc_up : SC1 K (rUp K) gUp := by
  intro w x vx Q d rx h q
  simp only [gUp, Option.bind_eq_some_iff] at h
  obtain ⟨ps, h1, ns, hn, h2⟩ := h
  obtain ⟨a, vs, rfl, s, r⟩ := itemsP_rep rx h1
  split at h2
  · rename_i hb
    cases h2
    have e := intsP_spec hn
    subst e
    rw [repPs_ints r] at s
    refine ⟨a, ns, rfl, s, hb.1, hb.2, fun p hp => ?_⟩
    have z : (upL ns).map (fun n => D.val (.int n)) = ((upL ns).map P.int).map .val := by rw [List.map_map]; rfl
    rw [z] at q
    exact q.lst hp (ints_repPs _)
  · cases h2
theorem gUp_of {p : P} {ps : List P} {ns : List Int} (h1 : itemsP p = some ps) (h2 : intsP ps = some ns) (h3 : ns.length ≤ 4000) (h4 : (upL ns).length < 64) : gUp p = some (.olst (((upL ns).map .int).map .val)) := by
  simp only [gUp, h1, h2, Option.bind_some, h3, h4, and_self, if_true]
  simp [Function.comp_def, List.map_map]
end Z
namespace Z
open PySem.Spec PyProof.Rows L2 PySem
variable {K : PySem.W.Frag}
section
variable {κ α β : Type} [DecidableEq κ]
def getL : List κ → List α → κ → Option α
  | j :: ks, x :: xs, k => if j = k then some x else getL ks xs k
  | _, _, _ => none
def putL : List κ → List α → κ → α → List κ × List α
  | j :: ks, x :: xs, k, y => if j = k then (j :: ks, y :: xs) else (j :: (putL ks xs k y).1, x :: (putL ks xs k y).2)
  | _, _, k, y => ([k], [y])
theorem getL_map (f : α → β) : ∀ (ks : List κ) (xs : List α) (k : κ), getL ks (xs.map f) k = (getL ks xs k).map f
  | [], _, _ => rfl
  | _ :: _, [], _ => rfl
  | j :: ks, x :: xs, k => by
    simp only [List.map_cons, getL]
    split
    · rfl
    · exact getL_map f ks xs k
theorem putL_mem : ∀ (ks : List κ) (xs : List α) (k : κ) (y : α), ks.length = xs.length → ∀ j, j ∈ (putL ks xs k y).1 ↔ j = k ∨ j ∈ ks
  | [], [], _, _, _, j => by simp [putL]
  | [], _ :: _, _, _, h, _ => by simp at h
  | _ :: _, [], _, _, h, _ => by simp at h
  | i :: ks, x :: xs, k, y, h, j => by
    have ih := putL_mem ks xs k y (by simpa using h) j
    simp only [putL]
    split
    · rename_i e
      subst e
      simp
    · simp only [List.mem_cons, ih]
      constructor
      · rintro (a | a | a) <;> simp [a]
      · rintro (a | a | a) <;> simp [a]
theorem putL_nd : ∀ (ks : List κ) (xs : List α) (k : κ) (y : α), ks.length = xs.length → ks.Nodup → (putL ks xs k y).1.Nodup
  | [], [], _, _, _, _ => by simp [putL]
  | [], _ :: _, _, _, h, _ => by simp at h
  | _ :: _, [], _, _, h, _ => by simp at h
  | i :: ks, x :: xs, k, y, h, nd => by
    have h' : ks.length = xs.length := by simpa using h
    obtain ⟨n1, n2⟩ := (List.nodup_cons.mp nd)
    simp only [putL]
    split
    · exact nd
    · rename_i ne
      refine List.nodup_cons.mpr ⟨fun m => ?_, putL_nd ks xs k y h' n2⟩
      rcases (putL_mem ks xs k y h' i).mp m with e | m
      · exact ne e
      · exact n1 m
theorem getL_putL : ∀ (ks : List κ) (xs : List α) (k : κ) (y : α), ks.length = xs.length → ∀ j, getL (putL ks xs k y).1 (putL ks xs k y).2 j = if j = k then some y else getL ks xs j
  | [], [], k, y, _, j => by
    simp only [putL, getL]
    by_cases e : k = j
    · subst e; simp
    · rw [if_neg e, if_neg fun z => e z.symm]
  | [], _ :: _, _, _, h, _ => by simp at h
  | _ :: _, [], _, _, h, _ => by simp at h
  | i :: ks, x :: xs, k, y, h, j => by
    have ih := getL_putL ks xs k y (by simpa using h) j
    simp only [putL]
    by_cases e : i = k
    · subst e
      simp only [if_pos, getL]
      by_cases e2 : i = j
      · subst e2; simp
      · rw [if_neg e2, if_neg fun z => e2 z.symm, if_neg e2]
    · rw [if_neg e]
      simp only [getL]
      by_cases e2 : i = j
      · subst e2
        rw [if_pos rfl, if_neg e, if_pos rfl]
      · rw [if_neg e2, if_neg e2, ih]
theorem getL_mem : ∀ (ks : List κ) (xs : List α) (k : κ), ks.length = xs.length → ((getL ks xs k).isSome = true ↔ k ∈ ks)
  | [], [], _, _ => by simp [getL]
  | [], _ :: _, _, h => by simp at h
  | _ :: _, [], _, h => by simp at h
  | j :: ks, x :: xs, k, h => by
    have ih := getL_mem ks xs k (by simpa using h)
    simp only [getL]
    split
    · rename_i e; subst e; simp
    · rename_i ne
      rw [ih]
      simp only [List.mem_cons]
      exact ⟨.inr, fun z => z.resolve_left fun e => ne e.symm⟩
theorem valV_getL : ∀ (kvs : List (κ × V)) (k : κ), valV kvs k = getL (kvs.map (·.1)) (kvs.map (·.2)) k
  | [], k => rfl
  | p :: r, k => by
    simp only [List.map_cons, getL]
    split
    · rename_i e; rw [valV_pos e]
    · rename_i e; rw [valV_neg e, valV_getL r k]
theorem putK_putL : ∀ (kvs : List (κ × V)) (k : κ) (v : V), (kvs.map (·.1)).Nodup →
    (putK kvs k v).map (·.1) = (putL (kvs.map (·.1)) (kvs.map (·.2)) k v).1 ∧ (putK kvs k v).map (·.2) = (putL (kvs.map (·.1)) (kvs.map (·.2)) k v).2
  | [], k, v, _ => by simp [putK, putL]
  | p :: r, k, v, nd => by
    rw [List.map_cons] at nd
    obtain ⟨n1, n2⟩ := (List.nodup_cons.mp nd)
    by_cases e : p.1 = k
    · have e1 : putK (p :: r) k v = (p.1, v) :: r := by
        unfold putK
        rw [if_pos (by simp [e])]
        rw [List.map_cons, if_pos e]
        congr 1
        refine (List.map_congr_left fun q hq => ?_).trans (List.map_id r)
        rw [if_neg]
        · rfl
        · intro z
          exact n1 (List.mem_map.mpr ⟨q, hq, z.trans e.symm⟩)
      rw [e1]
      simp only [List.map_cons, putL, if_pos e]
      exact ⟨trivial, trivial⟩
    · have e1 : putK (p :: r) k v = p :: putK r k v := by
        unfold putK
        simp only [List.any_cons, decide_eq_false e, Bool.false_or]
        split
        · rw [List.map_cons, if_neg e]
        · rfl
      obtain ⟨i1, i2⟩ := putK_putL r k v n2
      rw [e1]
      simp only [List.map_cons, putL, if_neg e, i1, i2]
      exact ⟨trivial, trivial⟩
theorem RepDs.getL {w : Wd} : ∀ {ds : List D} {vs : List V} {f : List Addr} {ks : List κ} {k : κ} {d : D}, RepDs K w ds vs f → Z.getL ks ds k = some d → ∃ v fd, Z.getL ks vs k = some v ∧ RepD K w d v fd
  | [], _, _, ks, k, d, _, h => by cases ks <;> cases h
  | _ :: _, _, _, [], k, d, _, h => by cases h
  | d0 :: ds, vs, f, j :: ks, k, d, r, h => by
    obtain ⟨v0, r0, f1, f2, rfl, rfl, h1, h2⟩ := r
    simp only [Z.getL] at h ⊢
    split at h
    · cases h
      rename_i e
      exact ⟨v0, f1, by rw [if_pos e], h1⟩
    · rename_i e
      rw [if_neg e]
      exact RepDs.getL h2 h
theorem RepDs.getN {w : Wd} : ∀ {ds : List D} {vs : List V} {f : List Addr} {ks : List κ} {k : κ}, RepDs K w ds vs f → Z.getL ks ds k = none → Z.getL ks vs k = none
  | [], _, _, ks, k, r, h => by
    obtain ⟨rfl, _⟩ := r
    cases ks <;> rfl
  | _ :: _, _, _, [], k, r, h => rfl
  | d0 :: ds, vs, f, j :: ks, k, r, h => by
    obtain ⟨v0, r0, f1, f2, rfl, rfl, h1, h2⟩ := r
    simp only [Z.getL] at h ⊢
    split at h
    · cases h
    · rename_i e
      rw [if_neg e]
      exact RepDs.getN h2 h
theorem RepDs.putL {w : Wd} : ∀ {ds : List D} {vs : List V} {f : List Addr} {ks : List κ} {k : κ} {d : D} {v : V} {fd : List Addr}, ks.length = ds.length → RepDs K w ds vs f → RepD K w d v fd →
    ∃ f' rest, (Z.putL ks ds k d).1 = (Z.putL ks vs k v).1 ∧ RepDs K w (Z.putL ks ds k d).2 (Z.putL ks vs k v).2 f' ∧ (f ++ fd).Perm (f' ++ rest)
  | [], vs, f, [], k, d, v, fd, _, h, r => by
    obtain ⟨rfl, rfl⟩ := h
    refine ⟨fd, [], rfl, ?_, by simp⟩
    simp only [Z.putL]
    exact ⟨v, [], fd, [], rfl, by simp, r, rfl, rfl⟩
  | [], _, _, _ :: _, _, _, _, _, hl, _, _ => by simp at hl
  | _ :: _, _, _, [], _, _, _, _, hl, _, _ => by simp at hl
  | d0 :: ds, vs, f, j :: ks, k, d, v, fd, hl, h, r => by
    obtain ⟨v0, r0, f1, f2, rfl, rfl, h1, h2⟩ := h
    simp only [Z.putL]
    by_cases e : j = k
    · rw [if_pos e, if_pos e]
      refine ⟨fd ++ f2, f1, rfl, ⟨v, r0, fd, f2, rfl, rfl, r, h2⟩, ?_⟩
      refine List.perm_append_comm.trans ?_
      rw [List.append_assoc]
      exact List.Perm.append_left fd List.perm_append_comm
    · rw [if_neg e, if_neg e]
      obtain ⟨f', rest, a0, a1, a2⟩ := RepDs.putL (k := k) (by simpa using hl) h2 r
      refine ⟨f1 ++ f', rest, congrArg (j :: ·) a0, ⟨v0, _, f1, f', rfl, rfl, h1, a1⟩, ?_⟩
      rw [List.append_assoc]; rw [List.append_assoc]
      exact List.Perm.append_left f1 a2
end

inductive Ky where
  | k (x : Key)
  | t (xs : List Key)
def KeyV (H : Hp) : Ky → V → Prop
  | .k x, v => v = kV x
  | .t xs, v => ∃ b, v = .ref b ∧ H b = some (.tup (xs.map kV))
theorem KeyV.keeps {w w' : Wd} {y : Ky} {v : V} (imm : ∀ a o, w.H a = some o → mutO o = false → w'.H a = some o) (h : KeyV w.H y v) : KeyV w'.H y v := by
  cases y with
  | k x => exact h
  | t xs =>
    obtain ⟨b, e, hb⟩ := h
    exact ⟨b, e, imm _ _ hb rfl⟩
def JK (K : PySem.W.Frag) (t : TE) (m : M Ky) : Prop :=
  ∀ (σ₀ σ : St) (w : Wd) (e : Env) (f : List Addr) (Q : VK) (y : Ky) (e' : Env), EnvR K w e σ₀ σ f → Good w f → m e = some (y, e') →
    (∀ v w' fe, Ev f w w' fe → Good w' fe → EnvR K w' e' σ₀ σ fe → KeyV w'.H y v → Q v w'.H) → t σ w.H Q
def keyP : P → Option Key
  | .int i => some (.inl i)
  | .str x => some (.inr x)
  | _ => none
theorem keyP_v {w : Wd} {p : P} {k : Key} {v : V} (h : keyP p = some k) (r : RepP K w p v) : v = kV k := by
  cases p with
  | int i => cases h; exact r
  | str x => cases h; exact r
  | _ => cases h
def keyD : D → Option Key
  | .val p => keyP p
  | _ => none
def keysD : List D → Option (List Key)
  | [] => some []
  | d :: ds => (keyD d).bind fun k => (keysD ds).map (k :: ·)
theorem keysD_v {w : Wd} : ∀ {ds : List D} {ks : List Key} {vs : List V} {f : List Addr}, keysD ds = some ks → RepDs K w ds vs f → vs = ks.map kV ∧ f = []
  | [], ks, vs, f, h, r => by
    simp only [keysD, Option.some.injEq] at h
    subst h
    exact r
  | d :: ds, ks, vs, f, h, r => by
    simp only [keysD, Option.bind_eq_some_iff, Option.map_eq_some_iff] at h
    obtain ⟨k, h1, ks', h2, rfl⟩ := h
    obtain ⟨v0, r0, f1, f2, rfl, rfl, h3, h4⟩ := r
    obtain ⟨e1, e2⟩ := keysD_v h2 h4
    cases d with
    | val p =>
      obtain ⟨rfl, h5⟩ := h3
      rw [keyP_v h1 h5, e1, e2]
      exact ⟨rfl, rfl⟩
    | _ => cases h1
def mKk (m : M P) : M Ky := fun e => (m e).bind fun x => (keyP x.1).map fun k => (.k k, x.2)
def mKt (m : M (List D)) : M Ky := fun e => (m e).bind fun x => if x.1.length ≤ sizeLine then (keysD x.1).map fun ks => (.t ks, x.2) else none
theorem jk_k {t : TE} {m : M P} (h : JP K t m) : JK K t (mKk m) := by
  intro σ₀ σ w e f Q y e' E G hm hq
  simp only [mKk, Option.bind_eq_some_iff, Option.map_eq_some_iff] at hm
  obtain ⟨⟨p, e1⟩, h1, k, h2, h3⟩ := hm
  cases h3
  exact h σ₀ σ w e f Q p _ E G h1 fun v w1 f1 ev g E1 r => hq v w1 f1 ev g E1 (keyP_v h2 r)
theorem jk_t {t : TA} {m : M (List D)} (h : JL K t m) : JK K (tTup t) (mKt m) := by
  intro σ₀ σ w e f Q y e' E G hm hq
  simp only [mKt, Option.bind_eq_some_iff] at hm
  obtain ⟨⟨ds, e1⟩, h1, h2⟩ := hm
  split at h2
  · rename_i hz
    simp only [Option.map_eq_some_iff] at h2
    obtain ⟨ks, h3, h4⟩ := h2
    cases h4
    refine h σ₀ σ w e f _ ds _ E G h1 fun vs w1 fe fv ev1 g1 E1 rs => ⟨by rw [← rs.length]; exact hz, fun p hn => ?_⟩
    obtain ⟨e2, rfl⟩ := keysD_v h3 rs
    subst e2
    simp only [List.append_nil] at ev1 g1
    have ev2 : Ev [] w1 (w1.put p (.tup (ks.map kV)) (.inr hn)) [] := (Ev.new hn).less fun _ m => (nomatch m)
    obtain ⟨a, b, c⟩ := fin ev1 g1 E1 ev2 (Good.nil _)
    simp only [List.append_nil] at a b
    exact hq (.ref p) _ fe a b c ⟨p, rfl, upd_same⟩
  · cases h2

def dAt : D → Ky → Option (Option D)
  | .odK ks ds, .k k => some (getL ks ds k)
  | .odT ks ds, .t k => some (getL ks ds k)
  | .val (.dK ks ps), .k k => some ((getL ks ps k).map .val)
  | .val (.dT ks ps), .t k => some ((getL ks ps k).map .val)
  | _, _ => none
def isDD : D → Bool
  | .odK _ _ | .odT _ _ | .val (.dK _ _) | .val (.dT _ _) => true
  | _ => false
theorem dAt_rep {w : Wd} {d : D} {v vy : V} {f : List Addr} {y : Ky} {o : Option D} (r : RepD K w d v f) (h : dAt d y = some o) (hk : KeyV w.H y vy) :
    ∃ a ov, v = .ref a ∧ DGet w.H a vy ov ∧ ov.isSome = o.isSome ∧ (o = none → ov = none) ∧ ∀ x, o = some x → ∃ u fu, ov = some u ∧ RepD K w x u fu := by
  have fromDs : ∀ {κ : Type} [DecidableEq κ] (ks : List κ) (k : κ) (ds : List D) (vs : List V) (g : List Addr), RepDs K w ds vs g → o = getL ks ds k →
      (getL ks vs k).isSome = o.isSome ∧ (o = none → getL ks vs k = none) ∧ ∀ x, o = some x → ∃ u fu, getL ks vs k = some u ∧ RepD K w x u fu := by
    intro κ _ ks k ds vs g rs eo
    subst eo
    refine ⟨?_, fun z => rs.getN z, fun x hx => rs.getL hx⟩
    cases hq : getL ks ds k with
    | none => rw [rs.getN hq] <;> rfl
    | some x =>
      obtain ⟨u, fu, e, _⟩ := rs.getL hq
      rw [e] <;> rfl
  cases d with
  | odK ks ds => cases y with
    | k k =>
      cases h
      simp only [RepD] at r
      obtain ⟨a, kvs, g, rfl, ha, rfl, hks, rs⟩ := r
      cases hk
      refine ⟨a, _, rfl, DGet.k ha, ?_⟩
      rw [valV_getL, hks.1]
      exact fromDs ks k ds _ g rs rfl
    | t k => cases h
  | odT ks ds => cases y with
    | t k =>
      cases h
      simp only [RepD] at r
      obtain ⟨a, kvs, g, rfl, ha, rfl, hks, rs⟩ := r
      obtain ⟨b, rfl, hb⟩ := hk
      refine ⟨a, _, rfl, DGet.t ha hb, ?_⟩
      rw [valV_getL, hks.1]
      exact fromDs ks k ds _ g rs rfl
    | k k => cases h
  | val p =>
    simp only [RepD] at r
    obtain ⟨rfl, r⟩ := r
    cases p with
    | dK ks ps => cases y with
      | k k =>
        cases h
        simp only [RepP, RepX] at r
        obtain ⟨a, kvs, rfl, _, ha, hks, rs⟩ := r
        cases hk
        refine ⟨a, _, rfl, .inl ⟨kvs, k, ha, rfl, rfl⟩, ?_⟩
        rw [valV_getL, hks.1]
        exact fromDs ks k (ps.map .val) _ [] (RepPs.vals (K := K) (w := w) rs) (getL_map _ _ _ _).symm
      | t k => cases h
    | dT ks ps => cases y with
      | t k =>
        cases h
        simp only [RepP, RepX] at r
        obtain ⟨a, kvs, rfl, _, ha, hks, rs⟩ := r
        obtain ⟨b, rfl, hb⟩ := hk
        refine ⟨a, _, rfl, .inr ⟨kvs, k, b, ha, rfl, hb, rfl⟩, ?_⟩
        rw [valV_getL, hks.1]
        exact fromDs ks k (ps.map .val) _ [] (RepPs.vals (K := K) (w := w) rs) (getL_map _ _ _ _).symm
      | k k => cases h
    | _ => cases y <;> cases h
  | _ => cases y <;> cases h
theorem isDD_rep {w : Wd} {d : D} {v : V} {f : List Addr} (r : RepD K w d v f) (h : isDD d = true) : ∃ a, v = .ref a ∧ IsD w.H a := by
  cases d with
  | odK ks ds =>
    simp only [RepD] at r
    obtain ⟨a, kvs, g, rfl, ha, rfl, hks, rs⟩ := r
    exact ⟨a, rfl, .inl ⟨kvs, .inl ha⟩⟩
  | odT ks ds =>
    simp only [RepD] at r
    obtain ⟨a, kvs, g, rfl, ha, rfl, hks, rs⟩ := r
    exact ⟨a, rfl, .inr ⟨kvs, .inl ha⟩⟩
  | val p =>
    simp only [RepD] at r
    obtain ⟨rfl, r⟩ := r
    cases p with
    | dK ks ps =>
      simp only [RepP, RepX] at r
      obtain ⟨a, kvs, rfl, _, ha, _⟩ := r
      exact ⟨a, rfl, .inl ⟨kvs, ha⟩⟩
    | dT ks ps =>
      simp only [RepP, RepX] at r
      obtain ⟨a, kvs, rfl, _, ha, _⟩ := r
      exact ⟨a, rfl, .inr ⟨kvs, ha⟩⟩
    | _ => cases h
  | _ => cases h
def datAt (i : Nat) (e : Env) : Option D := e[i]?.bind Sl.dat
def chkD (i : Nat) (e : Env) : Option Unit := (datAt i e).bind fun d => if isDD d = true then some () else none
theorem chkD_v {w : Wd} {e : Env} {σ₀ σ : St} {f : List Addr} {i : Nat} (E : EnvR K w e σ₀ σ f) (h : chkD i e = some ()) : ∃ a, σ[i]? = some (some (.ref a)) ∧ IsD w.H a := by
  simp only [chkD, Option.bind_eq_some_iff] at h
  obtain ⟨d, h1, h2⟩ := h
  split at h2
  · rename_i hd
    obtain ⟨v, fi, hv, r⟩ := slot_v E h1
    obtain ⟨a, rfl, hI⟩ := isDD_rep r hd
    exact ⟨a, hv, hI⟩
  · cases h2
def outV : Option D → Option D
  | some (.val p) => some (.val p)
  | _ => none
theorem outV_spec {o : Option D} {d : D} (h : outV o = some d) : ∃ p, o = some (.val p) ∧ d = .val p := by
  unfold outV at h
  split at h
  · rename_i p
    cases h
    exact ⟨p, rfl, rfl⟩
  · cases h
def mDSub (i : Nat) (mk : M Ky) : M D := fun e => (chk i e).bind fun _ => (mk e).bind fun y => (datAt i y.2).bind fun d => (dAt d y.1).bind fun o => (outV o).map fun r => (r, y.2)
theorem je_dsub (i : Nat) {ty : TE} {mk : M Ky} (hk : JK K ty mk) : JE K (tDGet (tVar i) ty) (mDSub i mk) := by
  intro σ₀ σ w e f Q d e' E G hm hq
  simp only [mDSub, Option.bind_eq_some_iff, Option.map_eq_some_iff] at hm
  obtain ⟨_, h0, ⟨y, e1⟩, h1, dd, hd, o, ho, r0, h4, h5⟩ := hm
  cases h5
  obtain ⟨p, rfl, rfl⟩ := outV_spec h4
  obtain ⟨v, hv⟩ := chk_v E h0
  refine ⟨v, hv, hk σ₀ σ w e f _ y e1 E G h1 fun vy w1 f1 ev1 g1 E1 ky => ?_⟩
  obtain ⟨v', fi, hv', rd⟩ := slot_v E1 hd
  rw [hv] at hv'; cases hv'
  obtain ⟨a, ov, rfl, dg, _, _, h6⟩ := dAt_rep rd ho ky
  obtain ⟨u, fu, rfl, ru⟩ := h6 _ rfl
  simp only [RepD] at ru
  exact ⟨a, u, rfl, dg, hq u w1 f1 [] (by simpa using ev1) (by simpa using g1) E1 ⟨rfl, ru.2⟩⟩
def mDIn (neg : Bool) (i : Nat) (mk : M Ky) : M D := fun e => (mk e).bind fun y => (datAt i y.2).bind fun d => (dAt d y.1).map fun o => (.val (.bl (if neg then !o.isSome else o.isSome)), y.2)
theorem je_din (i : Nat) {ty : TE} {mk : M Ky} (hk : JK K ty mk) : JE K (tDIn ty (tVar i)) (mDIn false i mk) := by
  intro σ₀ σ w e f Q d e' E G hm hq
  simp only [mDIn, Option.bind_eq_some_iff, Option.map_eq_some_iff] at hm
  obtain ⟨⟨y, e1⟩, h1, dd, hd, o, ho, h5⟩ := hm
  cases h5
  refine hk σ₀ σ w e f _ y e1 E G h1 fun vy w1 f1 ev1 g1 E1 ky => ?_
  obtain ⟨v, fi, hv, rd⟩ := slot_v E1 hd
  obtain ⟨a, ov, rfl, dg, h6, _⟩ := dAt_rep rd ho ky
  exact ⟨.ref a, hv, a, ov, rfl, dg, by rw [h6]; exact hq _ w1 f1 [] (by simpa using ev1) (by simpa using g1) E1 ⟨rfl, rfl⟩⟩
theorem je_dnotin (i : Nat) {ty : TE} {mk : M Ky} (hk : JK K ty mk) : JE K (tDNotIn ty (tVar i)) (mDIn true i mk) := by
  intro σ₀ σ w e f Q d e' E G hm hq
  simp only [mDIn, Option.bind_eq_some_iff, Option.map_eq_some_iff] at hm
  obtain ⟨⟨y, e1⟩, h1, dd, hd, o, ho, h5⟩ := hm
  cases h5
  refine hk σ₀ σ w e f _ y e1 E G h1 fun vy w1 f1 ev1 g1 E1 ky => ?_
  obtain ⟨v, fi, hv, rd⟩ := slot_v E1 hd
  obtain ⟨a, ov, rfl, dg, h6, _⟩ := dAt_rep rd ho ky
  exact ⟨.ref a, hv, a, ov, rfl, dg, by rw [h6]; exact hq _ w1 f1 [] (by simpa using ev1) (by simpa using g1) E1 ⟨rfl, rfl⟩⟩
def orV (z : P) : Option D → Option D
  | none => some (.val z)
  | some (.val p) => some (.val p)
  | _ => none
def mDGet2 (i : Nat) (mk : M Ky) (mx : M P) : M D := fun e => (chkD i e).bind fun _ => (mk e).bind fun y => (mx y.2).bind fun z => (datAt i z.2).bind fun d => (dAt d y.1).bind fun o => (orV z.1 o).map fun r => (r, z.2)
theorem je_dget2 (i : Nat) {ty tx : TE} {mk : M Ky} {mx : M P} (hk : JK K ty mk) (hx : JP K tx mx) : JE K (tDGet2 (tVar i) ty tx) (mDGet2 i mk mx) := by
  intro σ₀ σ w e f Q d e' E G hm hq
  simp only [mDGet2, Option.bind_eq_some_iff, Option.map_eq_some_iff] at hm
  obtain ⟨_, h0, ⟨y, e1⟩, h1, ⟨z, e2⟩, h2, dd, hd, o, ho, r0, h4, h5⟩ := hm
  cases h5
  obtain ⟨a, hv, hI⟩ := chkD_v E h0
  refine ⟨.ref a, hv, a, rfl, hI, hk σ₀ σ w e f _ y e1 E G h1 fun vy w1 f1 ev1 g1 E1 ky => ?_⟩
  refine hx σ₀ σ w1 e1 f1 _ z e2 E1 g1 h2 fun vz w2 f2 ev2 g2 E2 rz => ?_
  obtain ⟨v', fi, hv', rd⟩ := slot_v E2 hd
  rw [hv] at hv'; cases hv'
  have kp : Keeps w1 w2 [] := Keeps.of g1 ev2 fun _ m => (nomatch m)
  obtain ⟨a', ov, ea, dg, _, h6, h7⟩ := dAt_rep rd ho (ky.keeps kp.imm)
  cases ea
  refine ⟨ov, dg, ?_⟩
  cases o with
  | none =>
    cases h4
    rw [h6 rfl]
    exact hq vz w2 f2 [] (by simpa using ev1.trans ev2) (by simpa using g2) E2 ⟨rfl, rz⟩
  | some x =>
    cases x with
    | val p =>
      cases h4
      obtain ⟨u, fu, rfl, ru⟩ := h7 _ rfl
      simp only [RepD] at ru
      exact hq u w2 f2 [] (by simpa using ev1.trans ev2) (by simpa using g2) E2 ⟨rfl, ru.2⟩
    | _ => cases h4

def mDNewK : M D := fun e => some (.odK [] [], e)
def mDNewT : M D := fun e => some (.odT [] [], e)
theorem je_dnewK : JE K tDNewK mDNewK := by
  intro σ₀ σ w e f Q d e' E G hm hq
  cases hm
  intro p hn
  obtain ⟨a, b, c⟩ := fin (Ev.refl f w) G E (Ev.new (o := .dK []) hn) (Good.new hn rfl)
  exact hq _ _ f [p] a b c (by
    simp only [RepD]
    exact ⟨p, [], [], rfl, upd_same, rfl, ⟨rfl, List.nodup_nil⟩, rfl, rfl⟩)
theorem je_dnewT : JE K tDNewT mDNewT := by
  intro σ₀ σ w e f Q d e' E G hm hq
  cases hm
  intro p hn
  obtain ⟨a, b, c⟩ := fin (Ev.refl f w) G E (Ev.new (o := .dT []) hn) (Good.new hn rfl)
  exact hq _ _ f [p] a b c (by
    simp only [RepD]
    exact ⟨p, [], [], rfl, upd_same, rfl, ⟨rfl, List.nodup_nil⟩, rfl, rfl⟩)
theorem slot_chg {w : Wd} {e : Env} {σ₀ σ : St} {fe fa : List Addr} {i : Nat} {s : Sl} {dd : D} (E : EnvR K w e σ₀ σ fe) (G : Good w (fe ++ fa)) (hs : e[i]? = some s) (hd : s.dat = some dd) :
    ∃ v fi, σ[i]? = some (some v) ∧ RepD K w dd v fi ∧
      ∀ a g o (hm : mutO o = true) (d' : D) (gs rest : List Addr), v = .ref a → fi = a :: g → (g ++ fa).Perm (gs ++ rest) →
        ((∀ l, a ∉ l → Keeps w (w.put a o (.inl hm)) l) → a ∉ gs → RepD K (w.put a o (.inl hm)) d' (.ref a) (a :: gs)) →
        ∃ f', EnvR K (w.put a o (.inl hm)) (e.set i (s.with d')) σ₀ σ f' ∧ Ev (fe ++ fa) w (w.put a o (.inl hm)) f' ∧ Good (w.put a o (.inl hm)) f' := by
  obtain ⟨o₀, o1, f1, fi, f2, b1, b2, b3, b4, b5⟩ := E.at hs
  obtain ⟨v', q', rd, rr⟩ := Sl.datR b4 hd
  subst q'
  refine ⟨v', fi, b2, rd, fun a g o hm d' gs rest ev efi pm rds' => ?_⟩
  subst ev efi b3
  obtain ⟨nF, ob, hob, mob⟩ := G.own a (by simp)
  have p1 : ((f1 ++ ((a :: g) ++ f2)) ++ fa).Perm ((a :: (f1 ++ f2)) ++ (g ++ fa)) := by
    have z1 : (f1 ++ ((a :: g) ++ f2)).Perm ((a :: g) ++ (f1 ++ f2)) := by
      rw [← List.append_assoc]; rw [← List.append_assoc]
      exact List.Perm.append_right f2 List.perm_append_comm
    refine (List.Perm.append_right fa z1).trans ?_
    show (a :: ((g ++ (f1 ++ f2)) ++ fa)).Perm (a :: ((f1 ++ f2) ++ (g ++ fa)))
    refine List.Perm.cons a ?_
    exact List.Perm.trans (List.Perm.append_right fa (List.perm_append_comm (l₁ := g) (l₂ := f1 ++ f2))) (List.Perm.of_eq (List.append_assoc _ _ _))
  have p3 : ((a :: (f1 ++ f2)) ++ gs).Perm (f1 ++ ((a :: gs) ++ f2)) := by
    show (a :: ((f1 ++ f2) ++ gs)).Perm (f1 ++ (a :: (gs ++ f2)))
    refine List.Perm.trans (List.Perm.cons a ?_) List.perm_middle.symm
    rw [List.append_assoc]
    exact List.Perm.append_left f1 List.perm_append_comm
  have p2 : ((a :: (f1 ++ f2)) ++ (g ++ fa)).Perm ((f1 ++ ((a :: gs) ++ f2)) ++ rest) := by
    refine (List.Perm.append_left _ pm).trans ?_
    rw [← List.append_assoc]
    exact List.Perm.append_right rest p3
  have G3 : Good w (f1 ++ ((a :: gs) ++ f2)) := (G.perm (p1.trans p2)).left
  have na : a ∉ f1 ++ f2 ∧ a ∉ gs := by
    have z : a ∉ (f1 ++ f2) ++ gs := (List.nodup_cons.mp (p3.symm.nodup_iff.mp G3.nd)).1
    simp only [List.mem_append, not_or] at z ⊢
    exact ⟨z.1, z.2⟩
  have kput : ∀ l, a ∉ l → Keeps w (w.put a o (.inl hm)) l := fun l h => Keeps.put hm hob nF mob h
  have E2 := b5 (w.put a o (.inl hm)) (s.with d') (some (.ref a)) (a :: gs) (kput _ na.1) (rr _ _ _ (rds' kput na.2))
  rw [set_same b2] at E2
  exact ⟨_, E2, (Ev.put hm hob (by simp)).less fun b m => ((p1.trans p2).mem_iff).mpr (List.mem_append_left _ m), G3.put hm⟩
def putD (d : D) (y : Ky) (x : D) : Option D := match d, y with
  | .odK ks ds, .k k => if ks.length = ds.length ∧ ks.length < sizeLine then some (.odK (putL ks ds k x).1 (putL ks ds k x).2) else none
  | .odT ks ds, .t k => if ks.length = ds.length ∧ ks.length < sizeLine then some (.odT (putL ks ds k x).1 (putL ks ds k x).2) else none
  | _, _ => none
def sDPut (i : Nat) (me : M D) (mk : M Ky) : MS := fun e => (me e).bind fun x => (chk i x.2).bind fun _ => (mk x.2).bind fun y => match y.2[i]? with
  | some s => (s.dat.bind fun d => putD d y.1 x.1).map fun d => (.nx, y.2.set i (s.with d))
  | none => none
theorem js_dput (i : Nat) {te ty : TE} {me : M D} {mk : M Ky} (h1 : JE K te me) (h2 : JK K ty mk) : JS K (L2.sDPut (tVar i) ty te) (sDPut i me mk) := by
  intro σ₀ σ w e f D0 o e' E G hm hp
  simp only [sDPut, Option.bind_eq_some_iff] at hm
  obtain ⟨⟨x, e1⟩, h3, _, h0, ⟨y, e2⟩, h4, h5⟩ := hm
  refine h1 σ₀ σ w e f _ x e1 E G h3 fun v w1 fe fv ev1 g1 E1 r => ?_
  obtain ⟨v0, hv0⟩ := chk_v E1 h0
  refine ⟨v0, hv0, h2 σ₀ σ w1 e1 fe _ y e2 E1 g1.left h4 fun vk w2 f2 ev2 g2 E2 rk => ?_⟩
  have ne : ∀ a ∈ fv, a ∉ fe := fun a m q => (List.nodup_append.mp g1.nd).2.2 a q a m rfl
  have g3 := Good.frame g1 ev2 g2
  have r2 := r.keeps x v fv (Keeps.of g1.left ev2 ne)
  split at h5
  · rename_i s hs
    simp only [Option.map_eq_some_iff, Option.bind_eq_some_iff] at h5
    obtain ⟨d2, ⟨dd, hd, hput⟩, h6⟩ := h5
    cases h6
    obtain ⟨v1, fi, q1, rd, q2⟩ := slot_chg E2 g3 hs hd
    rw [hv0] at q1; cases q1
    have all : ∀ w3 f3, Ev (f2 ++ fv) w2 w3 f3 → Good w3 f3 → EnvR K w3 (e2.set i (s.with d2)) σ₀ σ f3 → D0.nx σ w3.H := fun w3 f3 ev3 g4 E3 => hp σ w3 f3 ((ev1.trans (ev2.frame fv)).trans ev3) g4 E3
    cases dd with
    | odK ks ds => cases y with
      | k k =>
        simp only [putD] at hput
        split at hput
        · rename_i hz
          cases hput
          simp only [RepD] at rd
          obtain ⟨a, kvs, g, rfl, ha, rfl, hks, rs⟩ := rd
          obtain ⟨f', rest, a0, a1, a2⟩ := RepDs.putL (k := k) hz.1 rs r2
          obtain ⟨b1, b2⟩ := putK_putL kvs k v (by rw [hks.1]; exact hks.2)
          rw [hks.1] at b1 b2
          have kl : ks.length = (kvs.map (·.2)).length := by rw [← hks.1]; simp
          have kl2 : kvs.length = ks.length := by rw [← hks.1]; simp
          obtain ⟨f3, E3, ev3, g4⟩ := q2 a g (.dK (putK kvs k v)) rfl (.odK (putL ks ds k x).1 (putL ks ds k x).2) f' rest rfl rfl a2 fun kp na => by
            simp only [RepD]
            refine ⟨a, putK kvs k v, f', rfl, upd_same, rfl, ⟨by rw [b1, a0], putL_nd ks ds k x hz.1 hks.2⟩, ?_⟩
            rw [b2]
            exact a1.keeps _ _ f' (kp f' na)
          cases rk
          exact ⟨a, _, rfl, DPut.k ha (by rw [kl2]; exact hz.2), all _ f3 ev3 g4 E3⟩
        · cases hput
      | t k => cases hput
    | odT ks ds => cases y with
      | t k =>
        simp only [putD] at hput
        split at hput
        · rename_i hz
          cases hput
          simp only [RepD] at rd
          obtain ⟨a, kvs, g, rfl, ha, rfl, hks, rs⟩ := rd
          obtain ⟨f', rest, a0, a1, a2⟩ := RepDs.putL (k := k) hz.1 rs r2
          obtain ⟨b1, b2⟩ := putK_putL kvs k v (by rw [hks.1]; exact hks.2)
          rw [hks.1] at b1 b2
          have kl2 : kvs.length = ks.length := by rw [← hks.1]; simp
          obtain ⟨f3, E3, ev3, g4⟩ := q2 a g (.dT (putK kvs k v)) rfl (.odT (putL ks ds k x).1 (putL ks ds k x).2) f' rest rfl rfl a2 fun kp na => by
            simp only [RepD]
            refine ⟨a, putK kvs k v, f', rfl, upd_same, rfl, ⟨by rw [b1, a0], putL_nd ks ds k x hz.1 hks.2⟩, ?_⟩
            rw [b2]
            exact a1.keeps _ _ f' (kp f' na)
          obtain ⟨b, rfl, hb⟩ := rk
          exact ⟨a, _, rfl, DPut.t ha hb (by rw [kl2]; exact hz.2), all _ f3 ev3 g4 E3⟩
        · cases hput
      | k k => cases hput
    | _ => cases y <;> cases hput
  · cases h5
end Z
namespace ZS
open PySem PySem.Spec PyProof.Rows L2 PySem.Calls
section
variable {X : Cx} {te : TE} {e : Expr} {pos p apos cpos : Pos}
end
end ZS
namespace Z
open PySem.Spec PyProof.Rows L2 PySem
variable {K : PySem.W.Frag}

def keysI : List Key → Option (List Int)
  | [] => some []
  | .inl k :: ks => (keysI ks).map (k :: ·)
  | _ => none
theorem keysI_spec : ∀ {ks : List Key} {ns : List Int}, keysI ks = some ns → ks = ns.map Sum.inl
  | [], ns, h => by
    cases h; rfl
  | .inl k :: ks, ns, h => by
    simp only [keysI, Option.map_eq_some_iff] at h
    obtain ⟨ms, h1, rfl⟩ := h
    rw [keysI_spec h1] <;> rfl
  | .inr _ :: _, ns, h => by cases h
theorem keysI_map : ∀ ns : List Int, keysI (ns.map Sum.inl) = some ns
  | [] => rfl
  | n :: ns => by
    show (keysI (ns.map Sum.inl)).map (n :: ·) = _
    rw [keysI_map ns] <;> rfl
theorem nd_inl {ns : List Int} (h : (ns.map (Sum.inl : Int → Key)).Nodup) : ns.Nodup := List.Pairwise.of_map Sum.inl (fun _ _ hne e => hne (congrArg Sum.inl e)) h
theorem up_of {ns ms : List Int} (hn : ns.Nodup) (p : ms.Perm ns) (h : ms.Pairwise (· ≤ ·)) : ms = upL ns := by
  refine up_uniq ?_ (up_upL ns) fun k => (p.mem_iff).trans (mem_upL k ns).symm
  have nd : ms.Nodup := p.nodup_iff.mpr hn
  exact (List.Pairwise.and h nd).imp fun ⟨a, b⟩ => by
    have b : _ ≠ _ := b
    omega
def rSortDI : List V → Hp → VK → Prop := fun xs H Q => ∃ (a : Addr) (kvs : List (Key × V)) (ks : List Int), xs = [.ref a] ∧ Rd H a (.dK kvs) ∧ kvs.map (·.1) = ks.map Sum.inl ∧ ks.length < 64 ∧ ∀ (ys : List Int) (p : Addr), ys.Perm ks → ys.Pairwise (· ≤ ·) → H p = none → Q (.ref p) (upd H p (.lst (ys.map V.int)))
def gSortedD : P → Option D
  | .dK ks _ => (keysI ks).bind fun ns => if ns.length < 64 then some (.olst ((upL ns).map fun n => .val (.int n))) else none
  | _ => none
theorem sc_sortedD : SC1 K rSortDI gSortedD := by
  intro w x vx Q d rx h q
  cases x with
  | dK ks ps =>
    simp only [gSortedD, Option.bind_eq_some_iff] at h
    obtain ⟨ns, h1, h2⟩ := h
    split at h2
    · rename_i hz
      cases h2
      obtain ⟨a, kvs, rfl, s, hks, r⟩ := rx
      have e := keysI_spec h1
      subst e
      refine ⟨a, kvs, ns, rfl, s, hks.1, hz, fun ys p pm sr hp => ?_⟩
      rw [up_of (nd_inl hks.2) pm sr]
      have z : (upL ns).map (fun n => D.val (.int n)) = ((upL ns).map P.int).map .val := by rw [List.map_map]; rfl
      rw [z] at q
      exact q.lst hp (ints_repPs _)
    · cases h2
  | _ => cases h
theorem q_sortedD {X : Cx} {a : Expr} {ta : TE} {ma : M P} {p pos : Pos} (hm : X.mg "sorted" = none) (ha : QB K X a ta ma) (hg : Gl X "sorted" := by rfl)
    (he : starEach [a] X.env = (false, eval a X.env) :: starEach [] X.env := by rfl) (hc : X.calm = true := by rfl) : QE K X (.Call (.Name "sorted" p) [a] [] pos) (tCB rSortDI (tCons ta tNil)) (mUn gSortedD ma) :=
  ⟨pe_callB (call_sortedDI hc) hg hm (by decide +kernel) (pa_cons ha.p pa_nil he) (by decide) (by decide) he rfl, je_c1 sc_sortedD ha.j⟩
structure QK (K : PySem.W.Frag) (X : Cx) (e : Expr) (t : TE) (m : M Ky) : Prop where
  p : PE X e t
  j : JK K t m
section
variable {X : Cx} {a b c : Expr} {ta tb tc : TE} {ma mb : M P} {mk : M Ky} {pos : Pos}
theorem qk_k (h : QP K X a ta ma) : QK K X a ta (mKk ma) := ⟨h.p, jk_k h.j⟩
theorem qk_t {es : List Expr} {t : TA} {m : M (List D)} {x1} (h : QL K X es t m) : QK K X (.Tuple es x1 pos) (tTup t) (mKt m) := ⟨pe_tup h.p, jk_t h.j⟩
theorem q_dnewK : QE K X (.Dict [] [] pos) tDNewK mDNewK := ⟨pe_dnewK, je_dnewK⟩
theorem q_dnewT : QE K X (.Dict [] [] pos) tDNewT mDNewT := ⟨pe_dnewT, je_dnewT⟩
theorem q_dsub (i : Nat) {x : Str} {p : Pos} (hu : Hu X) (hb : QK K X b tb mk) (hN : X.N[i]? = some x := by rfl) (hv : Vis X.env.scope x := by first | exact Or.inl rfl | exact Or.inr (Or.inl rfl) | exact Or.inr (Or.inr rfl)) (hd : (x == ("__debug__" : Str)) = false := by decide)
    (hcd : (x == ("__classdict__" : Str)) = false := by decide) (hs : NoSl b := by exact fun _ _ => rfl) : QE K X (.Subscript (.Name x p) b pos) (tDGet (tVar i) tb) (mDSub i mk) :=
  ⟨pe_dget (by have : X.A.units + 65 < cLine := hu; omega) (pe_var hN hv hd hcd) hb.p hs, je_dsub i hb.j⟩
theorem q_dget2 (i : Nat) {x : Str} {p apos : Pos} {mx : M P} (hu : Hu X) (hb : QK K X b tb mk) (hc : QP K X c tc mx) (hN : X.N[i]? = some x := by rfl) (hv : Vis X.env.scope x := by first | exact Or.inl rfl | exact Or.inr (Or.inl rfl) | exact Or.inr (Or.inr rfl)) (hd : (x == ("__debug__" : Str)) = false := by decide)
    (hcd : (x == ("__classdict__" : Str)) = false := by decide) (m : M2 X (.Name x p) "get" apos b c pos := by exact ⟨rfl, rfl, rfl, rfl⟩) : QE K X (.Call (.Attribute (.Name x p) "get" apos) [b, c] [] pos) (tDGet2 (tVar i) tb tc) (mDGet2 i mk mx) :=
  ⟨pe_dget2 (by have : X.A.units + 65 < cLine := hu; omega) (pe_var hN hv hd hcd) hb.p hc.p m, je_dget2 i hb.j hc.j⟩
theorem qs_dput (i : Nat) {x : Str} {p p2 : Pos} {v : Expr} {tv : TE} {dv : M D} (hu : Hu X) (h : QE K X v tv dv) (hb : QK K X b tb mk) (hN : X.N[i]? = some x := by rfl) (hv : Vis X.env.scope x := by first | exact Or.inl rfl | exact Or.inr (Or.inl rfl) | exact Or.inr (Or.inr rfl))
    (hd : (x == ("__debug__" : Str)) = false := by decide) (hcd : (x == ("__classdict__" : Str)) = false := by decide) (hs : swapsWith v (some (.Subscript (.Name x p) b p2)) pos.line X.env = pure false := by rfl) :
    QS K X (.Assign [.Subscript (.Name x p) b p2] v pos) (L2.sDPut (tVar i) tb tv) (Z.sDPut i dv mk) :=
  ⟨ps_dput (by have : X.A.units + 65 < cLine := hu; omega) (pe_var hN hv hd hcd) hb.p h.p hs, js_dput i h.j hb.j⟩
end

section
variable {e e' : Z.Env} {i : Nat} {d : D}
theorem w_kk {m : M P} {Q : Ky → Z.Env → Prop} (h : W (m e) (fun x e1 => ∃ k, keyP x = some k ∧ Q (.k k) e1)) : W (mKk m e) Q := by
  obtain ⟨x, e1, h1, k, h2, q⟩ := h
  exact ⟨_, _, by simp [mKk, h1, h2], q⟩
theorem w_kt {m : M (List D)} {Q : Ky → Z.Env → Prop} (h : W (m e) (fun x e1 => ∃ k, (x.length ≤ 1000 ∧ keysD x = some k) ∧ Q (.t k) e1)) : W (mKt m e) Q := by
  obtain ⟨x, e1, h1, k, ⟨h2, h3⟩, q⟩ := h
  exact ⟨_, _, by simp [mKt, h1, le_size h2 (by omega), h3], q⟩
theorem w_dnewK {Q : D → Z.Env → Prop} (q : Q (.odK [] []) e) : W (mDNewK e) Q := ⟨_, _, rfl, q⟩
theorem w_dnewT {Q : D → Z.Env → Prop} (q : Q (.odT [] []) e) : W (mDNewT e) Q := ⟨_, _, rfl, q⟩
theorem DatR.da (h : DatR e i d) : datAt i e = some d := h.eq
theorem w_dsub {mk : M Ky} {Q : D → Z.Env → Prop} (hc : DatR e i d) (h : W (mk e) (fun y e1 => ∃ d2 p, DatR e1 i d2 ∧ dAt d2 y = some (some (.val p)) ∧ Q (.val p) e1)) : W (mDSub i mk e) Q := by
  obtain ⟨y, e1, h1, d2, p, h2, h3, q⟩ := h
  exact ⟨.val p, e1, by simp [mDSub, hc.chk, h1, h2.da, h3, outV], q⟩
theorem w_din {neg : Bool} {mk : M Ky} {Q : D → Z.Env → Prop} (h : W (mk e) (fun y e1 => ∃ d2 o, DatR e1 i d2 ∧ dAt d2 y = some o ∧ Q (.val (.bl (if neg then !o.isSome else o.isSome))) e1)) : W (mDIn neg i mk e) Q := by
  obtain ⟨y, e1, h1, d2, o, h2, h3, q⟩ := h
  exact ⟨_, e1, by simp [mDIn, h1, h2.da, h3], q⟩
theorem w_dget2 {mk : M Ky} {mx : M P} {Q : D → Z.Env → Prop} (hc : DatR e i d) (hd : isDD d = true) (h : W (mk e) (fun y e1 => W (mx e1) (fun z e2 => ∃ d2 o p, DatR e2 i d2 ∧ dAt d2 y = some o ∧ orV z o = some (.val p) ∧ Q (.val p) e2))) : W (mDGet2 i mk mx e) Q := by
  obtain ⟨y, e1, h1, z, e2, h2, d2, o, p, h3, h4, h5, q⟩ := h
  exact ⟨.val p, e2, by simp [mDGet2, chkD, hc.da, hd, h1, h2, h3.da, h4, h5], q⟩
theorem w_dput {me : M D} {mk : M Ky} {Q : Out → Z.Env → Prop} (h : W (me e) (fun x e1 => W (mk e1) (fun y e2 => ∃ s d d2 e3, AtR e2 i s ∧ s.dat = some d ∧ (chk i e1 = some ()) ∧ putD d y x = some d2 ∧ SetR e2 i (s.with d2) e3 ∧ Q .nx e3))) : W (Z.sDPut i me mk e) Q := by
  obtain ⟨x, e1, h1, y, e2, h2, s, d, d2, e3, h3, h4, h5, h6, h7, q⟩ := h
  exact ⟨.nx, e3, by simp [Z.sDPut, h1, h5, h2, h3.eq, h4, h6, h7.eq], q⟩
end
theorem putD_k {ks : List Key} {ds : List D} {k : Key} {x : D} (h1 : ks.length = ds.length) (h2 : ks.length < 10000000) : putD (.odK ks ds) (.k k) x = some (.odK (putL ks ds k x).1 (putL ks ds k x).2) := by
  have : ks.length < sizeLine := by rw [sizeLine_eq]; omega
  simp [putD, ← h1, this]
theorem putD_t {ks : List (List Key)} {ds : List D} {k : List Key} {x : D} (h1 : ks.length = ds.length) (h2 : ks.length < 10000000) : putD (.odT ks ds) (.t k) x = some (.odT (putL ks ds k x).1 (putL ks ds k x).2) := by
  have : ks.length < sizeLine := by rw [sizeLine_eq]; omega
  simp [putD, ← h1, this]
theorem o_upl {ns : List Int} (h : ns.length ≤ 4000 ∧ (upL ns).length < 64) : gUp (.lst (ns.map .int)) = some (.olst (((upL ns).map .int).map .val)) := gUp_of rfl (intsP_ints ns) h.1 h.2
end Z
namespace Z
open PySem.Spec PyProof.Rows L2 PySem
variable {K : PySem.W.Frag} {X : Cx} {b : Expr} {tb : TE} {mk : M Ky} {pos : Pos}
theorem qt_din (i : Nat) {x : Str} {p : Pos} (hu : Hu X) (hb : QK K X b tb mk) (hN : X.N[i]? = some x := by rfl) (hv : Vis X.env.scope x := by first | exact Or.inl rfl | exact Or.inr (Or.inl rfl) | exact Or.inr (Or.inr rfl)) (hd : (x == ("__debug__" : Str)) = false := by decide)
    (hcd : (x == ("__classdict__" : Str)) = false := by decide) : QT K X (.Compare b [.In] [.Name x p] pos) (tB (tDIn tb (tVar i))) (mTb (mDIn false i mk)) :=
  ⟨pt_cmp (pc_din (by have : X.A.units + 65 < cLine := hu; omega) hb.p (pe_var hN hv hd hcd)), jt_val (je_din i hb.j)⟩
theorem qt_dnotin (i : Nat) {x : Str} {p : Pos} (hu : Hu X) (hb : QK K X b tb mk) (hN : X.N[i]? = some x := by rfl) (hv : Vis X.env.scope x := by first | exact Or.inl rfl | exact Or.inr (Or.inl rfl) | exact Or.inr (Or.inr rfl)) (hd : (x == ("__debug__" : Str)) = false := by decide)
    (hcd : (x == ("__classdict__" : Str)) = false := by decide) : QT K X (.Compare b [.NotIn] [.Name x p] pos) (tB (tDNotIn tb (tVar i))) (mTb (mDIn true i mk)) :=
  ⟨pt_cmp (pc_dnotin (by have : X.A.units + 65 < cLine := hu; omega) hb.p (pe_var hN hv hd hcd)), jt_val (je_dnotin i hb.j)⟩
end Z
namespace Z
open PySem.Spec PyProof.Rows L2 PySem
theorem kp_i (i : Int) : keyP (.int i) = some (.inl i) := rfl
theorem ex_dg2 {e : Z.Env} {i : Nat} {y : Ky} {z : P} {d2 : D} {o : Option D} {p : P} {Q : P → Prop} (h1 : DatR e i d2) (h2 : dAt d2 y = some o) (h3 : orV z o = some (.val p)) (q : Q p) : ∃ d2 o p, DatR e i d2 ∧ dAt d2 y = some o ∧ orV z o = some (.val p) ∧ Q p := ⟨_, _, _, h1, h2, h3, q⟩
theorem ex_dsub {e : Z.Env} {i : Nat} {y : Ky} {d2 : D} {p : P} {Q : P → Prop} (h1 : DatR e i d2) (h2 : dAt d2 y = some (some (.val p))) (q : Q p) : ∃ d2 p, DatR e i d2 ∧ dAt d2 y = some (some (.val p)) ∧ Q p := ⟨_, _, h1, h2, q⟩
theorem ex_din {e : Z.Env} {i : Nat} {y : Ky} {d2 : D} {o : Option D} {Q : Option D → Prop} (h1 : DatR e i d2) (h2 : dAt d2 y = some o) (q : Q o) : ∃ d2 o, DatR e i d2 ∧ dAt d2 y = some o ∧ Q o := ⟨_, _, h1, h2, q⟩
theorem ex_dpL {e e1 : Z.Env} {i : Nat} {y : Ky} {x d0 d d2 : D} {e3 : Z.Env} {Q : Z.Env → Prop} (h1 : AtR e i (.loc d)) (h0 : DatR e1 i d0) (h2 : putD d y x = some d2) (h3 : SetR e i (.loc d2) e3) (q : Q e3) :
    ∃ s d d2 e3, AtR e i s ∧ s.dat = some d ∧ (chk i e1 = some ()) ∧ putD d y x = some d2 ∧ SetR e i (s.with d2) e3 ∧ Q e3 := ⟨_, d, d2, e3, h1, rfl, h0.chk, h2, h3, q⟩
section
variable {κ ι α : Type} [DecidableEq κ] [DecidableEq ι]
end
theorem o_sortD {ns : List Int} (ps : List P) (h : ns.length < 64) : gSortedD (.dK (ns.map Sum.inl) ps) = some (.olst (((upL ns).map .int).map .val)) := by
  unfold gSortedD
  simp only [keysI_map, Option.bind_some, if_pos h, List.map_map]
  rfl
theorem w_ifE {e : Z.Env} {c : M Bool} {a b : M D} {Q : D → Z.Env → Prop} (h : W (c e) (fun x e1 => (x = true → W (a e1) Q) ∧ (x = false → W (b e1) Q))) : W (mIfE c a b e) Q := by
  obtain ⟨x, e1, h1, h2, h3⟩ := h
  cases x with
  | true =>
    obtain ⟨d, e2, h4, q⟩ := h2 rfl
    exact ⟨d, e2, by simp [mIfE, h1, h4], q⟩
  | false =>
    obtain ⟨d, e2, h4, q⟩ := h3 rfl
    exact ⟨d, e2, by simp [mIfE, h1, h4], q⟩
theorem br_gen2 {x : Bool} {a b : MS} {e : Z.Env} {Q : Out → Z.Env → Prop} (I : Z.Env → Prop) (h1 : x = true → W (a e) (fun o e1 => o = .nx ∧ I e1)) (h2 : x = false → I e) (k : ∀ e1, I e1 → W (b e1) Q) :
    (x = true → W (a e) (fun o e1 => (o = .nx → W (b e1) Q) ∧ (o ≠ .nx → Q o e1))) ∧ (x = false → W (sNil e) (fun o e1 => (o = .nx → W (b e1) Q) ∧ (o ≠ .nx → Q o e1))) :=
  ⟨fun hx => (h1 hx).mono fun o e1 ⟨ho, hi⟩ => by subst ho; exact sq_nx (k e1 hi), fun hx => ⟨.nx, e, rfl, sq_nx (k e (h2 hx))⟩⟩
end Z
namespace Z
open PySem.Spec PyProof.Rows L2 PySem
section
variable {base : Heap} {mg : Str → Option Value} {P : Program} {w : World} {K : PySem.W.Frag}
end
section
variable {X : Cx} {k : Nat} {f : Addr} {fd : FuncData} {ps : List Str} {sp : Sp} {x : Str} {p pos : Pos} {e : Expr} {es : List Expr} {t : TA}
end
end Z
set_option exponentiation.threshold 10000
namespace Z
open PySem.Spec PyProof.Rows L2 PySem
variable {K : PySem.W.Frag}

section
variable {X : Cx} {e : Expr} {es : List Expr} {t : TA} {pos : Pos}
end
theorem w_brk {e : Z.Env} {Q : Out → Z.Env → Prop} (q : Q .bk e) : W (sBrk e) Q := ⟨_, _, rfl, q⟩
theorem w_con {e : Z.Env} {Q : Out → Z.Env → Prop} (q : Q .ct e) : W (sCon e) Q := ⟨_, _, rfl, q⟩
theorem sq_bk {p r : Prop} (h : r) : ((Out.bk = .nx) → p) ∧ (Out.bk ≠ .nx → r) := ⟨fun q => (nomatch q), fun _ => h⟩
theorem sq_ct {p r : Prop} (h : r) : ((Out.ct = .nx) → p) ∧ (Out.ct ≠ .nx → r) := ⟨fun q => (nomatch q), fun _ => h⟩
theorem w_ifB {c : M Bool} {a b : MS} {e : Z.Env} {Q : Out → Z.Env → Prop} (p : Prop) (h : W (c e) (fun y e1 => e1 = e ∧ (y = true → p) ∧ (y = false → ¬ p))) (ha : p → W (a e) Q) (hb : ¬ p → W (b e) Q) : W (sIf c a b e) Q := by
  refine w_if (h.mono fun y e1 ⟨he, h1, h2⟩ => ?_)
  subst he
  exact ⟨fun hy => ha (h1 hy), fun hy => hb (h2 hy)⟩
theorem setL_set : ∀ (ds : List D) (j : Nat) (x : D), j < ds.length → SetL ds j x (ds.set j x)
  | [], _, _, h => by simp at h
  | d :: ds, 0, x, _ => SetL.z x d ds
  | d :: ds, j + 1, x, h => SetL.s d (setL_set ds j x (by simpa using h))
theorem ex_putV {e e' : Z.Env} {i : Nat} {ps : List P} {k : Int} {p : P} {Q : Z.Env → Prop} (ha : AtR e i (.loc (.olst (ps.map .val)))) (h0 : 0 ≤ k) (h1 : k < ps.length) (hs : SetR e i (.loc (.olst ((ps.set k.toNat p).map .val))) e') (q : Q e') :
    ∃ e3, Z.putAt i (.int k) (.val p) e = some e3 ∧ Q e3 := by
  refine ⟨e', put_l (j := k.toNat) ha ?_ ?_ hs, q⟩
  · simp [ixN, h0, h1]
  · have := setL_set (ps.map .val) k.toNat (.val p) (by simp; omega)
    rwa [← List.map_set] at this
end Z
namespace Z
open PySem.Spec PyProof.Rows L2 PySem
variable {K : PySem.W.Frag}
def gLRng : P → Option D
  | .int j => if 0 ≤ j ∧ j ≤ 100000 then some (.olst ((List.range j.toNat).map fun k => .val (.int (k : Nat)))) else none
  | _ => none
theorem je_lrng {t : TE} {m : M P} (h : JP K t m) : JE K (tLstRg (tRg1 t)) (mUn gLRng m) := by
  intro σ₀ σ w e f Q d e' E G hm hq
  simp only [mUn, Option.bind_eq_some_iff, Option.map_eq_some_iff] at hm
  obtain ⟨⟨x, e1⟩, h1, d0, h2, h3⟩ := hm
  cases h3
  cases x with
  | int j =>
    simp only [gLRng] at h2
    split at h2
    · rename_i hj
      cases h2
      refine h σ₀ σ w e f _ _ _ E G h1 fun v w1 f1 ev1 g1 E1 rx => ?_
      cases (show v = .int j from rx)
      refine ⟨j, rfl, RgOk.of_le (by omega) (by omega) (by omega) (by omega), fun p hp => ?_⟩
      obtain ⟨a, b, c⟩ := fin ev1 g1 E1 (Ev.new (o := .lst (rgV 0 j)) hp) (Good.new hp rfl)
      refine hq (.ref p) _ f1 [p] a b c ?_
      have ev : rgV 0 j = ((List.range j.toNat).map fun k : Nat => (k : Int)).map V.int := by
        unfold rgV
        rw [List.map_map, Int.sub_zero]
        refine (List.map_congr_left fun k _ => ?_)
        simp
      have ed : (List.range j.toNat).map (fun k : Nat => D.val (.int k)) = (((List.range j.toNat).map fun k : Nat => (k : Int)).map P.int).map .val := by
        rw [List.map_map]
        rw [List.map_map]
        rfl
      rw [ed]
      simp only [RepD]
      refine ⟨p, _, [], rfl, upd_same, rfl, ?_⟩
      rw [ev]
      exact RepPs.vals (ints_repPs _)
    · cases h2
  | _ => cases h2
theorem q_lrng {X : Cx} {a : Expr} {ta : TE} {ma : M P} {p p2 pos pos2 : Pos} (hm : X.mg "list" = none) (hm2 : X.mg "range" = none) (ha : QP K X a ta ma) (hg : Gl X "list" := by rfl) (hg2 : Gl X "range" := by rfl) (hc : X.calm = true := by rfl)
    (n1 : starEach [a] X.env = (false, eval a X.env) :: starEach [] X.env := by rfl) (n2 : starEach [.Call (.Name "range" p2) [a] [] pos2] X.env = (false, eval (.Call (.Name "range" p2) [a] [] pos2) X.env) :: starEach [] X.env := by rfl) :
    QE K X (.Call (.Name "list" p) [.Call (.Name "range" p2) [a] [] pos2] [] pos) (tLstRg (tRg1 ta)) (mUn gLRng ma) :=
  ⟨pe_listRg hc hg hm (prg_1 hg2 hm2 ha.p n1) n2, je_lrng ha.j⟩
theorem o_lrng {n : Nat} (h : n ≤ 100000) : gLRng (.int n) = some (.olst (((List.range n).map fun k : Nat => P.int k).map .val)) := by
  have : 0 ≤ (n : Int) ∧ (n : Int) ≤ 100000 := by omega
  simp only [gLRng, if_pos this, Int.toNat_natCast, List.map_map]
  rfl
theorem w_chain {e : Z.Env} {g g' : P → P → Option D} {a b c : M P} {Q : D → Z.Env → Prop} (h : W (a e) (fun x e1 => W (b e1) (fun y e2 => ∃ r, g x y = some (.val (.bl r)) ∧ (r = true → W (c e2) (fun z e3 => ∃ d, g' y z = some d ∧ Q d e3)) ∧ (r = false → Q (.val (.bl false)) e2)))) : W (mChain g g' a b c e) Q := by
  obtain ⟨x, e1, h1, y, e2, h2, r, h3, h4, h5⟩ := h
  cases r with
  | true =>
    obtain ⟨z, e3, h6, d, h7, q⟩ := h4 rfl
    exact ⟨d, e3, by simp [mChain, h1, h2, h3, h6, h7], q⟩
  | false => exact ⟨_, e2, by simp [mChain, h1, h2, h3], h5 rfl⟩
end Z
namespace Z
open PySem.Spec PyProof.Rows L2 PySem
variable {K : PySem.W.Frag}

end Z
namespace Z
open PySem.Spec PyProof.Rows L2 PySem
theorem ex_kt {x : List D} {k : List Key} {Q : List Key → Prop} (h1 : x.length ≤ 1000) (h2 : keysD x = some k) (q : Q k) : ∃ k, (x.length ≤ 1000 ∧ keysD x = some k) ∧ Q k := ⟨k, ⟨h1, h2⟩, q⟩
end Z
namespace Z
open PySem.Spec PyProof.Rows L2 PySem
end Z
namespace Z
open PySem.Spec PyProof.Rows L2 PySem
variable {K : PySem.W.Frag}

def gSlS (to : TE) (tl th : TO) : TG := fun v σ H Q => to σ H fun x H1 => tl σ H1 fun l H2 => th σ H2 fun u H3 =>
  ∃ (a b : Addr) (xs ys : List V) (i j : Int), x = .ref a ∧ v = .ref b ∧ H3 a = some (.lst xs) ∧ H3 b = some (.lst ys) ∧ a ≠ b ∧ l = some i ∧ u = some j ∧ 0 ≤ i ∧ i ≤ j ∧ j ≤ xs.length ∧ xs.length + ys.length ≤ sizeLine ∧
    Q σ (upd H3 a (.lst (xs.take i.toNat ++ ys ++ xs.drop j.toNat)))
theorem pg_slS {X : Cx} {o : Expr} {lo hi : Option Expr} {to : TE} {tl th : TO} {p2 pos : Pos} (ho : PE X o to) (hl : PO X lo tl) (hu : PO X hi th) (ha : ∀ v, assign (.Subscript o (.Slice lo hi none p2) pos) X.env v = (do
      let o1 ← holding [v] (eval o X.env)
      let i1 ← holding [v, o1] (eval (.Slice lo hi none p2) X.env)
      standAt pos
      holding [v, o1, i1] (setItem o1 i1 v)
      release [i1, v, o1] []) := by intro _; rfl) : PG X (.Subscript o (.Slice lo hi none p2) pos) (gSlS to tl th) := by
  refine (⟨fun pins s σ H v u Q I r h => ?_⟩)
  rw [ha]
  refine (wpAny_bind (wpAny_holding (thn (ho.run pins s σ H _ I h) fun ov s1 ⟨x, H1, I1, r1, q1⟩ => ?_)))
  refine wpAny_bind (wpAny_holding (wpAny_Slice (thn (hl.run pins s1 σ H1 _ I1 q1) fun vl s2 ⟨l, H2, I2, pl, q2⟩ => thn (hu.run pins s2 σ H2 _ I2 q2) fun vu s3 ⟨c, H3, I3, pu, q3⟩ => ?_)))
  rw [evalPart_none]
  refine wpAny_pure ?_
  have I4 : Inv X pins σ H3
      { s3 with heap := s3.heap.push { cls := .type "slice", data := .fields #[vl, vu, .none] } } := I3.kept (t' := s3.toks) fun b ob q => Heap.get?_push_of_some _ q
  obtain ⟨a, b, xs, ys, i, j, rfl, rfl, e1, e2, ne, rfl, rfl, h0, h1, h2, hz, q⟩ := q3
  cases r
  cases r1
  cases pl
  cases pu
  refine wpAny_bind (wpAny_standAt (wpAny_bind (wpAny_holding (set_slice I4 e1 e2 ne (Heap.IsSliceOf.new ..) ⟨_, rfl⟩ ⟨_, rfl⟩ h0 h1 h2 hz fun s' I' => ?_))))
  exact wpAny_release ⟨σ, _, I', q⟩
def sSetSl (i : Nat) (me : M D) (ml mh : M (Option Int)) : MS := fun e => (me e).bind fun x => (chk i x.2).bind fun _ => (ml x.2).bind fun a => (mh a.2).bind fun b => match x.1, a.1, b.1, b.2[i]? with
  | .olst ys, some lo, some hi, some s => match s.dat with
    | some (.olst ds) => if 0 ≤ lo ∧ lo ≤ hi ∧ hi ≤ ds.length ∧ ds.length + ys.length ≤ sizeLine then some (.nx, b.2.set i (s.with (.olst (ds.take lo.toNat ++ ys ++ ds.drop hi.toNat)))) else none
    | _ => none
  | _, _, _, _ => none
theorem js_setSl (i : Nat) {te : TE} {tl th : TO} {me : M D} {ml mh : M (Option Int)} (h1 : JE K te me) (hl : JO K tl ml) (hh : JO K th mh) : JS K (tAsg te (gSlS (tVar i) tl th)) (sSetSl i me ml mh) := by
  intro σ₀ σ w e f D0 o e' E G hm hp
  simp only [sSetSl, Option.bind_eq_some_iff] at hm
  obtain ⟨⟨x, e1⟩, h3, _, h0, ⟨lo, e2⟩, h4, ⟨hi, e3⟩, h5, hm⟩ := hm
  refine h1 σ₀ σ w e f _ x e1 E G h3 fun v w1 fe fv ev1 g1 E1 r => ?_
  obtain ⟨v0, hv0⟩ := chk_v E1 h0
  refine ⟨v0, hv0, hl σ₀ σ w1 e1 fe _ lo e2 E1 g1.left h4 fun w2 f2 ev2 g2 E2 => ?_⟩
  have ne : ∀ a ∈ fv, a ∉ fe := fun a m q => (List.nodup_append.mp g1.nd).2.2 a q a m rfl
  have g2' := Good.frame g1 ev2 g2
  have r2 := r.keeps x v fv (Keeps.of g1.left ev2 ne)
  refine hh σ₀ σ w2 e2 f2 _ hi e3 E2 g2 h5 fun w3 f3 ev3 g3 E3 => ?_
  have ne3 : ∀ a ∈ fv, a ∉ f2 := fun a m q => (List.nodup_append.mp g2'.nd).2.2 a q a m rfl
  have g3' := Good.frame g2' ev3 g3
  have r3 := r2.keeps x v fv (Keeps.of g2 ev3 ne3)
  split at hm
  · rename_i ys lo' hi' s hx ha hb hs
    dsimp only at hx ha hb hs
    subst hx ha hb
    split at hm
    · rename_i ds hd
      split at hm
      · rename_i hc
        cases hm
        simp only [RepD] at r3
        obtain ⟨b, vy, g, rfl, hb, rfl, rys⟩ := r3
        obtain ⟨o₀, o1, u1, ui, u2, _, a2, ef, a4, _⟩ := E3.at hs
        obtain ⟨v', q', rd', _⟩ := Sl.datR a4 hd
        subst q'
        simp only [RepD] at rd'
        obtain ⟨a', _, g'', rfl, _, rfl, _⟩ := rd'
        obtain ⟨a, vs, ga, q1, q2, q3, q4⟩ := slot_put E3 g3' hs hd
        rw [a2] at q1
        cases q1
        rw [hv0] at a2
        cases a2
        have nab : a' ≠ b := fun z => by
          have m1 : a' ∈ f3 := by rw [ef]; simp
          exact (List.nodup_append.mp g3'.nd).2.2 a' m1 b (by simp) z
        obtain ⟨t1, t2, et, rt1, rt2⟩ := q3.split lo'.toNat
        obtain ⟨t3, t4, et2, rt3, rt4⟩ := q3.split hi'.toNat
        have ln := q3.length
        have ly := rys.length
        have hle : lo'.toNat ≤ hi'.toNat := by omega
        -- what stands behind hi is part of what stands behind lo
        obtain ⟨z1, z2, ez, rz1, rz2⟩ := rt2.split (hi'.toNat - lo'.toNat)
        have ed : (ds.drop lo'.toNat).drop (hi'.toNat - lo'.toNat) = ds.drop hi'.toNat := by rw [List.drop_drop]; congr 1; omega
        have ev : (vs.drop lo'.toNat).drop (hi'.toNat - lo'.toNat) = vs.drop hi'.toNat := by rw [List.drop_drop]; congr 1; omega
        rw [ed, ev] at rz2
        have rnew := (rt1.append rys).append rz2
        obtain ⟨f4, E4, ev4, g4, _⟩ := q4 (vs.take lo'.toNat ++ vy ++ vs.drop hi'.toNat) (ds.take lo'.toNat ++ ys ++ ds.drop hi'.toNat) [] ((t1 ++ g) ++ z2) (b :: z1) (by
          rw [et, ez]
          rw [List.perm_iff_count]
          intro c
          simp only [List.count_append, List.count_cons, List.count_nil]
          omega) rnew
        refine ⟨a', b, vs, vy, lo', hi', rfl, rfl, q2, hb, nab, rfl, rfl, hc.1, hc.2.1, by rw [← ln]; exact hc.2.2.1, by rw [← ln, ← ly]; exact hc.2.2.2, ?_⟩
        exact hp σ _ f4 (((ev1.trans (ev2.frame _)).trans (ev3.frame _)).trans (ev4.less fun b m => List.mem_append_left _ m)) g4.left E4
      · cases hm
    · cases hm
  · cases hm
theorem qs_setSl (i : Nat) {X : Cx} {x : Str} {p p2 p3 pos : Pos} {v : Expr} {tv : TE} {dv : M D} {lo hi : Option Expr} {tl th : TO} {ml mh : M (Option Int)} (h : QE K X v tv dv) (hl : QO K X lo tl ml) (hh : QO K X hi th mh) (hN : X.N[i]? = some x := by rfl) (hv : Vis X.env.scope x := by first | exact Or.inl rfl | exact Or.inr (Or.inl rfl) | exact Or.inr (Or.inr rfl))
    (hd : (x == ("__debug__" : Str)) = false := by decide) (hcd : (x == ("__classdict__" : Str)) = false := by decide) (ha : ∀ v, assign (.Subscript (.Name x p) (.Slice lo hi none p2) p3) X.env v = (do
      let o1 ← holding [v] (eval (.Name x p) X.env)
      let i1 ← holding [v, o1] (eval (.Slice lo hi none p2) X.env)
      standAt p3
      holding [v, o1, i1] (setItem o1 i1 v)
      release [i1, v, o1] []) := by intro _; rfl) (hs : swapsWithSole [.Subscript (.Name x p) (.Slice lo hi none p2) p3] v pos.line X.env = pure false := by rfl) (hw : swappedStores [.Subscript (.Name x p) (.Slice lo hi none p2) p3] v X.env = pure none := by rfl)
    (h1 : (assignEach [.Subscript (.Name x p) (.Slice lo hi none p2) p3] X.env).map (·.2) = [assign (.Subscript (.Name x p) (.Slice lo hi none p2) p3) X.env] := by rfl) : QS K X (.Assign [.Subscript (.Name x p) (.Slice lo hi none p2) p3] v pos) (tAsg tv (gSlS (tVar i) tl th)) (sSetSl i dv ml mh) :=
  ⟨ps_asg h.p (pg_slS (pe_var hN hv hd hcd) hl.p hh.p ha) hs hw h1, js_setSl i h.j hl.j hh.j⟩

theorem w_setSl {e : Z.Env} {i : Nat} {me : M D} {ml mh : M (Option Int)} {Q : Out → Z.Env → Prop} (h : W (me e) (fun x e1 => (chk i e1 = some ()) ∧ W (ml e1) (fun a e2 => W (mh e2) (fun b e3 => ∃ ys lo hi s ds e4, x = .olst ys ∧ a = some lo ∧ b = some hi ∧ AtR e3 i s ∧ s.dat = some (.olst ds) ∧ (0 ≤ lo ∧ lo ≤ hi ∧ hi ≤ ds.length ∧ ds.length + ys.length ≤ sizeLine) ∧
    SetR e3 i (s.with (.olst (ds.take lo.toNat ++ ys ++ ds.drop hi.toNat))) e4 ∧ Q .nx e4)))) : W (sSetSl i me ml mh e) Q := by
  obtain ⟨x, e1, h1, hc, a, e2, h2, b, e3, h3, ys, lo, hi, s, ds, e4, rfl, rfl, rfl, h4, h5, h6, h7, q⟩ := h
  refine ⟨.nx, e4, ?_, q⟩
  simp only [sSetSl, h1, Option.bind_some, hc, h2, h3, h4.eq, h5, if_pos h6, h7.eq]
theorem w_compG {e : Z.Env} {m : M (List P)} {g : MG} {tt : M Bool} {te : M D} {vs : List Nat} {Q : D → Z.Env → Prop} (I : List P → List D → Z.Env → Prop)
    (h : W (m e) (fun ps e0 => ∃ e1, hid vs e0 = some e1 ∧ I ps [] e1 ∧
      (∀ p rest acc e2, I (p :: rest) acc e2 → ∃ e3, g (.val p) e2 = some e3 ∧ W (tt e3) (fun b e4 => (b = false → I rest acc (clr vs e4)) ∧ (b = true → W (te e4) (fun d e5 => acc.length < sizeLine ∧ I rest (acc ++ [d]) (clr vs e5))))) ∧
      (∀ acc e6, I [] acc e6 → Q (.olst acc) (res e0 vs e6)))) : W (mComp m g tt te vs e) Q := by
  obtain ⟨ps, e0, h1, e1, h2, h3, h4, h5⟩ := h
  have key : ∀ ps acc e, I ps acc e → ∃ acc' e', compL g tt te vs ps acc e = some (acc', e') ∧ I [] acc' e' := by
    intro ps
    induction ps with
    | nil => exact fun acc e hI => ⟨acc, e, rfl, hI⟩
    | cons p ps ih =>
      intro acc e hI
      obtain ⟨e3, a1, b, e4, a2, a3, a4⟩ := h4 p ps acc e hI
      cases b with
      | false =>
        obtain ⟨acc', e', b1, b2⟩ := ih _ _ (a3 rfl)
        exact ⟨acc', e', by simp only [compL, a1, a2, b1], b2⟩
      | true =>
        obtain ⟨d, e5, c1, c2, c3⟩ := a4 rfl
        obtain ⟨acc', e', b1, b2⟩ := ih _ _ c3
        exact ⟨acc', e', by simp only [compL, a1, a2, c1, if_pos c2, b1], b2⟩
  obtain ⟨acc', e', b1, b2⟩ := key ps [] e1 h3
  refine ⟨.olst acc', res e0 vs e', ?_, h5 acc' e' b2⟩
  simp only [mComp, h1, Option.bind_some, h2, b1, Option.map_some]
end Z
namespace Z
open PySem.Spec PyProof.Rows L2 PySem
theorem w_compX {β : Type} {e : Z.Env} {m : M (List P)} {g : MG} {tt : M Bool} {te : M D} {vs : List Nat} {Q : D → Z.Env → Prop} (F : β → P) (J : List β → List D → Z.Env → Prop)
    (h : W (m e) (fun ps e0 => ∃ xs : List β, ps = xs.map F ∧ ∃ e1, hid vs e0 = some e1 ∧ J xs [] e1 ∧
      (∀ x rest acc e2, x ∈ xs → J (x :: rest) acc e2 → ∃ e3, g (.val (F x)) e2 = some e3 ∧ W (tt e3) (fun b e4 => (b = false → J rest acc (clr vs e4)) ∧ (b = true → W (te e4) (fun d e5 => acc.length < sizeLine ∧ J rest (acc ++ [d]) (clr vs e5))))) ∧
      (∀ acc e6, J [] acc e6 → Q (.olst acc) (res e0 vs e6)))) : W (mComp m g tt te vs e) Q := by
  obtain ⟨ps, e0, h1, xs, hps, e1, h2, h3, h4, h5⟩ := h
  subst hps
  refine w_compG (fun rest acc e => ∃ ys : List β, rest = ys.map F ∧ (∀ y ∈ ys, y ∈ xs) ∧ J ys acc e) ⟨_, e0, h1, e1, h2, ⟨xs, rfl, fun _ h => h, h3⟩, fun p rest acc e2 hI => ?_, fun acc e6 hI => ?_⟩
  · obtain ⟨ys, a1, a2, a3⟩ := hI
    cases ys with
    | nil => cases a1
    | cons y ys =>
      obtain ⟨rfl, rfl⟩ := List.cons.inj a1
      obtain ⟨e3, b1, b2⟩ := h4 y ys acc e2 (a2 y List.mem_cons_self) a3
      have sub : ∀ z ∈ ys, z ∈ xs := fun z hz => a2 z (List.mem_cons_of_mem _ hz)
      exact ⟨e3, b1, b2.mono fun b e4 ⟨c1, c2⟩ => ⟨fun hb => ⟨ys, rfl, sub, c1 hb⟩, fun hb => (c2 hb).mono fun d e5 ⟨d1, d2⟩ => ⟨d1, ys, rfl, sub, d2⟩⟩⟩
  · obtain ⟨ys, a1, a2, a3⟩ := hI
    cases ys with
    | nil => exact h5 acc e6 a3
    | cons y ys => cases a1
end Z
namespace Z
open PySem.Spec PyProof.Rows L2 PySem
theorem res1 {e0 e ea : Z.Env} {v : Nat} {s : Sl} (h : AtR e0 v s) (q : SetR e v s ea) : res e0 [v] e = ea := by
  simp only [res, h.eq, q.eq]
end Z
namespace Z
open PySem.Spec PyProof.Rows L2 PySem
variable {K : PySem.W.Frag}
section
variable {X : Cx} {a b : Expr} {ta tb : TE} {ma mb : M P} {pos : Pos}
end
end Z
namespace Z
open PySem.Spec PyProof.Rows L2 PySem
theorem for_rng {g : MG} {b : MS} {Q : Out → Z.Env → Prop} {m n : Nat} (hmn : m = n) (I : Nat → Z.Env → Prop) (e : Z.Env) (h : I 0 e)
    (hs : ∀ k e, k < n → I k e → ∃ e1, g (.val (.int k)) e = some e1 ∧ W (b e1) (fun o e2 => ((o = .nx ∨ o = .ct) ∧ I (k + 1) e2) ∨ (o = .bk ∧ Q .nx e2) ∨ (∃ d, o = .ret d ∧ Q o e2)))
    (hn : ∀ e, I n e → Q .nx e) : W (forL g b ((List.range m).map fun k => .int (k : Nat)) e) Q := by
  subst hmn
  have key : ∀ (d k : Nat) (e : Z.Env), k + d = m → I k e → W (forL g b (((List.range m).drop k).map fun k => .int (k : Nat)) e) Q := by
    intro d
    induction d with
    | zero =>
      intro k e hk hI
      have : k = m := by omega
      subst this
      rw [List.drop_of_length_le (by simp)]
      exact ⟨.nx, e, rfl, hn e hI⟩
    | succ d ih =>
      intro k e hk hI
      have hlt : k < (List.range m).length := by simp; omega
      rw [(List.drop_eq_getElem_cons hlt)]
      simp only [List.getElem_range, List.map_cons]
      obtain ⟨e1, h1, o, e2, h2, h3⟩ := hs k e (by omega) hI
      rcases h3 with ⟨ho, h3⟩ | ⟨rfl, h3⟩ | ⟨d, rfl, h3⟩
      · obtain ⟨o', e', h4, q⟩ := ih (k + 1) e2 (by omega) h3
        refine ⟨o', e', ?_, q⟩
        rcases ho with rfl | rfl
        · simp only [forL, h1, h2, h4]
        · simp only [forL, h1, h2, h4]
      · exact ⟨.nx, e2, by simp only [forL, h1, h2], h3⟩
      · exact ⟨.ret d, e2, by simp only [forL, h1, h2], h3⟩
  have := key m 0 e (by omega) h
  rwa [List.drop_zero] at this
theorem while_n {c : M Bool} {b : MS} {Q : Out → Z.Env → Prop} (I : Nat → Z.Env → Prop)
    (step : ∀ n e, I n e → W (c e) (fun x e1 => (x = true → ∃ m, m < n ∧ W (b e1) (fun o e2 => o = .nx ∧ I m e2)) ∧ (x = false → Q .nx e1))) : ∀ (f n : Nat) (e : Z.Env), n < f → I n e → W (whileL c b f e) Q
  | 0, n, e, h, _ => by omega
  | f + 1, n, e, h, hI => by
    obtain ⟨x, e1, h1, h2, h3⟩ := step n e hI
    cases x with
    | false => exact ⟨.nx, e1, by simp only [whileL, h1], h3 rfl⟩
    | true =>
      obtain ⟨m, hm, o, e2, h4, rfl, h5⟩ := h2 rfl
      obtain ⟨o, e3, h6, q⟩ := while_n I step f m e2 (by omega) h5
      exact ⟨o, e3, by simp only [whileL, h1, h4, h6], q⟩
theorem w_par {e : Z.Env} {i j : Nat} {m : M (List D)} {Q : Out → Z.Env → Prop} (hij : i ≠ j) (h : W (m e) (fun ds e1 => ∃ d1 d2, ds = [d1, d2] ∧ i < e1.length ∧ j < e1.length ∧ Q .nx ((e1.set i (.loc d1)).set j (.loc d2)))) : W (sPar i j m e) Q := by
  obtain ⟨ds, e1, h, d1, d2, rfl, h2, h3, q⟩ := h
  exact ⟨_, _, by simp [sPar, h, hij, gN, h2, h3], q⟩
theorem gT2 {i j : Nat} {a b : P} {e e1 e2 : Z.Env} (h1 : SetR e i (.loc (.val a)) e1) (h2 : SetR e1 j (.loc (.val b)) e2) : gT (gsCons (gN i) (gsCons (gN j) gsNil)) (.val (.tup [a, b])) e = some e2 := by
  simp only [gT, List.map_cons, List.map_nil, gsCons, gsNil, gN_set h1, gN_set h2, Option.bind_some]
theorem gT3 {i j k : Nat} {a b c : P} {e e1 e2 e3 : Z.Env} (h1 : SetR e i (.loc (.val a)) e1) (h2 : SetR e1 j (.loc (.val b)) e2) (h3 : SetR e2 k (.loc (.val c)) e3) : gT (gsCons (gN i) (gsCons (gN j) (gsCons (gN k) gsNil))) (.val (.tup [a, b, c])) e = some e3 := by
  simp only [gT, List.map_cons, List.map_nil, gsCons, gsNil, gN_set h1, gN_set h2, gN_set h3, Option.bind_some]
theorem erase_mapZ {α β : Type} (F : α → β) : ∀ (xs : List α) (k : Nat), (xs.map F).eraseIdx k = (xs.eraseIdx k).map F
  | [], _ => rfl
  | x :: xs, 0 => rfl
  | x :: xs, k + 1 => by simp [erase_mapZ F xs k]
theorem pop_at {ps : List P} {k : Int} (h0 : 0 ≤ k) (h1 : k < ps.length) (h2 : ps.length ≤ 1000000) : hPopAt (ps.map .val) [.val (.int k)] = some (.val (ps[k.toNat]'(by omega)), (ps.eraseIdx k.toNat).map .val) := by
  have hk : k.toNat < ps.length := (by omega)
  have h3 : -(2 ^ 63) ≤ k ∧ k < 2 ^ 63 := by omega
  have h4 : (ps.map D.val).length = ps.length := by simp
  have h5 : seqIndex? k (ps.map D.val).length = some k.toNat := by
    have h6 : ¬ k < 0 := by omega
    rw [h4]; unfold seqIndex?
    simp [h0, h1, h6]
  unfold hPopAt
  simp only [if_pos h3, h5, Option.bind_some]
  simp [hk, erase_mapZ]
theorem ex_bl {b : Bool} {Q : Bool → Prop} (q : Q b) : ∃ b', D.val (.bl b) = .val (.bl b') ∧ Q b' := ⟨b, rfl, q⟩
theorem ex_int {b : Int} {Q : Int → Prop} (q : Q b) : ∃ b', P.int b = .int b' ∧ Q b' := ⟨b, rfl, q⟩
end Z
namespace ZS
open PySem PyProof.Rows L2 PySem.Calls SrtO
section
variable {P : Program} {w : World}
variable {A : Around} {E : Value → Shared → Prop}
variable {s : Shared}
theorem refs_rows {L : List Rw} : ∀ vs : List Value, (∀ v ∈ vs, ∃ q ∈ L, v = Value.ref q.1) → ∃ M : List Rw, vs = M.map (fun q => Value.ref q.1) ∧ ∀ q ∈ M, q ∈ L
  | [], _ => ⟨[], rfl, fun _ h => nomatch h⟩
  | v :: vs, h => by
    obtain ⟨q, hq, e⟩ := h v List.mem_cons_self
    obtain ⟨M, e1, hs⟩ := refs_rows vs fun u hu => h u (List.mem_cons_of_mem _ hu)
    refine ⟨q :: M, by rw [List.map_cons, e, e1], fun r hr => ?_⟩
    rcases (List.mem_cons.mp hr) with (z | z)
    · exact z ▸ hq
    · exact hs r z
end
end ZS

namespace Z
open PySem.Spec PyProof.Rows L2 PySem
variable {K : PySem.W.Frag}
def insT (x : List Int) : List (List Int) → List (List Int)
  | [] => [x]
  | y :: ys => if HT.lexLt x y = true then x :: y :: ys else if x = y then y :: ys else y :: insT x ys
def upT (G : List (List Int)) : List (List Int) := G.foldr insT []
theorem lex_ne {a b : List Int} (h : HT.lexLt a b = true) : a ≠ b := fun e => by
  subst e
  have := ZS.lexLt_asym h
  rw [h] at this
  cases this
theorem lex_tr {a b c : List Int} (h1 : HT.lexLt a b = true) (h2 : HT.lexLt b c = true) : HT.lexLt a c = true := by
  cases h : HT.lexLt a c with
  | true => rfl
  | false =>
    have := ZS.lexLt_trF h (ZS.lexLt_asym h2)
    rw [h1] at this
    cases this
theorem lex_or {a b : List Int} (h : HT.lexLt a b = false) (ne : a ≠ b) : HT.lexLt b a = true := by
  cases e : HT.lexLt b a with
  | true => rfl
  | false => exact absurd (ZS.lexLt_total h e) ne
theorem mem_insT (x k : List Int) : ∀ l : List (List Int), k ∈ insT x l ↔ k = x ∨ k ∈ l
  | [] => by simp [insT]
  | y :: ys => by
    unfold insT
    split
    · simp
    · split
      · rename_i h1 h2
        subst h2
        simp
      · simp only [List.mem_cons, mem_insT x k ys]
        constructor
        · rintro (h | h | h) <;> simp [h]
        · rintro (h | h | h) <;> simp [h]
def UpT (l : List (List Int)) : Prop := l.Pairwise fun a b => HT.lexLt a b = true
theorem up_insT (x : List Int) : ∀ l : List (List Int), UpT l → UpT (insT x l)
  | [], _ => by simp [insT, UpT]
  | y :: ys, h => by
    obtain ⟨h1, h2⟩ := (List.pairwise_cons.mp h)
    unfold insT
    split
    · rename_i lt
      refine List.pairwise_cons.mpr ⟨fun k hk => ?_, h⟩
      rcases List.mem_cons.mp hk with rfl | hk
      · exact lt
      · exact lex_tr lt (h1 k hk)
    · split
      · exact h
      · rename_i n1 n2
        refine List.pairwise_cons.mpr ⟨fun k hk => ?_, up_insT x ys h2⟩
        rcases (mem_insT x k ys).mp hk with rfl | hk
        · exact lex_or (by simpa using n1) n2
        · exact h1 k hk
theorem mem_upT (k : List Int) : ∀ G : List (List Int), k ∈ upT G ↔ k ∈ G
  | [] => by simp [upT]
  | n :: ns => by
    show k ∈ insT n (upT ns) ↔ _
    rw [mem_insT, mem_upT k ns, List.mem_cons]
theorem up_upT : ∀ G : List (List Int), UpT (upT G)
  | [] => List.Pairwise.nil
  | n :: ns => up_insT n (upT ns) (up_upT ns)
theorem nd_upT {l : List (List Int)} (h : UpT l) : l.Nodup := h.imp fun h => lex_ne h
theorem upT_uniq {l m : List (List Int)} (h1 : UpT l) (h2 : UpT m) (e : ∀ k, k ∈ l ↔ k ∈ m) : l = m := by
  refine List.Perm.eq_of_pairwise (le := fun a b => HT.lexLt a b = true) (fun a b _ _ h1 h2 => ?_) h1 h2 ((List.perm_ext_iff_of_nodup (nd_upT h1) (nd_upT h2)).mpr e)
  have := ZS.lexLt_asym h1
  rw [h2] at this
  cases this
theorem upT_eq {G m : List (List Int)} (h2 : UpT m) (e : ∀ k, k ∈ m ↔ k ∈ G) : upT G = m := upT_uniq (up_upT G) h2 fun k => (mem_upT k G).trans (e k).symm
theorem few_upT {G D : List (List Int)} (h : ∀ g ∈ G, g ∈ D) : (upT G).length ≤ D.length :=
  List.Nodup.length_le_of_subset (nd_upT (up_upT G)) fun k hk => h k ((mem_upT k G).mp hk)

theorem rows_of {w : Wd} : ∀ {G : List (List Int)} {vs : List V}, Paired (TupH w.H) vs G → ∃ ks : List ZS.Rw, vs = ks.map (fun p => V.ref p.1) ∧ ks.map (·.2) = G ∧ ∀ p ∈ ks, w.H p.1 = some (.tup (p.2.map V.int))
  | _, _, .nil => ⟨[], rfl, rfl, fun _ h => nomatch h⟩
  | _, _, .cons (b := ns) h t => by
    obtain ⟨ks, e1, e2, h3⟩ := rows_of t
    obtain ⟨a, rfl, s⟩ := h
    exact ⟨(a, ns) :: ks, by rw [e1]; rfl, by rw [← e2]; rfl, fun p hp => by
      rcases (List.mem_cons.mp hp) with (rfl | hp)
      · exact s
      · exact h3 p hp⟩
theorem pair_of {w : Wd} : ∀ {M : List ZS.Rw}, (∀ p ∈ M, w.H p.1 = some (.tup (p.2.map V.int))) → Paired (TupH w.H) (M.map fun p => V.ref p.1) (M.map (·.2))
  | [], _ => .nil
  | p :: M, h => .cons ⟨p.1, rfl, h p List.mem_cons_self⟩ (pair_of fun q hq => h q (List.mem_cons_of_mem _ hq))
end Z
namespace Z
open PySem.Spec PyProof.Rows L2 PySem
variable {K : PySem.W.Frag}
def DOf (u o : HO) : Prop := ((∃ kvs, u = .dK kvs) ∨ ∃ kvs, u = .dT kvs) ∧ (o = u ∨ ∃ ob, o = .frz ob u)
section
variable {H : Hp} {L : Addr → Prop} {d : Addr} {u o1 o2 : HO}
theorem DOf.tup (s : DOf u o1) {vs : List V} : o1 ≠ .tup vs := by
  obtain ⟨⟨k, rfl⟩ | ⟨k, rfl⟩, rfl | ⟨ob, rfl⟩⟩ := s <;> exact fun h => nomatch h
theorem DOf.lst (s : DOf u o1) {vs : List V} : o1 ≠ .lst vs := by
  obtain ⟨⟨k, rfl⟩ | ⟨k, rfl⟩, rfl | ⟨ob, rfl⟩⟩ := s <;> exact fun h => nomatch h
theorem DOf.flst (s : DOf u o1) {vs : List V} {x : Obj} : o1 ≠ .frz x (.lst vs) := by
  obtain ⟨⟨k, rfl⟩ | ⟨k, rfl⟩, rfl | ⟨ob, rfl⟩⟩ := s <;> exact fun h => nomatch h
theorem DOf.eqK (s : DOf u o1) {kvs : List (Key × V)} (h : o1 = .dK kvs ∨ ∃ ob, o1 = .frz ob (.dK kvs)) : u = .dK kvs := by
  obtain ⟨s0, rfl | ⟨ob, rfl⟩⟩ := s
  · rcases h with h | ⟨ob, h⟩
    · exact h
    · rcases s0 with ⟨k, e⟩ | ⟨k, e⟩ <;> rw [h] at e <;> cases e
  · rcases h with h | ⟨ob, h⟩
    · cases h
    · cases h; rfl
theorem DOf.eqT (s : DOf u o1) {kvs : List (List Key × V)} (h : o1 = .dT kvs ∨ ∃ ob, o1 = .frz ob (.dT kvs)) : u = .dT kvs := by
  obtain ⟨s0, rfl | ⟨ob, rfl⟩⟩ := s
  · rcases h with h | ⟨ob, h⟩
    · exact h
    · rcases s0 with ⟨k, e⟩ | ⟨k, e⟩ <;> rw [h] at e <;> cases e
  · rcases h with h | ⟨ob, h⟩
    · cases h
    · cases h; rfl
theorem DOf.okF (s : DOf u o1) : Z.okF o1 = true := by
  obtain ⟨⟨k, rfl⟩ | ⟨k, rfl⟩, rfl | ⟨ob, rfl⟩⟩ := s <;> rfl
theorem swap_ne {a : Addr} {o : HO} (h : H d = some o1) (e : H a = some o) (n : o1 ≠ o) : upd H d o2 a = some o := by
  have : a ≠ d := fun z => by
    subst z
    rw [h] at e
    cases e
    exact n rfl
  rw [upd_ne this]
  exact e
theorem rdK_swap {a : Addr} {kvs : List (Key × V)} (h : H d = some o1) (s1 : DOf u o1) (s2 : DOf u o2) (q : Rd H a (.dK kvs)) : Rd (upd H d o2) a (.dK kvs) := by
  by_cases e : a = d
  · subst e
    have hu : u = .dK kvs := s1.eqK (by
      rcases q with q | ⟨ob, q⟩
      · rw [h] at q; cases q; exact .inl rfl
      · rw [h] at q; cases q; exact .inr ⟨ob, rfl⟩)
    subst hu
    obtain ⟨_, rfl | ⟨ob, rfl⟩⟩ := s2
    · exact .inl upd_same
    · exact .inr ⟨ob, upd_same⟩
  · rcases q with q | ⟨ob, q⟩
    · exact .inl (by rw [upd_ne e]; exact q)
    · exact .inr ⟨ob, by rw [upd_ne e]; exact q⟩
theorem rdT_swap {a : Addr} {kvs : List (List Key × V)} (h : H d = some o1) (s1 : DOf u o1) (s2 : DOf u o2) (q : Rd H a (.dT kvs)) : Rd (upd H d o2) a (.dT kvs) := by
  by_cases e : a = d
  · subst e
    have hu : u = .dT kvs := s1.eqT (by
      rcases q with q | ⟨ob, q⟩
      · rw [h] at q; cases q; exact .inl rfl
      · rw [h] at q; cases q; exact .inr ⟨ob, rfl⟩)
    subst hu
    obtain ⟨_, rfl | ⟨ob, rfl⟩⟩ := s2
    · exact .inl upd_same
    · exact .inr ⟨ob, upd_same⟩
  · rcases q with q | ⟨ob, q⟩
    · exact .inl (by rw [upd_ne e]; exact q)
    · exact .inr ⟨ob, by rw [upd_ne e]; exact q⟩
mutual
theorem RepX.swap (h : H d = some o1) (s1 : DOf u o1) (s2 : DOf u o2) : ∀ (p : P) (v : V), RepX K H L p v → RepX K (upd H d o2) L p v
  | .non, v, q => q
  | .bl _, v, q => q
  | .int _, v, q => q
  | .str _, v, q => q
  | .tup ps, v, q => by
    simp only [RepX] at q ⊢
    obtain ⟨a, vs, e, s, r⟩ := q
    exact ⟨a, vs, e, swap_ne h s s1.tup, RepXs.swap h s1 s2 ps vs r⟩
  | .lst ps, v, q => by
    simp only [RepX] at q ⊢
    obtain ⟨a, vs, e, l, s, r⟩ := q
    exact ⟨a, vs, e, l, swap_ne h s s1.lst, RepXs.swap h s1 s2 ps vs r⟩
  | .scr ns, v, q => by
    simp only [RepX] at q ⊢
    obtain ⟨a, e, ⟨ob, s⟩ | s⟩ := q
    · exact ⟨a, e, .inl ⟨ob, swap_ne h s s1.flst⟩⟩
    · exact ⟨a, e, .inr s⟩
  | .dK ks ps, v, q => by
    simp only [RepX] at q ⊢
    obtain ⟨a, kvs, e, l, s, y, r⟩ := q
    exact ⟨a, kvs, e, l, rdK_swap h s1 s2 s, y, RepXs.swap h s1 s2 ps _ r⟩
  | .dT ks ps, v, q => by
    simp only [RepX] at q ⊢
    obtain ⟨a, kvs, e, l, s, y, r⟩ := q
    exact ⟨a, kvs, e, l, rdT_swap h s1 s2 s, y, RepXs.swap h s1 s2 ps _ r⟩
theorem RepXs.swap (h : H d = some o1) (s1 : DOf u o1) (s2 : DOf u o2) : ∀ (ps : List P) (vs : List V), RepXs K H L ps vs → RepXs K (upd H d o2) L ps vs
  | [], vs, q => q
  | p :: ps, vs, q => by
    simp only [RepXs] at q ⊢
    obtain ⟨v, r, e, h1, h2⟩ := q
    exact ⟨v, r, e, RepX.swap h s1 s2 p v h1, RepXs.swap h s1 s2 ps r h2⟩
end
end
section
variable {w w' : Wd} {d : Addr} {u o1 o2 : HO}
mutual
theorem RepD.swap (h : w.H d = some o1) (s1 : DOf u o1) (s2 : DOf u o2) (eH : w'.H = upd w.H d o2) (eF : w'.F = w.F) : ∀ (x : D) (v : V) (f : List Addr), d ∉ f → RepD K w x v f → RepD K w' x v f
  | .val p, v, f, n, q => by
    simp only [RepD] at q ⊢
    refine ⟨q.1, ?_⟩
    show RepX K w'.H w'.F p v
    rw [eH, eF]
    exact RepX.swap h s1 s2 p v q.2
  | .olst ds, v, f, n, q => by
    simp only [RepD] at q ⊢
    obtain ⟨a, vs, g, e, s, rfl, r⟩ := q
    exact ⟨a, vs, g, e, by rw [eH]; exact swap_ne h s s1.lst, rfl, RepDs.swap h s1 s2 eH eF ds vs g (fun m => n (List.mem_cons_of_mem _ m)) r⟩
  | .otup ds, v, f, n, q => by
    simp only [RepD] at q ⊢
    obtain ⟨a, vs, e, s, r⟩ := q
    exact ⟨a, vs, e, by rw [eH]; exact swap_ne h s s1.tup, RepDs.swap h s1 s2 eH eF ds vs f n r⟩
  | .odK ks ds, v, f, n, q => by
    simp only [RepD] at q ⊢
    obtain ⟨a, kvs, g, e, s, rfl, y, r⟩ := q
    have na : a ≠ d := fun z => n (by rw [z]; exact List.mem_cons_self)
    exact ⟨a, kvs, g, e, by rw [eH, upd_ne na]; exact s, rfl, y, RepDs.swap h s1 s2 eH eF ds _ g (fun m => n (List.mem_cons_of_mem _ m)) r⟩
  | .odT ks ds, v, f, n, q => by
    simp only [RepD] at q ⊢
    obtain ⟨a, kvs, g, e, s, rfl, y, r⟩ := q
    have na : a ≠ d := fun z => n (by rw [z]; exact List.mem_cons_self)
    exact ⟨a, kvs, g, e, by rw [eH, upd_ne na]; exact s, rfl, y, RepDs.swap h s1 s2 eH eF ds _ g (fun m => n (List.mem_cons_of_mem _ m)) r⟩
theorem RepDs.swap (h : w.H d = some o1) (s1 : DOf u o1) (s2 : DOf u o2) (eH : w'.H = upd w.H d o2) (eF : w'.F = w.F) : ∀ (xs : List D) (vs : List V) (f : List Addr), d ∉ f → RepDs K w xs vs f → RepDs K w' xs vs f
  | [], vs, f, n, q => q
  | x :: xs, vs, f, n, q => by
    simp only [RepDs] at q ⊢
    obtain ⟨v, r, f1, f2, e, rfl, h1, h2⟩ := q
    exact ⟨v, r, f1, f2, e, rfl, RepD.swap h s1 s2 eH eF x v f1 (fun m => n (List.mem_append_left _ m)) h1, RepDs.swap h s1 s2 eH eF xs r f2 (fun m => n (List.mem_append_right _ m)) h2⟩
end
theorem SlR.swap (h : w.H d = some o1) (s1 : DOf u o1) (s2 : DOf u o2) (eH : w'.H = upd w.H d o2) (eF : w'.F = w.F) {s : Sl} {o₀ o : Option V} {f : List Addr} (n : d ∉ f) (q : SlR K w s o₀ o f) : SlR K w' s o₀ o f := by
  cases s with
  | un => exact q
  | hol => exact q
  | loc x =>
    obtain ⟨v, e, q⟩ := q
    exact ⟨v, e, RepD.swap h s1 s2 eH eF x v f n q⟩
  | par x =>
    obtain ⟨v, e, e', q⟩ := q
    exact ⟨v, e, e', RepD.swap h s1 s2 eH eF x v f n q⟩
theorem EnvR.swap (h : w.H d = some o1) (s1 : DOf u o1) (s2 : DOf u o2) (eH : w'.H = upd w.H d o2) (eF : w'.F = w.F) : ∀ {e : Env} {σ₀ σ : St} {f : List Addr}, d ∉ f → EnvR K w e σ₀ σ f → EnvR K w' e σ₀ σ f
  | [], σ₀, σ, f, n, q => q
  | s :: e, σ₀, σ, f, n, q => by
    simp only [EnvR] at q ⊢
    obtain ⟨o₀, r₀, o, r, f1, f2, e1, e2, rfl, h1, h2⟩ := q
    exact ⟨o₀, r₀, o, r, f1, f2, e1, e2, rfl, SlR.swap h s1 s2 eH eF (fun m => n (List.mem_append_left _ m)) h1, EnvR.swap h s1 s2 eH eF (fun m => n (List.mem_append_right _ m)) h2⟩
end
def Wd.sw (w : Wd) (d : Addr) (o : HO) (h : okF o = true) : Wd := ⟨upd w.H d o, w.F, fun a q => by
  obtain ⟨ob, e, m⟩ := w.hF a q
  by_cases ha : a = d
  · subst ha
    exact ⟨o, upd_same, h⟩
  · exact ⟨ob, by rw [upd_ne ha]; exact e, m⟩⟩
def kyP : Key → P
  | .inl i => .int i
  | .inr x => .str x
theorem kyP_rep {w : Wd} (k : Key) : RepP K w (kyP k) (kV k) := by cases k <;> rfl
theorem kyPs_rep {w : Wd} : ∀ ks : List Key, RepPs K w (ks.map kyP) (ks.map kV)
  | [] => rfl
  | k :: ks => ⟨_, _, rfl, kyP_rep k, kyPs_rep ks⟩
theorem itR_keyK {w : Wd} {g : List Addr} {d : Addr} {o : Obj} {kvs : List (Key × V)} {ks : List Key} (h : w.H d = some (.frz o (.dK kvs))) (e : kvs.map (·.1) = ks) : ItR K w g (Itk d o kvs) (ks.map kyP) := by
  subst e
  refine ⟨fun w1 i k hi => ⟨k.imm d _ h rfl, by simpa using hi⟩, fun w1 i k hi => ⟨k.imm d _ h rfl, by simpa using hi⟩, fun w1 i x H' p k hy hp => ?_⟩
  obtain ⟨rfl, k0, v0, hk, rfl⟩ := hy
  refine ⟨w1, rfl, Ev.refl _ _, ?_⟩
  rw [List.map_map, List.getElem?_map, hk] at hp
  cases hp
  exact kyP_rep k0
theorem itR_keyT {w : Wd} {g : List Addr} {d : Addr} {o : Obj} {kvs : List (List Key × V)} {ks : List (List Key)} (h : w.H d = some (.frz o (.dT kvs))) (e : kvs.map (·.1) = ks) : ItR K w g (Itkt d o kvs) (ks.map fun k => .tup (k.map kyP)) := by
  subst e
  refine ⟨fun w1 i k hi => ⟨k.imm d _ h rfl, by simpa using hi⟩, fun w1 i k hi => ⟨k.imm d _ h rfl, by simpa using hi⟩, fun w1 i x H' p k hy hp => ?_⟩
  obtain ⟨rfl, k0, v0, q, hk, rfl, hq⟩ := hy
  refine ⟨w1, rfl, Ev.refl _ _, ?_⟩
  rw [List.map_map, List.getElem?_map, hk] at hp
  cases hp
  exact ⟨q, k0.map kV, rfl, hq, kyPs_rep k0⟩
def keysP : D → Option (List P)
  | .odK ks _ => some (ks.map kyP)
  | .odT ks _ => some (ks.map fun k => .tup (k.map kyP))
  | .val (.dK ks _) => some (ks.map kyP)
  | .val (.dT ks _) => some (ks.map fun k => .tup (k.map kyP))
  | _ => none
def owD : D → Bool
  | .odK _ _ | .odT _ _ => true
  | _ => false
theorem keysP_own {w : Wd} {d : D} {v : V} {f : List Addr} {ps : List P} (h : keysP d = some ps) (ho : owD d = true) (r : RepD K w d v f) :
    ∃ a u g, v = .ref a ∧ w.H a = some u ∧ f = a :: g ∧ DOf u u ∧ (∀ w' : Wd, w'.H a = some u → (∀ x vs, RepDs K w x vs g → RepDs K w' x vs g) → RepD K w' d v f) ∧
      ∀ (od : Obj) (w1 : Wd) (g1 : List Addr), w1.H a = some (.frz od u) → ∃ J : It, ItR K w1 g1 J ps ∧ ∀ R : It → Hp → Prop, R J w1.H → (∃ d o, V.ref a = .ref d ∧ ((∃ kvs, w1.H d = some (.frz o (.dK kvs)) ∧ R (Itk d o kvs) w1.H) ∨ ∃ kvs, w1.H d = some (.frz o (.dT kvs)) ∧ R (Itkt d o kvs) w1.H)) := by
  cases d with
  | odK ks ds =>
    cases h
    simp only [RepD] at r
    obtain ⟨a, kvs, g, rfl, ha, rfl, hk, rs⟩ := r
    refine ⟨a, .dK kvs, g, rfl, ha, rfl, ⟨.inl ⟨_, rfl⟩, .inl rfl⟩, fun w' h1 h2 => ?_, fun od w1 g1 h1 => ⟨_, itR_keyK h1 hk.1, fun R q => ⟨a, od, rfl, .inl ⟨kvs, h1, q⟩⟩⟩⟩
    simp only [RepD]
    exact ⟨a, kvs, g, rfl, h1, rfl, hk, h2 _ _ rs⟩
  | odT ks ds =>
    cases h
    simp only [RepD] at r
    obtain ⟨a, kvs, g, rfl, ha, rfl, hk, rs⟩ := r
    refine ⟨a, .dT kvs, g, rfl, ha, rfl, ⟨.inr ⟨_, rfl⟩, .inl rfl⟩, fun w' h1 h2 => ?_, fun od w1 g1 h1 => ⟨_, itR_keyT h1 hk.1, fun R q => ⟨a, od, rfl, .inr ⟨kvs, h1, q⟩⟩⟩⟩
    simp only [RepD]
    exact ⟨a, kvs, g, rfl, h1, rfl, hk, h2 _ _ rs⟩
  | _ => cases ho
def LkE (d : Addr) (od : Obj) (u : HO) (D : Ends) : Ends :=
  ⟨fun σ' H' => H' d = some (.frz od u) ∧ D.nx σ' (upd H' d u), fun v H' => H' d = some (.frz od u) ∧ D.rt v (upd H' d u), fun σ' H' => H' d = some (.frz od u) ∧ D.bk σ' (upd H' d u), fun σ' H' => H' d = some (.frz od u) ∧ D.ct σ' (upd H' d u)⟩
def sForL (i : Nat) (g : MG) (b : MS) : MS := fun e => match e[i]? with
  | some s => match s.dat with
    | some d => if owD d = true then (keysP d).bind fun ps => match forL g b ps (e.set i .hol) with
      | some (o, e2) => match e2[i]? with
        | some .hol => some (o, e2.set i s)
        | _ => none
      | none => none
      else none
    | none => none
  | none => none
theorem mutOf {u : HO} (h : DOf u u) : Mut (some u) := by
  obtain ⟨⟨k, rfl⟩ | ⟨k, rfl⟩, _⟩ := h <;> trivial
theorem DOf.fz {u : HO} (h : DOf u u) (od : Obj) : DOf u (.frz od u) := ⟨h.1, .inr ⟨od, rfl⟩⟩
theorem DOf.mut {u : HO} (h : DOf u u) : mutO u = true := by
  obtain ⟨⟨k, rfl⟩ | ⟨k, rfl⟩, _⟩ := h <;> rfl
theorem js_forL {gt : TG} {tb : TS} {g : MG} {b : MS} {cs : List Nat} (i : Nat) (hg : JG K cs gt g) (hb : JS K tb b) : JS K (tLock (tFor (iKeys (tVar i)) gt tb)) (sForL i g b) := by
  intro σ₀ σ w e f D o e' E G hm hp
  unfold sForL at hm
  split at hm
  · rename_i s hs
    split at hm
    · rename_i dd hd
      split at hm
      · rename_i how
        obtain ⟨ps, hk, hm⟩ := Option.bind_eq_some_iff.mp hm
        split at hm
        · rename_i o2 e2 hf
          split at hm
          · rename_i hh
            cases hm
            obtain ⟨o₀, o1, f1, fi, f2, a1, a2, rfl, a4, a5⟩ := E.lock hs
            obtain ⟨v, q, r, rr⟩ := Sl.datR a4 hd
            subst q
            obtain ⟨a, u, gg, rfl, ha, rfl, hu, again, walk⟩ := keysP_own hk how r
            have pm : (f1 ++ ((a :: gg) ++ f2)).Perm (((f1 ++ f2) ++ gg) ++ [a]) := by
              have p1 : (f1 ++ ((a :: gg) ++ f2)).Perm ((a :: gg) ++ (f1 ++ f2)) := by
                rw [← List.append_assoc]; rw [← List.append_assoc]
                exact List.Perm.append_right f2 List.perm_append_comm
              have p2 : (a :: gg).Perm (gg ++ [a]) := by simpa using (List.perm_append_comm : ([a] ++ gg).Perm (gg ++ [a]))
              refine p1.trans (List.perm_append_comm.trans ((List.Perm.append_left (f1 ++ f2) p2).trans ?_))
              rw [← List.append_assoc]
            have g' := G.perm pm
            have na : a ∉ (f1 ++ f2) ++ gg := fun m => (List.nodup_append.mp g'.nd).2.2 a m a (by simp) rfl
            have na1 : a ∉ f1 ++ f2 := fun m => na (List.mem_append_left _ m)
            have na2 : a ∉ gg := fun m => na (List.mem_append_right _ m)
            have naF : ¬ w.F a := (g'.own a (by simp)).1
            refine ⟨a, u, ha, mutOf hu, fun od => ?_⟩
            have ok1 : okF (.frz od u) = true := (hu.fz od).okF
            have g1 : Good (w.sw a (.frz od u) ok1) ((f1 ++ f2) ++ gg) := ⟨g'.left.nd, fun c m => by
              obtain ⟨x1, ob, x2, x3⟩ := g'.left.own c m
              refine ⟨x1, ob, ?_, x3⟩
              show upd w.H a (.frz od u) c = some ob
              rw [upd_ne (fun z => na (by rw [z] at m; exact m))]
              exact x2⟩
            have hd1 : (w.sw a (.frz od u) ok1).H a = some (.frz od u) := upd_same
            have E1 : EnvR K (w.sw a (.frz od u) ok1) (e.set i .hol) (σ₀.set i (some (.ref a))) σ (f1 ++ f2) := EnvR.swap (w' := w.sw a (.frz od u) ok1) ha hu (hu.fz od) rfl rfl na1 a5
            obtain ⟨J, itJ, useJ⟩ := walk od (w.sw a (.frz od u) ok1) gg hd1
            have dj : ∀ c ∈ gg, c ∉ f1 ++ f2 := fun c m q => (List.nodup_append.mp g1.nd).2.2 c q c m rfl
            have back : ∀ {w3 : Wd} {fr fx : List Addr} {σ' : St}, Ev (f1 ++ f2) (w.sw a (.frz od u) ok1) w3 (fr ++ fx) → Good w3 (fr ++ fx) → EnvR K w3 e2 (σ₀.set i (some (.ref a))) σ' fr →
                w3.H a = some (.frz od u) ∧ ∃ (ok : okF u = true) (fr' : List Addr), a ∉ fr ++ fx ∧ EnvR K (w3.sw a u ok) (e2.set i s) σ₀ σ' fr' ∧ Ev (f1 ++ ((a :: gg) ++ f2)) w (w3.sw a u ok) (fr' ++ fx) ∧ Good (w3.sw a u ok) (fr' ++ fx) := by
              intro w3 fr fx σ' ev gd E3
              have h3 : w3.H a = some (.frz od u) := ev.keep a _ hd1 na1
              have ok : okF u = true := hu.okF
              have na3 : a ∉ fr ++ fx := fun m => by
                obtain ⟨_, ob, x2, x3⟩ := gd.own a m
                rw [h3] at x2
                cases x2
                cases x3
              have nF3 : ¬ w3.F a := fun q => by
                rcases ev.newF a q with z | z | z
                · exact naF z
                · exact na1 z
                · rw [hd1] at z; cases z
              have E4 : EnvR K (w3.sw a u ok) e2 (σ₀.set i (some (.ref a))) σ' fr := EnvR.swap (w' := w3.sw a u ok) h3 (hu.fz od) hu rfl rfl (fun m => na3 (List.mem_append_left _ m)) E3
              have sl : SlR K (w3.sw a u ok) s o₀ (some (.ref a)) (a :: gg) := by
                have move : ∀ x vs, RepDs K w x vs gg → RepDs K (w3.sw a u ok) x vs gg := fun x vs q => by
                  have q1 : RepDs K (w.sw a (.frz od u) ok1) x vs gg := RepDs.swap (w' := w.sw a (.frz od u) ok1) ha hu (hu.fz od) rfl rfl x vs gg na2 q
                  have q2 : RepDs K w3 x vs gg := RepDs.keeps x vs gg (Keeps.of g1.left ev dj) q1
                  exact RepDs.swap (w' := w3.sw a u ok) h3 (hu.fz od) hu rfl rfl x vs gg na2 q2
                have r4 := again (w3.sw a u ok) upd_same move
                have := rr (w3.sw a u ok) dd (a :: gg) r4
                cases s with
                | un => cases hd
                | hol => cases hd
                | loc x => cases hd; exact this
                | par x => cases hd; exact this
              obtain ⟨h1, h2, rfl, E5⟩ := E4.unlock hh a1 sl
              have gfr : Good w3 (((h1 ++ h2) ++ fx) ++ gg) := Good.frame g1 ev gd
              have nag : a ∉ ((h1 ++ h2) ++ fx) ++ gg := fun m => by
                rcases List.mem_append.mp m with z | z
                · exact na3 z
                · exact na2 z
              have gall : Good (w3.sw a u ok) ((((h1 ++ h2) ++ fx) ++ gg) ++ [a]) := by
                refine ⟨List.nodup_append.mpr ⟨gfr.nd, by simp, fun c m c' m' z => ?_⟩, fun c m => ?_⟩
                · have : c' = a := by simpa using m'
                  exact nag (this ▸ z ▸ m)
                · rcases List.mem_append.mp m with z | z
                  · obtain ⟨x1, ob, x2, x3⟩ := gfr.own c z
                    refine ⟨x1, ob, ?_, x3⟩
                    show upd w3.H a u c = some ob
                    rw [upd_ne (fun q => nag (by rw [q] at z; exact z))]
                    exact x2
                  · have : c = a := by simpa using z
                    subst this
                    exact ⟨nF3, u, upd_same, hu.mut⟩
              have pm2 : ((((h1 ++ h2) ++ fx) ++ gg) ++ [a]).Perm ((h1 ++ ((a :: gg) ++ h2)) ++ fx) := by
                have z0 : (gg ++ [a]).Perm (a :: gg) := by simpa using (List.perm_append_comm : (gg ++ [a]).Perm ([a] ++ gg))
                have z1 : ((((h1 ++ h2) ++ fx) ++ gg) ++ [a]).Perm ((h1 ++ h2) ++ ((a :: gg) ++ fx)) := by
                  rw [List.append_assoc]; rw [List.append_assoc]
                  exact List.Perm.append_left _ ((List.Perm.append_left fx z0).trans List.perm_append_comm)
                refine z1.trans ?_
                rw [← List.append_assoc]
                refine List.Perm.append_right fx ?_
                rw [List.append_assoc]
                exact List.Perm.append_left h1 List.perm_append_comm
              refine ⟨h3, ok, _, na3, E5, ?_, gall.perm pm2⟩
              have wn : ∀ c, (w.sw a (.frz od u) ok1).H c = none → w.H c = none := fun c z => by
                have nc : c ≠ a := fun q => by rw [q, hd1] at z; cases z
                have z : upd w.H a (.frz od u) c = none := z
                rwa [upd_ne nc] at z
              refine ⟨fun c q => ev.fz c q, fun c ob q nm => ?_, fun c q => ?_, fun c m => ?_, fun c ob q => ?_⟩
              · have nc : c ≠ a := fun z => nm (by rw [z]; simp)
                have nf : c ∉ f1 ++ f2 := fun z => nm (by rcases List.mem_append.mp z with z | z <;> simp [z])
                show upd w3.H a u c = some ob
                rw [upd_ne nc]
                refine ev.keep c ob ?_ nf
                show upd w.H a (.frz od u) c = some ob
                rw [upd_ne nc]
                exact q
              · rcases ev.newF c q with z | z | z
                · exact .inl z
                · exact .inr (.inl (by rcases List.mem_append.mp z with z | z <;> simp [z]))
                · exact .inr (.inr (wn c z))
              · have m := pm2.mem_iff.mpr m
                rcases List.mem_append.mp m with m | m
                · rcases List.mem_append.mp m with m | m
                  · rcases ev.sub c m with z | z
                    · exact .inl (by rcases List.mem_append.mp z with z | z <;> simp [z])
                    · exact .inr (wn c z)
                  · exact .inl (by simp [m])
                · have : c = a := by simpa using m
                  exact .inl (by simp [this])
              · by_cases nc : c = a
                · subst nc
                  exact ⟨u, upd_same⟩
                · have q1 : (w.sw a (.frz od u) ok1).H c = some ob := by
                    show upd w.H a (.frz od u) c = some ob
                    rw [upd_ne nc]
                    exact q
                  obtain ⟨o', z⟩ := ev.there c ob q1
                  exact ⟨o', by
                    show upd w3.H a u c = some o'
                    rw [upd_ne nc]
                    exact z⟩
            have core := for_core (σ₀ := σ₀.set i (some (.ref a))) (σ := σ) (D := LkE a od u D) (o := o) (e' := e2) (fe := f1 ++ f2) (fv := gg) hg hb g1 E1 itJ hf (by
              cases o with
              | nx =>
                intro σ' w3 f' ev gd E3
                obtain ⟨h3, ok, fr, _, E5, ev5, g5⟩ := back (fx := []) (by simpa using ev) (by simpa using gd) E3
                exact ⟨h3, hp σ' (w3.sw a u ok) fr (by simpa using ev5) (by simpa using g5) E5⟩
              | bk =>
                intro σ' w3 f' ev gd E3
                obtain ⟨h3, ok, fr, _, E5, ev5, g5⟩ := back (fx := []) (by simpa using ev) (by simpa using gd) E3
                exact ⟨h3, hp σ' (w3.sw a u ok) fr (by simpa using ev5) (by simpa using g5) E5⟩
              | ct =>
                intro σ' w3 f' ev gd E3
                obtain ⟨h3, ok, fr, _, E5, ev5, g5⟩ := back (fx := []) (by simpa using ev) (by simpa using gd) E3
                exact ⟨h3, hp σ' (w3.sw a u ok) fr (by simpa using ev5) (by simpa using g5) E5⟩
              | ret x =>
                intro v σ' w3 fe4 fv4 ev gd E3 r3
                obtain ⟨h3, ok, fr, na4, E5, ev5, g5⟩ := back (fx := fv4) ev gd E3
                exact ⟨h3, hp v σ' (w3.sw a u ok) fr fv4 ev5 g5 E5 (RepD.swap (w' := w3.sw a u ok) h3 (hu.fz od) hu rfl rfl x v fv4 (fun m => na4 (List.mem_append_right _ m)) r3)⟩)
            exact ⟨.ref a, a2, useJ (fun J H1 => tFor (fun _ H R => R J H) gt tb (LkE a od u D) σ H1) core⟩
          · cases hm
        · cases hm
      · cases hm
    · cases hm
  · cases hm
theorem qs_forL {X : Cx} {t : TS} {m : MS} {x : Str} {p pos : Pos} {tg : Expr} {body : List Stmt} {g : TG} {mg : MG} {cs : List Nat} (i : Nat) (hp : PassesOwn (model X.prog X.w) X.A X.env X.xe) (hc : X.calm = true) (hi : QP K X (.Name x p) (tVar i) (mN i)) (hg : QG K X cs tg g mg) (hb : QSs K X body t m) (hs : ∀ y, foldedSetIterable (.Name x p) X.env y = pure y := by intro _; rfl) (hK : X.K = K := by rfl) :
    QS K X (.For tg (.Name x p) body [] pos) (tLock (tFor (iKeys (tVar i)) g t)) (sForL i mg m) := by
  subst hK
  exact ⟨ps_lock (ps_for hp hc (pi_keys hi.p) hg.p hb.p hs), js_forL i hg.j hb.j⟩
def sForR (i : Nat) (g : MG) (b : MS) : MS := fun e => (mN i e).bind fun x => (keysP (.val x.1)).bind fun ps => forL g b ps x.2
theorem keysP_val {w : Wd} {p : P} {v : V} {ps : List P} (h : keysP (.val p) = some ps) (r : RepP K w p v) :
    ∃ a u, v = .ref a ∧ w.F a ∧ Rd w.H a u ∧ DOf u u ∧
      ∀ (od : Obj) (w1 : Wd) (g1 : List Addr), w1.H a = some (.frz od u) → ∃ J : It, ItR K w1 g1 J ps ∧ ∀ R : It → Hp → Prop, R J w1.H → (∃ d o, V.ref a = .ref d ∧ ((∃ kvs, w1.H d = some (.frz o (.dK kvs)) ∧ R (Itk d o kvs) w1.H) ∨ ∃ kvs, w1.H d = some (.frz o (.dT kvs)) ∧ R (Itkt d o kvs) w1.H)) := by
  cases p with
  | dK ks qs =>
    cases h
    simp only [RepP, RepX] at r
    obtain ⟨a, kvs, rfl, hF, ha, hk, rs⟩ := r
    exact ⟨a, .dK kvs, rfl, hF, ha, ⟨.inl ⟨_, rfl⟩, .inl rfl⟩, fun od w1 g1 h1 => ⟨_, itR_keyK h1 hk.1, fun R q => ⟨a, od, rfl, .inl ⟨kvs, h1, q⟩⟩⟩⟩
  | dT ks qs =>
    cases h
    simp only [RepP, RepX] at r
    obtain ⟨a, kvs, rfl, hF, ha, hk, rs⟩ := r
    exact ⟨a, .dT kvs, rfl, hF, ha, ⟨.inr ⟨_, rfl⟩, .inl rfl⟩, fun od w1 g1 h1 => ⟨_, itR_keyT h1 hk.1, fun R q => ⟨a, od, rfl, .inr ⟨kvs, h1, q⟩⟩⟩⟩
  | _ => cases h
def tLockQ (t : TS) : TS := fun D σ H => tLock t D σ H ∨ t D σ H
theorem ps_lockQ {X : Cx} {st : Stmt} {t : TS} (h : PS X st t) : PS X st (tLockQ t) :=
  ⟨fun pins s σ H D I hw => hw.elim ((ps_lock h).run pins s σ H D I) (h.run pins s σ H D I)⟩
theorem js_forR {gt : TG} {tb : TS} {g : MG} {b : MS} {cs : List Nat} (i : Nat) (hg : JG K cs gt g) (hb : JS K tb b) : JS K (tLockQ (tFor (iKeys (tVar i)) gt tb)) (sForR i g b) := by
  intro σ₀ σ w e f D o e' E G hm hp
  unfold sForR at hm
  obtain ⟨⟨p, e1⟩, h1, hm⟩ := Option.bind_eq_some_iff.mp hm
  obtain ⟨ps, hk, hf⟩ := Option.bind_eq_some_iff.mp hm
  have key := jn (K := K) i σ₀ σ w e f (fun v H1 => σ[i]? = some (some v) → tLockQ (tFor (iKeys (tVar i)) gt tb) D σ H1) p e1 E G h1 fun v w1 f1 ev1 gd1 E1 r hv => by
    have hp1 : Post K σ₀ w1 f1 D o e' := hp.from ev1
    obtain ⟨a, u, rfl, hF, ha, hu, walk⟩ := keysP_val hk r
    have na : a ∉ f1 := fun m => (gd1.own a m).1 hF
    rcases ha with ha | ⟨od, ha⟩
    · refine .inl ⟨a, u, ha, mutOf hu, fun od => ?_⟩
      have ok1 : okF (.frz od u) = true := (hu.fz od).okF
      have hd1 : (w1.sw a (.frz od u) ok1).H a = some (.frz od u) := upd_same
      have g2 : Good (w1.sw a (.frz od u) ok1) (f1 ++ []) := ⟨by simpa using gd1.nd, fun c m => by
        have m : c ∈ f1 := by simpa using m
        obtain ⟨x1, ob, x2, x3⟩ := gd1.own c m
        refine ⟨x1, ob, ?_, x3⟩
        show upd w1.H a (.frz od u) c = some ob
        rw [upd_ne (fun z => na (by rw [z] at m; exact m))]
        exact x2⟩
      have E2 : EnvR K (w1.sw a (.frz od u) ok1) e1 σ₀ σ f1 := EnvR.swap (w' := w1.sw a (.frz od u) ok1) ha hu (hu.fz od) rfl rfl na E1
      obtain ⟨J, itJ, useJ⟩ := walk od (w1.sw a (.frz od u) ok1) [] hd1
      have back : ∀ {w3 : Wd} {fr : List Addr}, Ev f1 (w1.sw a (.frz od u) ok1) w3 fr → Good w3 fr →
          w3.H a = some (.frz od u) ∧ a ∉ fr ∧ ∃ (ok : okF u = true), Ev f1 w1 (w3.sw a u ok) fr ∧ Good (w3.sw a u ok) fr := by
        intro w3 fr ev gd
        have h3 : w3.H a = some (.frz od u) := ev.keep a _ hd1 na
        have na3 : a ∉ fr := fun m => by
          obtain ⟨_, ob, x2, x3⟩ := gd.own a m
          rw [h3] at x2
          cases x2
          cases x3
        have wn : ∀ c, (w1.sw a (.frz od u) ok1).H c = none → w1.H c = none := fun c z => by
          have nc : c ≠ a := fun q => by rw [q, hd1] at z; cases z
          have z : upd w1.H a (.frz od u) c = none := z
          rwa [upd_ne nc] at z
        refine ⟨h3, na3, hu.okF, ⟨fun c q => ev.fz c q, fun c ob q nm => ?_, fun c q => ?_, fun c m => ?_, fun c ob q => ?_⟩, gd.nd, fun c m => ?_⟩
        · by_cases nc : c = a
          · subst nc
            rw [ha] at q
            cases q
            exact upd_same
          · show upd w3.H a u c = some ob
            rw [upd_ne nc]
            refine ev.keep c ob ?_ nm
            show upd w1.H a (.frz od u) c = some ob
            rw [upd_ne nc]
            exact q
        · rcases ev.newF c q with z | z | z
          · exact .inl z
          · exact .inr (.inl z)
          · exact .inr (.inr (wn c z))
        · rcases ev.sub c m with z | z
          · exact .inl z
          · exact .inr (wn c z)
        · by_cases nc : c = a
          · subst nc
            exact ⟨u, upd_same⟩
          · have q1 : (w1.sw a (.frz od u) ok1).H c = some ob := by
              show upd w1.H a (.frz od u) c = some ob
              rw [upd_ne nc]
              exact q
            obtain ⟨o', z⟩ := ev.there c ob q1
            exact ⟨o', by
              show upd w3.H a u c = some o'
              rw [upd_ne nc]
              exact z⟩
        · obtain ⟨x1, ob, x2, x3⟩ := gd.own c m
          refine ⟨x1, ob, ?_, x3⟩
          show upd w3.H a u c = some ob
          rw [upd_ne (fun z => na3 (by rw [z] at m; exact m))]
          exact x2
      have core := for_core (σ₀ := σ₀) (σ := σ) (D := LkE a od u D) (o := o) (e' := e') (fe := f1) (fv := []) hg hb g2 E2 itJ hf (by
        cases o with
        | nx =>
          intro σ' w3 f' ev gd E3
          obtain ⟨h3, na3, ok, ev5, g5⟩ := back ev gd
          exact ⟨h3, hp1 σ' (w3.sw a u ok) f' ev5 g5 (EnvR.swap (w' := w3.sw a u ok) h3 (hu.fz od) hu rfl rfl na3 E3)⟩
        | bk =>
          intro σ' w3 f' ev gd E3
          obtain ⟨h3, na3, ok, ev5, g5⟩ := back ev gd
          exact ⟨h3, hp1 σ' (w3.sw a u ok) f' ev5 g5 (EnvR.swap (w' := w3.sw a u ok) h3 (hu.fz od) hu rfl rfl na3 E3)⟩
        | ct =>
          intro σ' w3 f' ev gd E3
          obtain ⟨h3, na3, ok, ev5, g5⟩ := back ev gd
          exact ⟨h3, hp1 σ' (w3.sw a u ok) f' ev5 g5 (EnvR.swap (w' := w3.sw a u ok) h3 (hu.fz od) hu rfl rfl na3 E3)⟩
        | ret x =>
          intro v σ' w3 fe4 fv4 ev gd E3 r3
          obtain ⟨h3, na3, ok, ev5, g5⟩ := back ev gd
          exact ⟨h3, hp1 v σ' (w3.sw a u ok) fe4 fv4 ev5 g5 (EnvR.swap (w' := w3.sw a u ok) h3 (hu.fz od) hu rfl rfl (fun m => na3 (List.mem_append_left _ m)) E3) (RepD.swap (w' := w3.sw a u ok) h3 (hu.fz od) hu rfl rfl x v fv4 (fun m => na3 (List.mem_append_right _ m)) r3)⟩)
      exact ⟨.ref a, hv, useJ (fun J H1 => tFor (fun _ H R => R J H) gt tb (LkE a od u D) σ H1) core⟩
    · obtain ⟨J, itJ, useJ⟩ := walk od w1 [] ha
      have core := for_core (σ₀ := σ₀) (σ := σ) (D := D) (o := o) (e' := e') (fe := f1) (fv := []) hg hb (by simpa using gd1) E1 itJ hf hp1
      exact .inr ⟨.ref a, hv, useJ (fun J H1 => tFor (fun _ H R => R J H) gt tb D σ H1) core⟩
  obtain ⟨v, hv, q⟩ := key
  exact q hv
theorem qs_forR {X : Cx} {t : TS} {m : MS} {x : Str} {p pos : Pos} {tg : Expr} {body : List Stmt} {g : TG} {mg : MG} {cs : List Nat} (i : Nat) (hp : PassesOwn (model X.prog X.w) X.A X.env X.xe) (hc : X.calm = true) (hi : QP K X (.Name x p) (tVar i) (mN i)) (hg : QG K X cs tg g mg) (hb : QSs K X body t m) (hs : ∀ y, foldedSetIterable (.Name x p) X.env y = pure y := by intro _; rfl) (hK : X.K = K := by rfl) :
    QS K X (.For tg (.Name x p) body [] pos) (tLockQ (tFor (iKeys (tVar i)) g t)) (sForR i mg m) := by
  subst hK
  exact ⟨ps_lockQ (ps_for hp hc (pi_keys hi.p) hg.p hb.p hs), js_forR i hg.j hb.j⟩
theorem w_forR {e : Z.Env} {i : Nat} {g : MG} {b : MS} {Q : Out → Z.Env → Prop} (h : W (mN i e) (fun x e1 => ∃ ps, keysP (.val x) = some ps ∧ W (forL g b ps e1) Q)) : W (sForR i g b e) Q := by
  obtain ⟨x, e1, h1, ps, h2, o, e2, h3, q⟩ := h
  exact ⟨o, e2, by simp only [sForR, h1, Option.bind_some, h2, h3], q⟩
theorem w_forL {e e1 : Z.Env} {i : Nat} {g : MG} {b : MS} {s : Sl} {d : D} {ps : List P} {Q : Out → Z.Env → Prop} (h : AtR e i s) (hd : s.dat = some d) (ho : owD d = true) (hk : keysP d = some ps) (hs : SetR e i .hol e1)
    (q : W (forL g b ps e1) (fun o e2 => AtR e2 i .hol ∧ ∃ e3, SetR e2 i s e3 ∧ Q o e3)) : W (sForL i g b e) Q := by
  obtain ⟨o, e2, h2, h3, e3, h4, q⟩ := q
  refine ⟨o, e3, ?_, q⟩
  simp only [sForL, h.eq, hd, if_pos ho, hk, Option.bind_some, hs.eq, h2, h3.eq, h4.eq]
end Z
namespace Z
open PySem.Spec PyProof.Rows L2 PySem
theorem w_fnil {g : MG} {b : MS} {e : Z.Env} {Q : Out → Z.Env → Prop} (q : Q .nx e) : W (forL g b [] e) Q := ⟨.nx, e, rfl, q⟩
theorem w_fcons {g : MG} {b : MS} {p : P} {ps : List P} {e e1 : Z.Env} {Q : Out → Z.Env → Prop} (hg : g (.val p) e = some e1) (h : W (b e1) (fun o e2 => o = .nx ∧ W (forL g b ps e2) Q)) : W (forL g b (p :: ps) e) Q := by
  obtain ⟨o, e2, h1, rfl, o3, e3, h3, q⟩ := h
  exact ⟨o3, e3, by simp only [forL, hg, h1, h3], q⟩
theorem w_orV {m n : M D} {e : Z.Env} {Q : D → Z.Env → Prop} (h : W (m e) (fun d e1 => ∃ x, d = .val (.bl x) ∧ (x = false → W (n e1) Q) ∧ (x = true → Q (.val (.bl true)) e1))) : W (mOrV m n e) Q := by
  obtain ⟨d, e1, h, x, rfl, h1, h2⟩ := h
  cases x with
  | false =>
    obtain ⟨y, e2, h3, q⟩ := h1 rfl
    exact ⟨y, e2, by simp [mOrV, mTb, h, h3], q⟩
  | true => exact ⟨_, e1, by simp [mOrV, mTb, h], h2 rfl⟩
theorem br_two {x : Bool} {a1 a2 b : MS} {e : Z.Env} {Q : Out → Z.Env → Prop} (I : Z.Env → Prop) (h1 : x = true → W (a1 e) (fun o e1 => o = .nx ∧ I e1)) (h2 : x = false → W (a2 e) (fun o e1 => o = .nx ∧ I e1)) (k : ∀ e1, I e1 → W (b e1) Q) :
    (x = true → W (a1 e) (fun o e1 => (o = .nx → W (b e1) Q) ∧ (o ≠ .nx → Q o e1))) ∧ (x = false → W (a2 e) (fun o e1 => (o = .nx → W (b e1) Q) ∧ (o ≠ .nx → Q o e1))) :=
  ⟨fun hx => (h1 hx).mono fun o e1 ⟨ho, hi⟩ => by subst ho; exact sq_nx (k e1 hi), fun hx => (h2 hx).mono fun o e1 ⟨ho, hi⟩ => by subst ho; exact sq_nx (k e1 hi)⟩
theorem w_cut {a b : MS} {e : Z.Env} {Q : Out → Z.Env → Prop} (I : Z.Env → Prop) (h : W (a e) (fun o e1 => o = .nx ∧ I e1)) (k : ∀ e1, I e1 → W (b e1) Q) : W (sSeq a b e) Q :=
  w_seq (h.mono fun o e1 ⟨ho, hi⟩ => by subst ho; exact sq_nx (k e1 hi))
theorem sl_one {ps : List P} {p : P} : gSl (.tup (p :: ps)) (some 1) none = some (.val (.tup ps)) := by
  have h : cutP (p :: ps) (some 1) none = ps := by
    have e1 : HT.sIx (p :: ps).length 0 (some 1) = 1 := by
      have := HT.sIx_nat (p :: ps).length 0 1
      rw [show ((1 : Nat) : Int) = 1 from rfl] at this
      rw [this]
      simp
    unfold cutP
    rw [e1, HT.sIx_none]
    simp
  exact o_slt h

theorem dats_strs (ss : List Str) : dats (ss.map .str) = some (ss.map .str) := by
  induction ss with
  | nil => rfl
  | cons n ns ih => simp [dats, dat, ih]
theorem lay_strs (ss : List Str) (h : ∀ s ∈ ss, PyData.strOk s = true) : PyData.canLayAll0 (ss.map .str) = true := by
  induction ss with
  | nil => rfl
  | cons n ns ih =>
    have := ih fun s hs => h s (List.mem_cons_of_mem _ hs)
    simp [PyData.canLayAll0, PyData.canLay0, this, h n List.mem_cons_self]
theorem dep_strs (ss : List Str) : PyData.depthAll (ss.map .str) = 0 := by
  induction ss with
  | nil => rfl
  | cons n ns ih => simp [PyData.depthAll, PyData.depth, ih]
theorem any_str (a : Str) (ss : List Str) : ((ss.map PyData.str).any fun z => PyData.eqv z (.str a)) = decide (a ∈ ss) := by
  induction ss with
  | nil => simp
  | cons g G ih =>
    simp only [List.map_cons, List.any_cons, ih, PyData.eqv, List.mem_cons]
    have e : (a = g) = (g = a) := propext eq_comm
    by_cases h : g = a <;> by_cases h2 : a ∈ G <;> simp [h, h2, e]
theorem o_inSt {a : Str} {ss : List Str} (ha : PyData.strOk a = true) (h : ∀ s ∈ ss, PyData.strOk s = true) : gIn (.str a) (.tup (ss.map .str)) = some (.val (.bl (decide (a ∈ ss)))) := by
  have h1 : SeqAt.shaped (.tuple (ss.map .str)) = true := by simp [SeqAt.shaped, PyData.canLay0, lay_strs ss h, PyData.depth, dep_strs]
  have h2 : SeqAt.shaped (.str a) = true := by simp [SeqAt.shaped, PyData.canLay0, PyData.depth, ha]
  simp only [gIn, inP, dat, dats_strs, Option.bind_some, h1, h2, and_self, if_true, any_str, Option.map_some]
theorem o_inS2 {a i j : Str} (ha : PyData.strOk a = true) (hi : PyData.strOk i = true) (hj : PyData.strOk j = true) : gIn (.str a) (.tup [.str i, .str j]) = some (.val (.bl (decide (a ∈ [i, j])))) :=
  o_inSt (ss := [i, j]) ha fun s hs => by
    rcases (List.mem_cons.mp hs) with (rfl | hs)
    · exact hi
    · rw [List.mem_singleton.mp hs]; exact hj
end Z
namespace Z
open PySem.Spec PyProof.Rows L2 PySem
theorem w_mid {a b : MS} {e : Z.Env} {Q : Out → Z.Env → Prop} (I : Z.Env → Prop) (h : W (a e) (fun o e1 => o = .nx ∧ I e1)) (k : ∀ e1, I e1 → W (b e1) Q) : W (a e) (fun o e1 => (o = .nx → W (b e1) Q) ∧ (o ≠ .nx → Q o e1)) :=
  h.mono fun o e1 ⟨ho, hi⟩ => by subst ho; exact sq_nx (k e1 hi)
theorem few_upL2 {ns D : List Int} (h : ∀ n ∈ ns, n ∈ D) : (upL ns).length ≤ D.length :=
  List.Nodup.length_le_of_subset (nd_up (up_upL ns)) fun k hk => h k ((mem_upL k ns).mp hk)
end Z
namespace Z
open PySem.Spec PyProof.Rows L2 PySem
theorem w_aug {g : P → P → Option D} {i : Nat} {m : M P} {e : Z.Env} {p : P} {Q : Out → Z.Env → Prop} (h : DatR e i (.val p)) (hm : W (m e) (fun y e1 => ∃ d, g p y = some d ∧ ∃ e2, SetR e1 i (.loc d) e2 ∧ Q .nx e2)) : W (sAug g i m e) Q := by
  obtain ⟨y, e1, h1, d, h2, e2, h3, q⟩ := hm
  have hv : valAt i e = some p := by
    have := h.eq
    unfold valAt
    obtain ⟨s, h4, h5⟩ := h.at
    rw [h4]
    cases s with
    | loc d => simp only [Sl.dat, Option.some.injEq] at h5; subst h5; rfl
    | par d => simp only [Sl.dat, Option.some.injEq] at h5; subst h5; rfl
    | _ => cases h5
  exact ⟨.nx, e2, by simp only [sAug, hv, Option.bind_some, h1, h2, gN_set h3, Option.map_some], q⟩
end Z
namespace Z
open PySem.Spec PyProof.Rows L2 PySem
variable {K : PySem.W.Frag}
def keysPs : List P → Option (List Key)
  | [] => some []
  | p :: ps => (keyP p).bind fun k => (keysPs ps).map (k :: ·)
theorem keysPs_v {w : Wd} : ∀ {ps : List P} {ks : List Key} {vs : List V}, keysPs ps = some ks → RepPs K w ps vs → vs = ks.map kV
  | [], ks, vs, h, r => by
    cases h
    exact r
  | p :: ps, ks, vs, h, r => by
    simp only [keysPs, Option.bind_eq_some_iff, Option.map_eq_some_iff] at h
    obtain ⟨k, h1, ks', h2, rfl⟩ := h
    obtain ⟨v0, r0, rfl, h3, h4⟩ := r
    rw [keyP_v h1 h3, keysPs_v h2 h4]
    rfl
def kyOf : P → Option Ky
  | .tup ps => (keysPs ps).map .t
  | p => (keyP p).map .k
theorem kyOf_v {w : Wd} {p : P} {y : Ky} {v : V} (h : kyOf p = some y) (r : RepP K w p v) : KeyV w.H y v := by
  cases p with
  | tup ps =>
    simp only [kyOf, Option.map_eq_some_iff] at h
    obtain ⟨ks, h1, rfl⟩ := h
    simp only [RepP, RepX] at r
    obtain ⟨a, vs, rfl, s, r⟩ := r
    rw [keysPs_v h1 r] at s
    exact ⟨a, rfl, s⟩
  | int i => cases h; exact r
  | str x => cases h; exact r
  | _ => cases h
def mKv (m : M P) : M Ky := fun e => (m e).bind fun x => (kyOf x.1).map fun k => (k, x.2)
theorem jk_v {t : TE} {m : M P} (h : JP K t m) : JK K t (mKv m) := by
  intro σ₀ σ w e f Q y e' E G hm hq
  simp only [mKv, Option.bind_eq_some_iff, Option.map_eq_some_iff] at hm
  obtain ⟨⟨p, e1⟩, h1, k, h2, h3⟩ := hm
  cases h3
  exact h σ₀ σ w e f Q p _ E G h1 fun v w1 f1 ev g E1 r => hq v w1 f1 ev g E1 (kyOf_v h2 r)
theorem qk_v {X : Cx} {a : Expr} {ta : TE} {ma : M P} (h : QP K X a ta ma) : QK K X a ta (mKv ma) := ⟨h.p, jk_v h.j⟩
theorem w_kv {e : Z.Env} {m : M P} {Q : Ky → Z.Env → Prop} (h : W (m e) (fun x e1 => ∃ k, kyOf x = some k ∧ Q k e1)) : W (mKv m e) Q := by
  obtain ⟨x, e1, h1, k, h2, q⟩ := h
  exact ⟨_, _, by simp [mKv, h1, h2], q⟩
theorem ky_t2 (a b : Int) : kyOf (tupI [a, b]) = some (.t [.inl a, .inl b]) := rfl

abbrev kI (s : List Int) : List Key := s.map Sum.inl
theorem kI_inj {a b : List Int} (h : kI a = kI b) : a = b := by
  induction a generalizing b with
  | nil => cases b with
    | nil => rfl
    | cons y ys => cases h
  | cons x xs ih => cases b with
    | nil => cases h
    | cons y ys =>
      simp only [kI, List.map_cons, List.cons.injEq] at h
      rw [Sum.inl.inj h.1, ih h.2]
def dS (S : List (List Int)) : D := .odT (S.map kI) (S.map fun _ => .val (.bl true))
def fS (S : List (List Int)) : P := .dT (S.map kI) (S.map fun _ => .bl true)
def addS (S : List (List Int)) (s : List Int) : List (List Int) := if s ∈ S then S else S ++ [s]
theorem mem_addS {S : List (List Int)} {s x : List Int} : x ∈ addS S s ↔ x ∈ S ∨ x = s := by
  unfold addS
  split
  · rename_i h
    constructor
    · exact .inl
    · rintro (h2 | rfl)
      · exact h2
      · exact h
  · simp
theorem nd_addS {S : List (List Int)} {s : List Int} (h : S.Nodup) : (addS S s).Nodup := by
  unfold addS
  split
  · exact h
  · rename_i hn
    exact List.nodup_append.mpr ⟨h, by simp, fun a ha b hb e => hn (by rw [List.mem_singleton.mp hb] at e; rwa [← e])⟩
def inS (S : List (List Int)) (s : List Int) : Option D := if s ∈ S then some (.val (.bl true)) else none
theorem inS_some (S : List (List Int)) (s : List Int) : (inS S s).isSome = decide (s ∈ S) := by
  unfold inS
  split <;> simp_all
theorem getL_S {γ : Type} (S : List (List Int)) (s : List Int) (c : γ) : getL (S.map kI) (S.map fun _ => c) (kI s) = if s ∈ S then some c else none := by
  induction S with
  | nil => rfl
  | cons x S ih =>
    show (if kI x = kI s then some c else getL (S.map kI) (S.map fun _ => c) (kI s)) = _
    by_cases e : x = s
    · subst e
      simp
    · rw [if_neg (fun h => e (kI_inj h)), ih]
      have : (s ∈ x :: S) = (s ∈ S) := propext ⟨fun h => (List.mem_cons.mp h).elim (fun z => absurd z.symm e) id, List.mem_cons_of_mem _⟩
      simp [this]
theorem dS_at (S : List (List Int)) (a b : Int) : dAt (dS S) (.t [.inl a, .inl b]) = some (inS S [a, b]) := congrArg some (getL_S S [a, b] (D.val (.bl true)))
theorem fS_at (S : List (List Int)) (a b : Int) : dAt (.val (fS S)) (.t [.inl a, .inl b]) = some (inS S [a, b]) := by
  have h := getL_S S [a, b] (P.bl true)
  show some ((getL (S.map kI) (S.map fun _ => P.bl true) (kI [a, b])).map D.val) = _
  rw [h]
  unfold inS
  split <;> rfl
theorem putL_S {γ : Type} (S : List (List Int)) (s : List Int) (c : γ) : putL (S.map kI) (S.map fun _ => c) (kI s) c = ((addS S s).map kI, (addS S s).map fun _ => c) := by
  induction S with
  | nil => rfl
  | cons x S ih =>
    show (if kI x = kI s then (kI x :: S.map kI, c :: S.map fun _ => c) else (kI x :: (putL (S.map kI) (S.map fun _ => c) (kI s) c).1, c :: (putL (S.map kI) (S.map fun _ => c) (kI s) c).2)) = _
    by_cases e : x = s
    · subst e
      rw [if_pos rfl, addS, if_pos List.mem_cons_self]
      rfl
    · rw [if_neg (fun h => e (kI_inj h)), ih]
      have hm : (s ∈ x :: S) ↔ s ∈ S := ⟨fun h => (List.mem_cons.mp h).elim (fun z => absurd z.symm e) id, List.mem_cons_of_mem _⟩
      unfold addS
      by_cases hs : s ∈ S
      · rw [if_pos hs, if_pos (hm.mpr hs)]
        rfl
      · rw [if_neg hs, if_neg (fun h => hs (hm.mp h))]
        rfl
theorem dS_put {S : List (List Int)} {a b : Int} (h : S.length < 10000000) : putD (dS S) (.t [.inl a, .inl b]) (.val (.bl true)) = some (dS (addS S [a, b])) := by
  unfold dS
  rw [putD_t (by simp) (by simpa using h)]
  have := putL_S S [a, b] (D.val (.bl true))
  show some (D.odT (putL (S.map kI) (S.map fun _ => D.val (.bl true)) (kI [a, b]) (.val (.bl true))).1 (putL (S.map kI) (S.map fun _ => D.val (.bl true)) (kI [a, b]) (.val (.bl true))).2) = _
  rw [this]
theorem dS_frz (S : List (List Int)) : frz (dS S) = fS S := by
  show P.dT _ (frzs (S.map fun _ => D.val (.bl true))) = _
  have : (S.map fun _ => D.val (.bl true)) = (S.map fun _ => P.bl true).map D.val := by rw [List.map_map]; rfl
  rw [this, frzs_map]
  rfl
theorem tup_ky (s : List Int) : (P.tup ((kI s).map kyP)) = tupI s := by
  simp only [kI, List.map_map, tupI]
  rfl
theorem dS_keys (S : List (List Int)) : keysP (dS S) = some (S.map tupI) := by
  show some ((S.map kI).map fun k => P.tup (k.map kyP)) = _
  rw [List.map_map]
  exact congrArg some (List.map_congr_left fun s _ => tup_ky s)
theorem fS_keys (S : List (List Int)) : keysP (.val (fS S)) = some (S.map tupI) := dS_keys S
def dL (ns : List Int) (ps : List P) : D := .odK (ns.map Sum.inl) (ps.map .val)
def fL (ns : List Int) (ps : List P) : P := .dK (ns.map Sum.inl) ps
theorem dL_frz (ns : List Int) (ps : List P) : frz (dL ns ps) = fL ns ps := by
  show P.dK _ (frzs (ps.map .val)) = _
  rw [frzs_map]
  rfl
theorem putL_new {κ : Type} [DecidableEq κ] {α : Type} : ∀ (ks : List κ) (xs : List α) (k : κ) (x : α), ks.length = xs.length → k ∉ ks → putL ks xs k x = (ks ++ [k], xs ++ [x])
  | [], [], k, x, _, _ => rfl
  | [], _ :: _, k, x, h, _ => by simp at h
  | _ :: _, [], k, x, h, _ => by simp at h
  | a :: ks, y :: xs, k, x, h, hn => by
    show (if a = k then (a :: ks, x :: xs) else (a :: (putL ks xs k x).1, y :: (putL ks xs k x).2)) = _
    rw [if_neg (fun e => hn (by rw [e]; exact List.mem_cons_self)), putL_new ks xs k x (by simpa using h) fun m => hn (List.mem_cons_of_mem _ m)]
    rfl
theorem dL_put {ns : List Int} {ps : List P} {k : Int} {p : P} (h1 : ns.length = ps.length) (h2 : ns.length < 10000000) (hn : k ∉ ns) : putD (dL ns ps) (.k (.inl k)) (.val p) = some (dL (ns ++ [k]) (ps ++ [p])) := by
  unfold dL
  rw [putD_k (by simp [h1]) (by simpa using h2), putL_new _ _ _ _ (by simp [h1]) (fun m => by
    obtain ⟨x, hx, e⟩ := List.mem_map.mp m
    cases e
    exact hn hx)]
  simp
theorem getL_find {β α : Type} (A : List β) (hd : β → Int) (f : β → α) (l : Int) : getL (A.map fun g => (Sum.inl (hd g) : Key)) (A.map f) (.inl l) = (A.find? fun g => decide (hd g = l)).map f := by
  induction A with
  | nil => rfl
  | cons x A ih =>
    show (if (Sum.inl (hd x) : Key) = .inl l then some (f x) else getL (A.map fun g => (Sum.inl (hd g) : Key)) (A.map f) (.inl l)) = _
    by_cases e : hd x = l
    · subst e
      simp
    · rw [if_neg (fun h => e (Sum.inl.inj h)), ih, List.find?_cons_of_neg (by simpa using e)]
theorem fL_at {β : Type} (A : List β) (hd : β → Int) (f : β → P) (l : Int) : dAt (.val (fL (A.map hd) (A.map f))) (.k (.inl l)) = some ((A.find? fun g => decide (hd g = l)).map fun g => .val (f g)) := by
  show some ((getL ((A.map hd).map Sum.inl) (A.map f) (.inl l)).map D.val) = _
  rw [List.map_map]
  have := getL_find A hd f l
  rw [show ((Sum.inl : Int → Key) ∘ hd) = (fun g => (Sum.inl (hd g) : Key)) from rfl, this, Option.map_map]
  rfl
end Z
namespace Z
open PySem.Spec PyProof.Rows L2 PySem
section
variable {e e' : Z.Env} {i : Nat} {as : List Ar} {Q : List D → Z.Env → Prop} {S : List (List Int)}
theorem tk_locS (ha : AtR e i (.loc (dS S))) (hs : SetR e i .un e') (h : Tk as e' (fun ds e2 => Q (dS S :: ds) e2)) : Tk (.r i :: as) e Q := by
  obtain ⟨ds, e2, h, q⟩ := h
  exact ⟨_, _, by simp only [takeR, ha.eq, Sl.dat, dS, Sl.out, hs.eq, h]; rfl, q⟩
end
end Z
namespace Z
open PySem.Spec PyProof.Rows L2 PySem
theorem w_grd {c : M Bool} {m : M D} {b : MS} {e : Z.Env} {Q : Out → Z.Env → Prop} (p : Prop) (h : W (c e) (fun y e1 => e1 = e ∧ (y = true → p) ∧ (y = false → ¬ p))) (ha : p → W (m e) (fun d e1 => Q (.ret d) e1)) (hb : ¬ p → W (b e) Q) :
    W (sIf c (sRet m) sNil e) (fun o e1 => (o = .nx → W (b e1) Q) ∧ (o ≠ .nx → Q o e1)) :=
  w_ifB p h (fun hp => w_ret ((ha hp).mono fun d e1 hq => ⟨fun no => (nomatch no), fun _ => hq⟩)) fun hp => ⟨.nx, e, rfl, sq_nx (hb hp)⟩
end Z
namespace Z
open PySem.Spec PyProof.Rows L2 PySem
variable {X : Cx} {K : W.Frag}
theorem q_mu0 {x : Str} {p apos pos : Pos} {name : Str} {id : String} {r : V → List V → Hp → VK → Prop} {h : List D → List D → Option (D × List D)} (i : Nat) (slot : Slot "list" name id) (hty : typeOf (.builtin id) = pure (.type "method_descriptor")) (hm : MtR X id r) (hh : SMu K r h)
    (hN : X.N[i]? = some x := by rfl) (hv : Vis X.env.scope x := by first | exact Or.inl rfl | exact Or.inr (Or.inl rfl) | exact Or.inr (Or.inr rfl)) (hd : (x == ("__debug__" : Str)) = false := by decide) (hcd : (x == ("__classdict__" : Str)) = false := by decide)
    (hbase : attributeBase (.Name x p) name X.env (eval (.Name x p) X.env) = eval (.Name x p) X.env := by rfl)
    (hline : (apos.endLine == pos.line) = true := by rfl) (hK : X.K = K := by rfl) :
    QE K X (.Call (.Attribute (.Name x p) name apos) [] [] pos) (tBM K "list" r (tVar i) tNil) (mMu h i mLnil) := by
  subst hK
  exact ⟨pe_bm0 PySem.F.plainAttrs_list slot hty hm (pe_var hN hv hd hcd) hbase hline, je_mu hh jl_nil⟩
theorem pop_end {ps : List P} {p : P} : hPop ((ps ++ [p]).map .val) [] = some (.val p, ps.map .val) := by
  simp [hPop]
end Z
namespace Z
open PySem.Spec PyProof.Rows L2 PySem

end Z
namespace ZS
open PySem PyProof.Rows L2 PySem.Calls SrtO
section
variable {P : Program} {w : World} {A : Around} {E : Value → Shared → Prop} {sh : Shared}
end
end ZS

namespace ZS
open PySem PyProof.Rows L2 PySem.Calls SrtO
section
variable {P : Program} {w : World} {A : Around} {E : Value → Shared → Prop} {sh : Shared}
end
end ZS
namespace Z
open PySem.Spec PyProof.Rows L2 PySem
variable {K : PySem.W.Frag}
end Z
namespace ZS
open PySem PyProof.Rows L2 PySem.Calls
theorem extend_tup (l : Addr) (items : Array Value) (n : Nat) (b : Addr) (items2 : Array Value) (n2 : Nat) (dd : Option Addr) (sl : Array (Option Value)) (a0 : ¬(!items.isEmpty && Builtin.List.listTooLong (items.size + items2.size)) = true) (a1 : items.size ≤ sizeLine) (a2 : items.size + items2.size ≤ sizeLine + 1) :
    Meets (Builtin.«list.extend» ⟨[.ref l, .ref b], []⟩) (fun _ R s => s.heap.get? l = some { cls := .type "list", dict := none, data := .seq items n, slots := #[] } ∧ s.heap.get? b = some { cls := .type "tuple", dict := dd, data := .seq items2 n2, slots := sl } ∧
      R (.ok (.ret Value.none)) { s with heap := s.heap.update l (Obj.mapSeq fun x => x ++ items2), toks := s.toks }) :=
  .of_wp fun pg wd ar R s h => by
    obtain ⟨hp, g, d, tk, os⟩ := (s)
    obtain ⟨hl, hb, h⟩ := h
    have f5 := F.sub_list_tuple
    have f4 := F.sub_tuple_list
    have f3 := F.sub_list_list
    have f2 := F.sub_tuple_tuple
    have hz : (items ++ items2).size ≤ sizeLine + 1 := by
      rw [Array.size_append]
      exact a2
    wp_walk using (wpAny_updateSeq hl rfl (hz := a1) (_hz' := hz)), wpAny_loadPart' hl, wpAny_loadPart' hb
    exact ⟨_, rfl, h⟩
end ZS
namespace Z
open PySem.Spec PyProof.Rows L2 PySem
variable {K : PySem.W.Frag}
section
variable {X : Cx}
theorem call_setdT {pins : List (Addr × Obj)} {σ : L2.St} {H : Hp} {s : Shared} {a b : Addr} {u : Value} {d : V} {k : List Key} {kvs : List (List Key × V)} {Q : Value → Shared → Prop} (hu : X.A.units + 1 < cLine) (I : Inv X pins σ H s) (e : H a = some (.dT kvs)) (hb : H b = some (.tup (k.map kV))) (rd : RelV d u) (hl : kvs.length < sizeLine)
    (h1 : ∀ v, valV kvs k = some v → ∀ (w' : Value) (s' : Shared), Inv X pins σ H s' → RelV v w' → Q w' s') (h2 : valV kvs k = none → ∀ (w' : Value) (s' : Shared), Inv X pins σ (upd H a (.dT (putK kvs k d))) s' → RelV d w' → Q w' s') :
    wpAny (model X.prog X.w) X.A (call (.builtin "dict.setdefault") [.ref a, .ref b, u]) Q X.xe s := by
  obtain ⟨z, hd, xs, rel, dd⟩ := (dt_of I.hok e)
  have hz : xs.length ≤ sizeLine := by
    rw [← Paired.length rel]; exact z
  refine call_setdefault_heap (knd := tupleKind (mixKind X.prog X.w)) (tupleKind_room_in1 hu) (key_of I.hok hb) hd dd (fun p hp => ?_) (fun hn h' dd' hs => ?_) hz
  · have q := rel.val k
    rw [hp] at q
    cases q0 : valV kvs k with
    | none =>
      rw [q0] at q
      exact False.elim q
    | some v0 =>
      rw [q0] at q
      exact (h1 v0 q0 _ _ (I.tok _) q)
  · have q := rel.val k
    rw [hn] at q
    cases q0 : valV kvs k with
    | some v0 =>
      rw [q0] at q
      exact False.elim q
    | none =>
      have z2 : (putK kvs k d).length ≤ sizeLine := by
        have := length_putK kvs k d
        omega
      obtain ⟨o, es, ep, hq, a2, a3, a4, _, a5⟩ := dd'
      have I2 : Inv X pins σ (upd H a (.dT (putK kvs k d))) { s with heap := h', toks := s.toks + (tupleKind (mixKind X.prog X.w)).draws k } :=
        d_write I (by rw [e]; exact True.intro) hs ⟨o, hq⟩ ⟨z2, hd, _, (rel.put k hb rd).keeps (fun c ys ec => (by rw [upd_ne (ne_of ec e (fun z => nomatch z))]; exact ec)), o, es, ep, hq, a2, a3, a4, a5⟩
      exact h2 q0 _ _ I2 rd
def rSetdZ : V → List V → Hp → VK → Prop := fun x vs H Q => ∃ (a : Addr) (vy z : V), x = .ref a ∧ vs = [vy, z] ∧
  ((∃ (kvs : List (Key × V)) (k : Key), H a = some (.dK kvs) ∧ vy = kV k ∧ kvs.length < sizeLine ∧ (∀ v, valV kvs k = some v → Q v H) ∧ (valV kvs k = none → Q z (upd H a (.dK (putK kvs k z))))) ∨
   (∃ (kvs : List (List Key × V)) (k : List Key) (b : Addr), H a = some (.dT kvs) ∧ vy = .ref b ∧ H b = some (.tup (k.map kV)) ∧ kvs.length < sizeLine ∧ (∀ v, valV kvs k = some v → Q v H) ∧ (valV kvs k = none → Q z (upd H a (.dT (putK kvs k z))))))
theorem mt_setdZ (hu : X.A.units + 1 < cLine) : MtR X "dict.setdefault" rSetdZ := by
  intro pins s σ H x xs v us Q
  intro I rx rxs h
  obtain ⟨a, vy, z, rfl, rfl, h⟩ := h
  cases rx
  obtain ⟨u1, u2, rfl, r1, r2⟩ := (vals2 rxs)
  rcases h with ⟨kvs, k, ha, rfl, hl, q1, q2⟩ | ⟨kvs, k, b, ha, rfl, hb, hl, q1, q2⟩
  · exact d_setd I ha r1 r2 hl (fun v hv w' s' I' rw' => ⟨v, _, I', rw', q1 v hv⟩) fun hn w' s' I' rw' => ⟨z, _, I', rw', q2 hn⟩
  · cases r1
    exact call_setdT hu I ha hb r2 hl (fun v hv w' s' I' rw' => ⟨v, _, I', rw', q1 v hv⟩) fun hn w' s' I' rw' => ⟨z, _, I', rw', q2 hn⟩
def rExtZ (K : PySem.W.Frag) : V → List V → Hp → VK → Prop := fun x vs H Q => rExtend x vs H Q ∨ ∃ (l b : Addr) (xs zs : List V), x = .ref l ∧ vs = [.ref b] ∧ H l = some (.lst xs) ∧ SqT K H b zs ∧ xs.length + zs.length ≤ sizeLine ∧ Q .non (upd H l (.lst (xs ++ zs)))
theorem mt_extZ : MtR X "list.extend" (rExtZ X.K) := by
  intro pins s σ H x vs v us Q
  intro I rx rv h
  rcases h with h | ⟨l, b, xs, zs, rfl, rfl, hH, hB, hz, q⟩
  · exact mt_extend pins s σ H x vs v us Q I rx rv h
  cases rx
  obtain ⟨u, rfl, ru⟩ := rv.one
  cases ru
  obtain ⟨z, its, n, r, hl, e⟩ := (I.lstM hH)
  obtain ⟨its2, r2, hp, z2⟩ := I.tuple hB
  obtain ⟨⟨oc, od, oda, os⟩, e2, c2, n2, d2⟩ := hp
  simp only at c2 d2
  subst c2
  subst d2
  have hl2 := r2.length
  have hsz : its.toArray.size + its2.toArray.size ≤ sizeLine := (by rw [List.size_toArray, List.size_toArray]; omega)
  refine call_meets F.slot_list_extend ⟨_, e, rfl⟩ F.entry_list_extend (F.args_list_extend_2 _ _) (ZS.extend_tup l its.toArray n b its2.toArray n2 od os (fun no => by rw [notLongL hsz, Bool.and_false] at no; exact Bool.false_ne_true no) (by rw [List.size_toArray]; omega) (by omega)) ⟨e, e2, ?_⟩
  refine (⟨.non, _, I.lset (its' := its ++ its2) hH e (by simp) (r.append r2) ?_, rfl, q⟩)
  rw [List.length_append]
  omega
end
end Z
namespace Z
open PySem.Spec PyProof.Rows L2 PySem
variable {K : PySem.W.Frag}
def hExt : List D → List D → Option (D × List D)
  | ds, [.val (.lst ps)] => if ds.length + ps.length ≤ sizeLine then some (.val .non, ds ++ ps.map .val) else none
  | ds, [.val (.tup ps)] => if ds.length + ps.length ≤ sizeLine then some (.val .non, ds ++ ps.map .val) else none
  | _, _ => none
theorem smu_ext : SMu K (rExtZ K) hExt := by
  intro w a vs ds g as us ga Q d ds' ha r ra h q
  unfold hExt at h
  split at h
  · rename_i ps
    split at h
    · rename_i hz
      cases h
      obtain ⟨v, r1, f1, f2, rfl, rfl, h1, h2⟩ := ra
      obtain ⟨rfl, rfl⟩ := h2
      simp only [RepD, RepP, RepX] at h1
      obtain ⟨rfl, b, zs, rfl, _, hb, rx⟩ := h1
      have rs := RepPs.vals (K := K) (w := w) rx
      have hl : zs.length = ps.length := (RepPs.length (K := K) (w := w) rx).symm
      exact .inl ⟨a, b, vs, zs, rfl, rfl, ha, hb, by rw [hl, ← r.length]; exact hz, q .non (vs ++ zs) [] (g ++ []) [] (by simp) ⟨rfl, rfl⟩ (r.append rs)⟩
    · cases h
  · rename_i ps
    split at h
    · rename_i hz
      cases h
      obtain ⟨v, r1, f1, f2, rfl, rfl, h1, h2⟩ := ra
      obtain ⟨rfl, rfl⟩ := h2
      simp only [RepD, RepP, RepX] at h1
      obtain ⟨rfl, b, zs, rfl, hb, rx⟩ := h1
      have rs := RepPs.vals (K := K) (w := w) rx
      have hl : zs.length = ps.length := (RepPs.length (K := K) (w := w) rx).symm
      exact .inr ⟨a, b, vs, zs, rfl, rfl, ha, tq hb, by rw [hl, ← r.length]; exact hz, q .non (vs ++ zs) [] (g ++ []) [] (by simp) ⟨rfl, rfl⟩ (r.append rs)⟩
    · cases h
  · cases h
theorem o_extL {ds : List D} {ps : List P} (h : ds.length + ps.length ≤ 1000000) : hExt ds [.val (.lst ps)] = some (.val .non, ds ++ ps.map .val) := if_pos (Nat.le_trans h (by rw [sizeLine_eq]; decide))
section
variable {κ : Type} [hdec : DecidableEq κ]
theorem putL_nw {α : Type} : ∀ (ks : List κ) (xs : List α) (k : κ) (y : α), ks.length = xs.length → getL ks xs k = none → putL ks xs k y = (ks ++ [k], xs ++ [y])
  | [], [], _, _, _, _ => rfl
  | [], _ :: _, _, _, h, _ => by simp at h
  | _ :: _, [], _, _, h, _ => by simp at h
  | j :: ks, x :: xs, k, y, h, e => by
    simp only [getL] at e
    split at e
    · cases e
    · rename_i ne
      simp only [putL, if_neg ne, putL_nw ks xs k y (by simpa using h) e, List.cons_append]
theorem key_rep {w : Wd} : ∀ {ds : List D} {vs : List V} {f : List Addr} {ks : List κ} {k : κ} {es : List D}, RepDs K w ds vs f → getL ks ds k = some (.olst es) →
    ∃ b us g rest, getL ks vs k = some (.ref b) ∧ w.H b = some (.lst us) ∧ RepDs K w es us g ∧ f.Perm ((b :: g) ++ rest) ∧
      ∀ w' xs us' gs, Keeps w w' rest → w'.H b = some (.lst us') → RepDs K w' xs us' gs → ∃ f', f'.Perm ((b :: gs) ++ rest) ∧ RepDs K w' (putL ks ds k (.olst xs)).2 vs f'
  | [], _, _, ks, k, es, _, h => by cases ks <;> cases h
  | _ :: _, _, _, [], k, es, _, h => by cases h
  | d0 :: ds, vs, f, j :: ks, k, es, r, h => by
    obtain ⟨v0, r0, f1, f2, rfl, rfl, h1, h2⟩ := r
    simp only [getL] at h ⊢
    split at h
    · rename_i e
      cases h
      simp only [RepD] at h1
      obtain ⟨b, us, g, rfl, hb, rfl, rs⟩ := h1
      refine ⟨b, us, g, f2, by rw [if_pos e], hb, rs, by simp, fun w' xs us' gs kp h3 h4 => ⟨(b :: gs) ++ f2, by simp, ?_⟩⟩
      simp only [putL, if_pos e]
      refine ⟨.ref b, r0, b :: gs, f2, rfl, rfl, ?_, h2.keeps ds r0 f2 kp⟩
      simp only [RepD]
      exact ⟨b, us', gs, rfl, h3, rfl, h4⟩
    · rename_i e
      obtain ⟨b, us, g, rest, a1, a2, a3, a4, a5⟩ := key_rep h2 h
      refine ⟨b, us, g, f1 ++ rest, by rw [if_neg e]; exact a1, a2, a3, ?_, fun w' xs us' gs kp h3 h4 => ?_⟩
      · rw [List.perm_iff_count] at a4 ⊢
        intro c
        have := a4 c
        simp only [List.count_append, List.count_cons] at this ⊢
        omega
      · obtain ⟨f', c1, c2⟩ := a5 w' xs us' gs (kp.weak fun a m => by simp [m]) h3 h4
        refine ⟨f1 ++ f', ?_, ?_⟩
        · rw [List.perm_iff_count] at c1 ⊢
          intro c
          have := c1 c
          simp only [List.count_append, List.count_cons] at this ⊢
          omega
        · simp only [putL, if_neg e]
          exact ⟨v0, r0, f1, f', rfl, rfl, h1.keeps d0 v0 f1 (kp.weak fun a m => by simp [m]), c2⟩
end
def dLs : D → Ky → Option (List D)
  | .odK ks ds, .k k => match getL ks ds k with
    | some (.olst es) => some es
    | _ => none
  | .odT ks ds, .t k => match getL ks ds k with
    | some (.olst es) => some es
    | _ => none
  | _, _ => none
def dSd : D → Ky → Option D
  | .odK ks ds, .k k => match getL ks ds k with
    | some _ => if ks.length < sizeLine then some (.odK ks ds) else none
    | none => if ks.length < sizeLine then some (.odK (ks ++ [k]) (ds ++ [.olst []])) else none
  | .odT ks ds, .t k => match getL ks ds k with
    | some _ => if ks.length < sizeLine then some (.odT ks ds) else none
    | none => if ks.length < sizeLine then some (.odT (ks ++ [k]) (ds ++ [.olst []])) else none
  | _, _ => none
def dSt : D → Ky → List D → Option D
  | .odK ks ds, .k k, xs => some (.odK ks (putL ks ds k (.olst xs)).2)
  | .odT ks ds, .t k, xs => some (.odT ks (putL ks ds k (.olst xs)).2)
  | _, _, _ => none
theorem dls_rep {w : Wd} {d : D} {v : V} {f : List Addr} {y : Ky} {es : List D} (r : RepD K w d v f) (h : dLs d y = some es) :
    ∃ a b us g rest, v = .ref a ∧ (match y with | .k k => ∃ kvs, w.H a = some (.dK kvs) ∧ valV kvs k = some (.ref b) | .t k => ∃ kvs, w.H a = some (.dT kvs) ∧ valV kvs k = some (.ref b)) ∧ w.H b = some (.lst us) ∧ RepDs K w es us g ∧ f.Perm ((b :: g) ++ rest) ∧
      ∀ w' xs us' gs, Keeps w w' rest → w'.H b = some (.lst us') → RepDs K w' xs us' gs → ∃ d' f', dSt d y xs = some d' ∧ f'.Perm ((b :: gs) ++ rest) ∧ RepD K w' d' v f' := by
  cases d with
  | odK ks ds => cases y with
    | k k =>
      simp only [dLs] at h
      split at h
      · rename_i e2 hg
        cases h
        simp only [RepD] at r
        obtain ⟨a, kvs, g0, rfl, ha, rfl, hks, rs⟩ := r
        obtain ⟨b, us, g, rest, a1, a2, a3, a4, a5⟩ := key_rep rs hg
        refine ⟨a, b, us, g, a :: rest, rfl, ⟨kvs, ha, by rw [valV_getL, hks.1]; exact a1⟩, a2, a3, ?_, fun w' xs us' gs kp h3 h4 => ?_⟩
        · rw [List.perm_iff_count] at a4 ⊢
          intro c
          have := a4 c
          simp only [List.count_append, List.count_cons] at this ⊢
          omega
        · obtain ⟨f', c1, c2⟩ := a5 w' xs us' gs (kp.weak fun a m => by simp [m]) h3 h4
          refine ⟨_, a :: f', rfl, ?_, ?_⟩
          · rw [List.perm_iff_count] at c1 ⊢
            intro c
            have := c1 c
            simp only [List.count_append, List.count_cons] at this ⊢
            omega
          · simp only [RepD]
            exact ⟨a, kvs, f', rfl, kp.own a (by simp) _ ha, rfl, hks, c2⟩
      · cases h
    | t k => cases h
  | odT ks ds => cases y with
    | k k => cases h
    | t k =>
      simp only [dLs] at h
      split at h
      · rename_i e2 hg
        cases h
        simp only [RepD] at r
        obtain ⟨a, kvs, g0, rfl, ha, rfl, hks, rs⟩ := r
        obtain ⟨b, us, g, rest, a1, a2, a3, a4, a5⟩ := key_rep rs hg
        refine ⟨a, b, us, g, a :: rest, rfl, ⟨kvs, ha, by rw [valV_getL, hks.1]; exact a1⟩, a2, a3, ?_, fun w' xs us' gs kp h3 h4 => ?_⟩
        · rw [List.perm_iff_count] at a4 ⊢
          intro c
          have := a4 c
          simp only [List.count_append, List.count_cons] at this ⊢
          omega
        · obtain ⟨f', c1, c2⟩ := a5 w' xs us' gs (kp.weak fun a m => by simp [m]) h3 h4
          refine ⟨_, a :: f', rfl, ?_, ?_⟩
          · rw [List.perm_iff_count] at c1 ⊢
            intro c
            have := c1 c
            simp only [List.count_append, List.count_cons] at this ⊢
            omega
          · simp only [RepD]
            exact ⟨a, kvs, f', rfl, kp.own a (by simp) _ ha, rfl, hks, c2⟩
      · cases h
  | _ => cases y <;> cases h

theorem setd_odK {w : Wd} {ks : List Key} {ds : List D} {d1 : D} {a : Addr} {fi : List Addr} {k : Key} {vy : V} {l : Addr} {es : List D} {R : VK} (rv : RepD K w (.odK ks ds) (.ref a) fi) (kv : KeyV w.H (.k k) vy) (hl : w.H l = some (.lst [])) (G : Good w (l :: fi)) (h1 : dSd (.odK ks ds) (.k k) = some d1) (he : dLs d1 (.k k) = some es)
    (q : ∀ (w' : Wd) (b : Addr) (f1 : List Addr), Ev (l :: fi) w w' f1 → Good w' f1 → RepD K w' d1 (.ref a) f1 → (∃ kvs, w'.H a = some (.dK kvs) ∧ valV kvs k = some (.ref b)) → R (.ref b) w'.H) : rSetdZ (.ref a) [vy, .ref l] w.H R := by
  have rv0 := rv
  simp only [RepD] at rv
  obtain ⟨a', kvs, g, e0, ha, rfl, ⟨hk1, hk2⟩, rs⟩ := rv
  cases e0
  have hlen : ks.length = ds.length := by
    have z1 := congrArg List.length hk1
    have z2 := rs.length
    rw [List.length_map] at z1 z2
    omega
  have hkl : kvs.length = ks.length := by
    have z1 := congrArg List.length hk1
    rwa [List.length_map] at z1
  simp only [dSd] at h1
  refine ⟨a, vy, .ref l, rfl, rfl, .inl ?_⟩
  split at h1
  · rename_i x hg
    split at h1
    · rename_i hz
      cases h1
      obtain ⟨a2, b, us, g2, rest, e1, ⟨kvs2, c1, c2⟩, _, _, _, _⟩ := dls_rep rv0 he
      cases e1
      rw [ha] at c1
      cases c1
      have fin : R (.ref b) w.H := q w b _ ((Ev.refl (l :: a :: g) w).less fun c m => List.mem_cons_of_mem _ m) (G.sublist (List.sublist_cons_self l _)) rv0 ⟨kvs, ha, c2⟩
      have kv : vy = kV k := kv
      refine ⟨kvs, k, ha, kv, by rw [hkl]; exact hz, fun v hv => ?_, fun hn => ?_⟩
      · rw [c2] at hv
        cases hv
        exact fin
      · rw [c2] at hn
        cases hn
    · cases h1
  · rename_i hg
    split at h1
    · rename_i hz
      cases h1
      have hgv : getL ks (kvs.map (·.2)) k = none := rs.getN hg
      have hvn : valV kvs k = none := by rw [valV_getL, hk1]; exact hgv
      have hlv : ks.length = (kvs.map (·.2)).length := by rw [List.length_map]; exact hkl.symm
      obtain ⟨p1, p2⟩ := putK_putL kvs k (.ref l) (by rw [hk1]; exact hk2)
      rw [hk1, putL_nw ks _ k (.ref l) hlv hgv] at p1 p2
      have hnk : k ∉ ks := fun m => by
        have := (getL_mem ks _ k hlv).mpr m
        rw [hgv] at this
        cases this
      have nd := G.nd
      have hla : l ≠ a := fun e => (List.nodup_cons.mp nd).1 (by simp [e])
      have hlg : l ∉ g := fun m => (List.nodup_cons.mp nd).1 (List.mem_cons_of_mem _ m)
      have hag : a ∉ g := (List.nodup_cons.mp (List.nodup_cons.mp nd).2).1
      have hF := (G.own a (by simp)).1
      have kp : ∀ f, a ∉ f → Keeps w (w.put a (.dK (putK kvs k (.ref l))) (.inl rfl)) f := fun f hf => Keeps.put rfl ha hF rfl hf
      have pm : (l :: a :: g).Perm (a :: (g ++ [l])) := (List.Perm.swap a l g).trans (List.Perm.cons a (List.perm_append_singleton l g).symm)
      have fin : R (.ref l) (upd w.H a (.dK (putK kvs k (.ref l)))) := by
        refine q (w.put a (.dK (putK kvs k (.ref l))) (.inl rfl)) l (a :: (g ++ [l])) ((Ev.put rfl ha (by simp)).less fun c m => pm.mem_iff.mpr m) ((G.perm pm).put rfl) ?_ ⟨_, upd_same, ?_⟩
        · simp only [RepD]
          refine ⟨a, putK kvs k (.ref l), g ++ [l], rfl, upd_same, rfl, ⟨p1, ?_⟩, ?_⟩
          · exact List.nodup_append.mpr ⟨hk2, by simp, fun x hx y hy e => by
              rw [List.mem_singleton.mp hy] at e
              exact hnk (e ▸ hx)⟩
          · rw [p2]
            refine (rs.keeps ds _ g (kp g hag)).append (RepDs.one ?_)
            simp only [RepD]
            refine ⟨l, [], [], rfl, ?_, rfl, rfl, rfl⟩
            show upd w.H a _ l = _
            rw [upd_ne hla]
            exact hl
        · rw [valV_getL, p1, p2]
          have z := getL_putL ks (kvs.map (·.2)) k (.ref l) hlv k
          rw [putL_nw ks _ k (.ref l) hlv hgv, if_pos rfl] at z
          exact z
      have kv : vy = kV k := kv
      refine ⟨kvs, k, ha, kv, by rw [hkl]; exact hz, fun v hv => ?_, fun hn => fin⟩
      rw [hvn] at hv
      cases hv
    · cases h1

theorem setd_odT {w : Wd} {ks : List (List Key)} {ds : List D} {d1 : D} {a : Addr} {fi : List Addr} {k : List Key} {vy : V} {l : Addr} {es : List D} {R : VK} (rv : RepD K w (.odT ks ds) (.ref a) fi) (kv : KeyV w.H (.t k) vy) (hl : w.H l = some (.lst [])) (G : Good w (l :: fi)) (h1 : dSd (.odT ks ds) (.t k) = some d1) (he : dLs d1 (.t k) = some es)
    (q : ∀ (w' : Wd) (b : Addr) (f1 : List Addr), Ev (l :: fi) w w' f1 → Good w' f1 → RepD K w' d1 (.ref a) f1 → (∃ kvs, w'.H a = some (.dT kvs) ∧ valV kvs k = some (.ref b)) → R (.ref b) w'.H) : rSetdZ (.ref a) [vy, .ref l] w.H R := by
  have rv0 := rv
  simp only [RepD] at rv
  obtain ⟨a', kvs, g, e0, ha, rfl, ⟨hk1, hk2⟩, rs⟩ := rv
  cases e0
  have hlen : ks.length = ds.length := by
    have z1 := congrArg List.length hk1
    have z2 := rs.length
    rw [List.length_map] at z1 z2
    omega
  have hkl : kvs.length = ks.length := by
    have z1 := congrArg List.length hk1
    rwa [List.length_map] at z1
  simp only [dSd] at h1
  refine ⟨a, vy, .ref l, rfl, rfl, .inr ?_⟩
  split at h1
  · rename_i x hg
    split at h1
    · rename_i hz
      cases h1
      obtain ⟨a2, b, us, g2, rest, e1, ⟨kvs2, c1, c2⟩, _, _, _, _⟩ := dls_rep rv0 he
      cases e1
      rw [ha] at c1
      cases c1
      have fin : R (.ref b) w.H := q w b _ ((Ev.refl (l :: a :: g) w).less fun c m => List.mem_cons_of_mem _ m) (G.sublist (List.sublist_cons_self l _)) rv0 ⟨kvs, ha, c2⟩
      obtain ⟨bk, rfl, hbk⟩ := kv
      refine ⟨kvs, k, bk, ha, rfl, hbk, by rw [hkl]; exact hz, fun v hv => ?_, fun hn => ?_⟩
      · rw [c2] at hv
        cases hv
        exact fin
      · rw [c2] at hn
        cases hn
    · cases h1
  · rename_i hg
    split at h1
    · rename_i hz
      cases h1
      have hgv : getL ks (kvs.map (·.2)) k = none := rs.getN hg
      have hvn : valV kvs k = none := by rw [valV_getL, hk1]; exact hgv
      have hlv : ks.length = (kvs.map (·.2)).length := by rw [List.length_map]; exact hkl.symm
      obtain ⟨p1, p2⟩ := putK_putL kvs k (.ref l) (by rw [hk1]; exact hk2)
      rw [hk1, putL_nw ks _ k (.ref l) hlv hgv] at p1 p2
      have hnk : k ∉ ks := fun m => by
        have := (getL_mem ks _ k hlv).mpr m
        rw [hgv] at this
        cases this
      have nd := G.nd
      have hla : l ≠ a := fun e => (List.nodup_cons.mp nd).1 (by simp [e])
      have hlg : l ∉ g := fun m => (List.nodup_cons.mp nd).1 (List.mem_cons_of_mem _ m)
      have hag : a ∉ g := (List.nodup_cons.mp (List.nodup_cons.mp nd).2).1
      have hF := (G.own a (by simp)).1
      have kp : ∀ f, a ∉ f → Keeps w (w.put a (.dT (putK kvs k (.ref l))) (.inl rfl)) f := fun f hf => Keeps.put rfl ha hF rfl hf
      have pm : (l :: a :: g).Perm (a :: (g ++ [l])) := (List.Perm.swap a l g).trans (List.Perm.cons a (List.perm_append_singleton l g).symm)
      have fin : R (.ref l) (upd w.H a (.dT (putK kvs k (.ref l)))) := by
        refine q (w.put a (.dT (putK kvs k (.ref l))) (.inl rfl)) l (a :: (g ++ [l])) ((Ev.put rfl ha (by simp)).less fun c m => pm.mem_iff.mpr m) ((G.perm pm).put rfl) ?_ ⟨_, upd_same, ?_⟩
        · simp only [RepD]
          refine ⟨a, putK kvs k (.ref l), g ++ [l], rfl, upd_same, rfl, ⟨p1, ?_⟩, ?_⟩
          · exact List.nodup_append.mpr ⟨hk2, by simp, fun x hx y hy e => by
              rw [List.mem_singleton.mp hy] at e
              exact hnk (e ▸ hx)⟩
          · rw [p2]
            refine (rs.keeps ds _ g (kp g hag)).append (RepDs.one ?_)
            simp only [RepD]
            refine ⟨l, [], [], rfl, ?_, rfl, rfl, rfl⟩
            show upd w.H a _ l = _
            rw [upd_ne hla]
            exact hl
        · rw [valV_getL, p1, p2]
          have z := getL_putL ks (kvs.map (·.2)) k (.ref l) hlv k
          rw [putL_nw ks _ k (.ref l) hlv hgv, if_pos rfl] at z
          exact z
      obtain ⟨bk, rfl, hbk⟩ := kv
      refine ⟨kvs, k, bk, ha, rfl, hbk, by rw [hkl]; exact hz, fun v hv => ?_, fun hn => fin⟩
      rw [hvn] at hv
      cases hv
    · cases h1

theorem setd_rep {w : Wd} {d0 d1 : D} {a : Addr} {fi : List Addr} {y : Ky} {vy : V} {l : Addr} {es : List D} {R : VK} (rv : RepD K w d0 (.ref a) fi) (kv : KeyV w.H y vy) (hl : w.H l = some (.lst [])) (G : Good w (l :: fi)) (h1 : dSd d0 y = some d1) (he : dLs d1 y = some es)
    (q : ∀ (w' : Wd) (b : Addr) (us : List V) (g rest : List Addr), Ev (l :: fi) w w' ((b :: g) ++ rest) → Good w' ((b :: g) ++ rest) → w'.H b = some (.lst us) → RepDs K w' es us g →
      (∀ w'' xs us' gs, Keeps w' w'' rest → w''.H b = some (.lst us') → RepDs K w'' xs us' gs → ∃ d' f', dSt d1 y xs = some d' ∧ f'.Perm ((b :: gs) ++ rest) ∧ RepD K w'' d' (.ref a) f') → R (.ref b) w'.H) : rSetdZ (.ref a) [vy, .ref l] w.H R := by
  cases d0 with
  | odK ks ds => cases y with
    | k k =>
      refine setd_odK rv kv hl G h1 he fun w' b f1 ev g1 rv1 ⟨kvs, c1, c2⟩ => ?_
      obtain ⟨a2, b2, us, g, rest, e1, ⟨kvs2, d1, d2⟩, d3, d4, d5, d6⟩ := dls_rep rv1 he
      cases e1
      rw [c1] at d1
      cases d1
      rw [c2] at d2
      cases d2
      exact q w' b us g rest (ev.less fun c m => d5.mem_iff.mpr m) (g1.perm d5) d3 d4 d6
    | t k => cases h1
  | odT ks ds => cases y with
    | k k => cases h1
    | t k =>
      refine setd_odT rv kv hl G h1 he fun w' b f1 ev g1 rv1 ⟨kvs, c1, c2⟩ => ?_
      obtain ⟨a2, b2, us, g, rest, e1, ⟨kvs2, d1, d2⟩, d3, d4, d5, d6⟩ := dls_rep rv1 he
      cases e1
      rw [c1] at d1
      cases d1
      rw [c2] at d2
      cases d2
      exact q w' b us g rest (ev.less fun c m => d5.mem_iff.mpr m) (g1.perm d5) d3 d4 d6
  | _ => cases y <;> cases h1

def mSda (i : Nat) (mk : M Ky) (n : M (List D)) : M D := fun e => match e[i]? with
  | some s => s.dat.bind fun d0 => (mk (e.set i .hol)).bind fun y => (dSd d0 y.1).bind fun d1 => (dLs d1 y.1).bind fun ds => (n y.2).bind fun x => match x.2[i]? with
    | some .hol => (hApp ds x.1).bind fun r => (dSt d1 y.1 r.2).map fun d' => (r.1, x.2.set i (s.with d'))
    | _ => none
  | none => none
theorem sd_dict {w : Wd} {d0 d1 : D} {y : Ky} {v : V} {f : List Addr} (r : RepD K w d0 v f) (h : dSd d0 y = some d1) : ∃ a, v = .ref a ∧ ((∃ kvs, w.H a = some (.dK kvs)) ∨ ∃ kvs, w.H a = some (.dT kvs)) := by
  cases d0 with
  | odK ks ds =>
    simp only [RepD] at r
    obtain ⟨a, kvs, g, rfl, ha, _⟩ := r
    exact ⟨a, rfl, .inl ⟨kvs, ha⟩⟩
  | odT ks ds =>
    simp only [RepD] at r
    obtain ⟨a, kvs, g, rfl, ha, _⟩ := r
    exact ⟨a, rfl, .inr ⟨kvs, ha⟩⟩
  | _ => cases y <;> cases h
theorem je_sda {i : Nat} {ty tl : TE} {t : TA} {mk : M Ky} {n : M (List D)} (hk : JK K ty mk) (hl : JE K tl (mLst mLnil)) (hn : JL K t n) :
    JE K (tBM K "list" rAppend (tBM K "dict" rSetdZ (tVar i) (tCons ty (tCons tl tNil))) t) (mSda i mk n) := by
  intro σ₀ σ w e f Q d e' E G hm hq
  unfold mSda at hm
  split at hm
  · rename_i s hs
    simp only [Option.bind_eq_some_iff] at hm
    obtain ⟨d0, hd0, ⟨y, e1⟩, h1, d1, hd1, ds, hds, ⟨as, e2⟩, h2, hm⟩ := hm
    split at hm
    · rename_i hhol
      simp only [Option.bind_eq_some_iff, Option.map_eq_some_iff] at hm
      obtain ⟨⟨rd, ds'⟩, h3, d', h4, h5⟩ := hm
      cases h5
      obtain ⟨o₀, o, f1, fi, f2, a1, a2, rfl, a4, a5⟩ := E.lock hs
      obtain ⟨v, q, rv, rr⟩ := Sl.datR a4 hd0
      subst q
      obtain ⟨a, rfl, htv⟩ := sd_dict rv hd1
      have pm : (f1 ++ (fi ++ f2)).Perm ((f1 ++ f2) ++ fi) := by
        rw [List.perm_iff_count]
        intro c
        simp only [List.count_append]
        omega
      have G1 := G.perm pm
      have dj : ∀ b ∈ fi, b ∉ f1 ++ f2 := fun b m z => (List.nodup_append.mp G1.nd).2.2 b z b m rfl
      refine ⟨.ref a, a2, .inr (.inr (.inl ⟨rfl, htv⟩)), ?_⟩
      refine hk (σ₀.set i (some (.ref a))) σ w (e.set i .hol) (f1 ++ f2) _ y e1 a5 G1.left h1 fun vy w1 fe1 ev1 g1 E1 kv => ?_
      refine hl (σ₀.set i (some (.ref a))) σ w1 e1 fe1 _ (.olst []) e1 E1 g1 (by rfl) fun z w2 fe2 fz ev2 g2 E2 rz => ?_
      simp only [RepD] at rz
      obtain ⟨l, us0, g0, rfl, hl0, rfl, hr0⟩ := rz
      obtain ⟨rfl, rfl⟩ := hr0
      have ev12 := ev1.trans ev2
      have kf : Keeps w w2 fi := Keeps.of G1.left ev12 dj
      have G2 : Good w2 ((fe2 ++ [l]) ++ fi) := G1.frame ev12 g2
      have p2 : ((fe2 ++ [l]) ++ fi).Perm ((l :: fi) ++ fe2) := by
        rw [List.perm_iff_count]
        intro c
        simp only [List.count_append, List.count_cons, List.count_nil]
        omega
      have G2p := G2.perm p2
      have kv2 : KeyV w2.H y vy := kv.keeps (Keeps.of g1 ev2 (f := []) fun _ m => nomatch m).imm
      show rSetdZ (V.ref a) [vy, V.ref l] w2.H fun x H1 => tyV K "list" x H1 ∧ t σ H1 fun xs H2 => rAppend x xs H2 Q
      refine setd_rep (rv.keeps d0 _ fi kf) kv2 hl0 G2p.left hd1 hds fun w3 b us g rest ev3 g3 hb rds upd3 => ?_
      refine ⟨.inl ⟨rfl, us, SqL.of hb⟩, ?_⟩
      have dj2 : ∀ c ∈ fe2, c ∉ l :: fi := fun c m z => (List.nodup_append.mp G2p.nd).2.2 c z c m rfl
      have E3 := E2.keeps (Keeps.of G2p.left ev3 dj2)
      have G3 : Good w3 (((b :: g) ++ rest) ++ fe2) := G2p.frame ev3 g3
      refine hn (σ₀.set i (some (.ref a))) σ w3 e1 fe2 _ as e2 E3 G3.right h2 fun us2 w4 fe4 fa ev4 g4 E4 ras => ?_
      have G3c : Good w3 (fe2 ++ ((b :: g) ++ rest)) := G3.comm
      have dj3 : ∀ c ∈ (b :: g) ++ rest, c ∉ fe2 := fun c m z => (List.nodup_append.mp G3c.nd).2.2 c z c m rfl
      have k4 : Keeps w3 w4 ((b :: g) ++ rest) := Keeps.of G3.right ev4 dj3
      have hb4 : w4.H b = some (.lst us) := k4.own b (by simp) _ hb
      have rds4 := rds.keeps ds us g (k4.weak fun c m => by simp [m])
      have G4 : Good w4 ((fe4 ++ fa) ++ ((b :: g) ++ rest)) := G3c.frame ev4 g4
      refine smu_app w4 b us ds g as us2 fa Q rd ds' hb4 rds4 ras h3 fun v2 vs' gd gs rest2 pm2 rdv rds' => ?_
      have pT : ((fe4 ++ fa) ++ ((b :: g) ++ rest)).Perm (b :: (((fe4 ++ rest) ++ (gs ++ gd)) ++ rest2)) := by
        rw [List.perm_iff_count] at pm2 ⊢
        intro c
        have z2 := pm2 c
        simp only [List.count_append, List.count_cons] at z2 ⊢
        omega
      have g5 := G4.perm pT
      have na := (List.nodup_cons.mp g5.nd).1
      simp only [List.mem_append, not_or] at na
      obtain ⟨⟨⟨n1, n2⟩, n3, n4⟩, n5⟩ := na
      have hF := (g5.own b (by simp)).1
      have kput : ∀ l, b ∉ l → Keeps w4 (w4.put b (.lst vs') (.inl rfl)) l := fun l z => Keeps.put rfl hb4 hF rfl z
      have kr : Keeps w3 (w4.put b (.lst vs') (.inl rfl)) rest := by
        have k1 : Keeps w3 w4 rest := k4.weak fun c m => by simp [m]
        have k2 := kput rest n2
        exact ⟨fun c z => k2.fz c (k1.fz c z), fun c ob z m => k2.imm c ob (k1.imm c ob z m) m, fun c ob z m => k2.fro c ob (k1.fro c ob z m) (k1.fz c m), fun c m ob z => k2.own c m ob (k1.own c m ob z)⟩
      obtain ⟨d2, f', c1, c2, c3⟩ := upd3 (w4.put b (.lst vs') (.inl rfl)) ds' vs' gs kr upd_same (rds'.keeps ds' vs' gs (kput gs n3))
      rw [h4] at c1
      cases c1
      have b3 := ev4.frame ((b :: g) ++ rest)
      obtain ⟨u1, u2, rfl, E5⟩ := (E4.keeps (kput fe4 n1)).unlock hhol a1 (rr _ _ _ c3)
      have pF : ((u1 ++ (f' ++ u2)) ++ gd ++ rest2).Perm (b :: ((((u1 ++ u2) ++ rest) ++ (gs ++ gd)) ++ rest2)) := by
        rw [List.perm_iff_count] at c2 ⊢
        intro c
        have z := c2 c
        simp only [List.count_append, List.count_cons] at z ⊢
        omega
      have g6 := (g5.perm pF.symm).left
      refine hq v2 (w4.put b (.lst vs') (.inl rfl)) (u1 ++ (f' ++ u2)) gd ?_ (g6.put rfl) E5 (rdv.keeps _ _ _ (kput gd n4))
      have b1 : Ev (f1 ++ (fi ++ f2)) w w2 ((l :: fi) ++ fe2) := ((ev12.frame fi).weak fun c m => (pm.mem_iff).mpr m).less fun c m => (p2.mem_iff).mpr m
      have b2 : Ev ((l :: fi) ++ fe2) w2 w3 (fe2 ++ ((b :: g) ++ rest)) := (ev3.frame fe2).less fun c m => (List.perm_append_comm.mem_iff).mp m
      refine (((b1.trans b2).trans b3).trans (Ev.put rfl hb4 (by simp))).less fun c m => ?_
      exact (pT.mem_iff).mpr ((pF.mem_iff).mp (List.mem_append_left _ m))
    · cases hm
  · cases hm

section
variable {X : Cx} {b c e : Expr} {es : List Expr} {tb tc : TE} {mk : M Ky} {t : TA} {n : M (List D)} {x : Str} {p apos apos2 pos pos2 : Pos}
theorem q_sda (i : Nat) (hu : Hu X) (hb : QK K X b tb mk) (hc : QE K X c tc (mLst mLnil)) (ha : QL K X (e :: es) t n)
    (hN : X.N[i]? = some x := by rfl) (hv : Vis X.env.scope x := by first | exact Or.inl rfl | exact Or.inr (Or.inl rfl) | exact Or.inr (Or.inr rfl)) (hd : (x == ("__debug__" : Str)) = false := by decide) (hcd : (x == ("__classdict__" : Str)) = false := by decide)
    (k1 : attributeBase (.Name x p) "setdefault" X.env (eval (.Name x p) X.env) = eval (.Name x p) X.env := by rfl)
    (k2 : ((backTo pos (starEach [b, c] X.env)).all (fun x => !x.1) && (backToKw pos (keywordEach [] X.env)).all (fun x => x.1.isSome) && decide (([b, c] : List Expr).length + ([] : List Keyword).length + (if ([] : List Keyword).isEmpty then 0 else 1) < 30)) = true := by rfl)
    (k3 : (apos.endLine == pos.line) = true := by rfl) (k4 : starEach [b, c] X.env = (false, eval b X.env) :: starEach [c] X.env := by rfl) (k5 : (backTo pos (starEach [c] X.env)).any (·.1) = false := by rfl)
    (k6 : starEach [c] X.env = (false, eval c X.env) :: starEach [] X.env := by rfl)
    (hbase : attributeBase (.Call (.Attribute (.Name x p) "setdefault" apos) [b, c] [] pos) "append" X.env (eval (.Call (.Attribute (.Name x p) "setdefault" apos) [b, c] [] pos) X.env) = eval (.Call (.Attribute (.Name x p) "setdefault" apos) [b, c] [] pos) X.env := by rfl)
    (hfew : ((backTo pos2 (starEach (e :: es) X.env)).all (fun x => !x.1) && (backToKw pos2 (keywordEach [] X.env)).all (fun x => x.1.isSome) && decide ((e :: es).length + ([] : List Keyword).length + (if ([] : List Keyword).isEmpty then 0 else 1) < 30)) = true := by rfl)
    (hline : (apos2.endLine == pos2.line) = true := by rfl) (hs : starEach (e :: es) X.env = (false, eval e X.env) :: starEach es X.env := by rfl) (hplain : (backTo pos2 (starEach es X.env)).any (·.1) = false := by rfl) (hK : X.K = K := by rfl) :
    QE K X (.Call (.Attribute (.Call (.Attribute (.Name x p) "setdefault" apos) [b, c] [] pos) "append" apos2) (e :: es) [] pos2) (tBM K "list" rAppend (tBM K "dict" rSetdZ (tVar i) (tCons tb (tCons tc tNil))) t) (mSda i mk n) := by
  subst hK
  have inner := pe_bm PySem.F.plainAttrs_dict PySem.F.slot_dict_setdefault PySem.F.type_dict_setdefault (mt_setdZ (by have : X.A.units + 65 < cLine := hu; omega)) (pe_var hN hv hd hcd) (pa_cons hb.p (pa_cons hc.p pa_nil k6) k4) k1 k2 k3 k4 k5
  exact ⟨pe_bm PySem.F.plainAttrs_list PySem.F.slot_list_append PySem.F.type_list_append mt_append inner ha.p hbase hfew hline hs hplain, je_sda hb.j hc.j ha.j⟩
end
def dApp (d0 : D) (y : Ky) (x : D) : Option D := (dSd d0 y).bind fun d1 => (dLs d1 y).bind fun ds => if ds.length < sizeLine then dSt d1 y (ds ++ [x]) else none
theorem w_sda {e e1 : Z.Env} {i : Nat} {s : Sl} {d0 : D} {mk : M Ky} {n : M (List D)} {Q : D → Z.Env → Prop} (hs : AtR e i s) (hd : s.dat = some d0) (hh : SetR e i .hol e1)
    (h : W (mk e1) (fun y e2 => W (n e2) (fun xs e3 => ∃ x d', xs = [x] ∧ dApp d0 y x = some d' ∧ AtR e3 i .hol ∧ ∃ e4, SetR e3 i (s.with d') e4 ∧ Q (.val .non) e4))) : W (mSda i mk n e) Q := by
  obtain ⟨y, e2, h1, xs, e3, h2, x, d', rfl, h3, h4, e4, h5, q⟩ := h
  simp only [dApp, Option.bind_eq_some_iff] at h3
  obtain ⟨d1, k1, ds, k2, k3⟩ := h3
  split at k3
  · rename_i hz
    refine ⟨.val .non, e4, ?_, q⟩
    unfold mSda
    rw [hs.eq]
    simp only [hd, Option.bind_some, hh.eq, h1, k1, k2, h2, h4.eq, hApp, if_pos hz, k3, Option.map_some, h5.eq]
  · cases k3
end Z
namespace ZS
open PySem PyProof.Rows L2 PySem.Calls SrtO
section
variable {P : Program} {w : World} {A : Around} {E : Value → Shared → Prop} {s : Shared} {a : Addr} {L : List Rw} {es : Array (Int × Value)} {ep : Nat} {t : SetTable}
def SetAt (h : Heap) (a : Addr) (es : Array (Int × Value)) (ep : Nat) (t : SetTable) : Prop := ∃ o, h.get? a = some o ∧ o.ExactSet ∧ o.data = .set es ep t
structure TB (P : Program) (w : World) (h : Heap) (a : Addr) (L : List Rw) (es : Array (Int × Value)) (ep : Nat) (t : SetTable) : Prop where
  ob : SetAt h a es ep t
  cells : rowsOf P w L = es.toList
  tab : TabOk t (L.map fun q => thash P w q.2)
  nd : (L.map (·.2)).Nodup
  tup : ∀ q ∈ L, IsT P w h q.2 q.1
  plain : t.plain = true
  drawn : t.led = true ∨ w.params.followText "set-order" = true
  free : 5 * L.length < 3 * t.mask
  few : L.length < 76
theorem TB.rows {h : Heap} (R : TB P w h a L es ep t) : es.toList = rowsOf P w L := R.cells.symm
theorem TB.led {h : Heap} (R : TB P w h a L es ep t) : w.params.followText "set-order" = true ∨ t.led = true := R.drawn.symm
theorem TB.room {h : Heap} (R : TB P w h a L es ep t) : L.length * 5 < t.mask * 3 := by
  have := R.free
  omega
theorem TB.of {h : Heap} (R : SetTR P w h a L es ep t) : TB P w h a L es ep t :=
  ⟨R.ob, R.rows.symm, R.tab, R.nd, R.tup, R.plain, R.led.symm, by have := R.room; omega, by have := R.few; omega⟩
theorem TB.small {h : Heap} (R : TB P w h a L es ep t) (hf : L.length < 64) : SetTR P w h a L es ep t :=
  ⟨R.ob, R.rows, R.tab, R.nd, R.tup, R.plain, R.led, R.room, hf⟩
theorem TB.sz {h : Heap} (R : TB P w h a L es ep t) : es.size = L.length := by
  have := congrArg List.length R.rows
  simpa [rowsOf] using this
theorem TB.fit {h : Heap} (R : TB P w h a L es ep t) : t.fits es.size = true := by
  have z1 := R.tab.sz
  have z2 := R.sz
  have z3 := R.room
  rw [List.length_map] at z1
  simp only [SetTable.fits, SetTable.fill, R.tab.dm, Bool.and_eq_true, beq_iff_eq, decide_eq_true_eq]
  exact ⟨by omega, show t.place.size + 0 ≤ t.mask by omega⟩
theorem TB.ent {h : Heap} (R : TB P w h a L es ep t) {i : Nat} {q : Rw} (e : L[i]? = some q) : es[i]? = some (thash P w q.2, Value.ref q.1) := by
  have : es.toList[i]? = some (thash P w q.2, Value.ref q.1) := by rw [R.rows]; simp [rowsOf, e]
  rwa [Array.getElem?_toList] at this
abbrev stp (t : SetTable) (h : Int) (n : Nat) : SetTable.Probe := nth t.mask (runAt t.mask (SetTable.bits h % (t.mask + 1)) (SetTable.bits h)) n
theorem nth_dummy (m : Nat) : ∀ (n : Nat) (p : SetTable.Probe), p.dummy = none → (nth m p n).dummy = none
  | 0, _, h => h
  | n + 1, p, h => nth_dummy m n (adv m p) (by unfold adv; split <;> exact h)
end
end ZS
namespace ZS
open PySem PyProof.Rows L2 PySem.Calls SrtO
section
variable {P : Program} {w : World} {A : Around} {E : Value → Shared → Prop} {sh s : Shared}
theorem TB.keep {h h2 : Heap} {a : Addr} {L : List Rw} {es : Array (Int × Value)} {ep : Nat} {t : SetTable} (R : TB P w h a L es ep t) (k : ∀ o, h.get? a = some o → h2.get? a = some o) (kt : ∀ q ∈ L, IsT P w h2 q.2 q.1) : TB P w h2 a L es ep t := by
  obtain ⟨⟨o, ho, r⟩, c2, c3, c4, c5, c6, c7, c8, c9⟩ := R
  exact ⟨⟨o, k o ho, r⟩, c2, c3, c4, kt, c6, c7, c8, c9⟩
end
end ZS
namespace Z
open PySem.Spec PyProof.Rows L2 PySem
variable {K : PySem.W.Frag}
end Z
namespace Z
open PySem.Spec PyProof.Rows L2 PySem
variable {K : PySem.W.Frag}
section
variable {X : Cx} {kx vx tg iter : Expr} {ifs : List Expr} {scope : Scope} {pos : Pos} {wi : TI} {g : TG} {tt : TT} {tk tv : TE} {mi : M (List P)} {mg : MG} {mt : M Bool} {mk : M Ky} {mv : M D} {cs : List Nat}
end
end Z
namespace Z
open PySem.Spec PyProof.Rows L2 PySem
def dB (ns : List Int) : D := dL ns (ns.map fun _ => .bl true)
def fB (ns : List Int) : P := fL ns (ns.map fun _ => .bl true)
theorem fB_at (ns : List Int) (x : Int) : dAt (.val (fB ns)) (.k (.inl x)) = some (if x ∈ ns then some (.val (.bl true)) else none) := by
  have := fL_at ns id (fun _ => .bl true) x
  rw [List.map_id] at this
  show dAt (.val (fL ns (ns.map fun _ => .bl true))) _ = _
  rw [this]
  congr 1
  by_cases h : x ∈ ns
  · rw [if_pos h]
    cases e : ns.find? fun g => decide (id g = x) with
    | some y => rfl
    | none =>
      have := List.find?_eq_none.mp e x h
      simp at this
  · rw [if_neg h]
    cases e : ns.find? fun g => decide (id g = x) with
    | none => rfl
    | some y =>
      have h1 := List.find?_some e
      have h2 := List.mem_of_find?_eq_some e
      have : y = x := by simpa using h1
      exact absurd (this ▸ h2) h
theorem dL_atO {ns : List Int} {ps : List P} {y : Ky} {o : Option D} (h : dAt (.val (fL ns ps)) y = some o) : dAt (dL ns ps) y = some o := by
  cases y with
  | k k =>
    have h : some ((getL (ns.map Sum.inl) ps k).map D.val) = some o := h
    show some (getL (ns.map Sum.inl) (ps.map .val) k) = some o
    rw [getL_map]
    exact h
  | t k => cases h
theorem dB_at (ns : List Int) (x : Int) : dAt (dB ns) (.k (.inl x)) = some (if x ∈ ns then some (.val (.bl true)) else none) := dL_atO (fB_at ns x)
theorem dB_put {ns : List Int} {x : Int} (h : ns.length < 10000000) (hn : x ∉ ns) : putD (dB ns) (.k (.inl x)) (.val (.bl true)) = some (dB (ns ++ [x])) := by
  unfold dB
  rw [dL_put (by simp) h hn, List.map_append]
  rfl
end Z
namespace Z
open PySem.Spec PyProof.Rows L2 PySem
def EiL (ps : List P) (d : D) : Prop := d = .olst (ps.map .val) ∨ d = .val (.lst ps)
theorem EiL.frz {ps : List P} {d : D} (h : EiL ps d) : frz d = .lst ps := by
  rcases h with rfl | rfl
  · exact frz_map ps
  · rfl
end Z
namespace Z
open PySem.Spec PyProof.Rows L2 PySem
variable {K : PySem.W.Frag}
end Z
namespace Z
open PySem.Spec PyProof.Rows L2 PySem
variable {K : PySem.W.Frag}
end Z
namespace Z
open PySem.Spec PyProof.Rows L2 PySem
variable {K : PySem.W.Frag}
section
variable {X : Cx} {tg elt iter : Expr} {g : TG} {mg : MG} {cs : List Nat} {ifs : List Expr} {scope : Scope} {pos : Pos} {tt : TT} {mt : M Bool} {te : TE} {me : M D}
end
end Z
namespace Z
open PySem.Spec PyProof.Rows L2 PySem
variable {K : PySem.W.Frag}
section
variable {X : Cx}
end
section
variable {X : Cx} {kx vx tg iter : Expr} {ifs : List Expr} {scope : Scope} {pos : Pos} {wi : TI} {g : TG} {tt : TT} {tk tv : TE} {mi : M (List P)} {mg : MG} {mt : M Bool} {mk : M Ky} {mv : M D} {cs : List Nat}
end
end Z
namespace Z
open PySem.Spec PyProof.Rows L2 PySem
end Z
namespace Z
open PySem.Spec PyProof.Rows L2 PySem
section
variable {κ : Type} [DecidableEq κ] {α : Type}
def vlM (xs : List (κ × P)) (k : κ) : List P := (xs.filter fun x => decide (x.1 = k)).map (·.2)
def ksM (xs : List (κ × P)) : List κ := xs.foldl (fun ks x => if x.1 ∈ ks then ks else ks ++ [x.1]) []
theorem ksM_snoc (xs : List (κ × P)) (k : κ) (v : P) : ksM (xs ++ [(k, v)]) = if k ∈ ksM xs then ksM xs else ksM xs ++ [k] := by
  unfold ksM
  rw [List.foldl_append]
  rfl
theorem vlM_snoc (xs : List (κ × P)) (k j : κ) (v : P) : vlM (xs ++ [(k, v)]) j = vlM xs j ++ (if k = j then [v] else []) := by
  unfold vlM
  rw [List.filter_append, List.map_append]
  by_cases h : k = j
  · simp [h]
  · simp [h]
theorem ksM_foldl (xs : List (κ × P)) : ∀ ks : List κ, ks.Nodup → (xs.foldl (fun ks x => if x.1 ∈ ks then ks else ks ++ [x.1]) ks).Nodup ∧ ∀ k, k ∈ xs.foldl (fun ks x => if x.1 ∈ ks then ks else ks ++ [x.1]) ks ↔ k ∈ ks ∨ ∃ x ∈ xs, x.1 = k := by
  induction xs with
  | nil => intro ks h; exact ⟨h, fun k => by simp⟩
  | cons x xs ih =>
    intro ks h
    rw [List.foldl_cons]
    by_cases hx : x.1 ∈ ks
    · rw [if_pos hx]
      refine ⟨(ih ks h).1, fun k => ?_⟩
      rw [(ih ks h).2 k]
      simp only [List.mem_cons, exists_eq_or_imp]
      exact ⟨fun z => z.elim .inl fun z => .inr (.inr z), fun z => z.elim .inl fun z => z.elim (fun e => .inl (e ▸ hx)) .inr⟩
    · rw [if_neg hx]
      have hn : (ks ++ [x.1]).Nodup := List.nodup_append.mpr ⟨h, by simp, fun a ha b hb e => hx (by rw [← List.mem_singleton.mp hb, ← e]; exact ha)⟩
      refine ⟨(ih _ hn).1, fun k => ?_⟩
      rw [(ih _ hn).2 k]
      simp only [List.mem_append, List.mem_cons, List.not_mem_nil, or_false, exists_eq_or_imp]
      constructor
      · rintro ((z | z) | z)
        · exact .inl z
        · exact .inr (.inl z.symm)
        · exact .inr (.inr z)
      · rintro (z | z | z)
        · exact .inl (.inl z)
        · exact .inl (.inr z.symm)
        · exact .inr z
theorem ksM_nd (xs : List (κ × P)) : (ksM xs).Nodup := (ksM_foldl xs [] List.nodup_nil).1
theorem mem_ksM {xs : List (κ × P)} {k : κ} : k ∈ ksM xs ↔ ∃ x ∈ xs, x.1 = k := by
  have := (ksM_foldl xs [] List.nodup_nil).2 k
  unfold ksM
  rw [this]
  exact ⟨fun h => h.elim (fun no => nomatch no) id, .inr⟩
theorem vlM_nil {xs : List (κ × P)} {k : κ} (h : k ∉ ksM xs) : vlM xs k = [] := by
  unfold vlM
  rw [List.filter_eq_nil_iff.mpr fun x hx e => h (mem_ksM.mpr ⟨x, hx, by simpa using e⟩)]
  rfl
theorem ksM_len (xs : List (κ × P)) : (ksM xs).length ≤ xs.length := by
  have key : ∀ (xs : List (κ × P)) (ks : List κ), (xs.foldl (fun ks x => if x.1 ∈ ks then ks else ks ++ [x.1]) ks).length ≤ ks.length + xs.length := by
    intro xs
    induction xs with
    | nil => intro ks; simp
    | cons x xs ih =>
      intro ks
      simp only [List.length_cons, List.foldl_cons]
      split
      · have := ih ks
        omega
      · have := ih (ks ++ [x.1])
        rw [List.length_append, List.length_singleton] at this
        omega
  unfold ksM
  simpa using key xs []
theorem vlM_len (xs : List (κ × P)) (k : κ) : (vlM xs k).length ≤ xs.length := by
  unfold vlM
  rw [List.length_map]
  exact List.length_filter_le _ _
theorem getL_fun (f : κ → α) : ∀ (ks : List κ) (k : κ), getL ks (ks.map f) k = if k ∈ ks then some (f k) else none
  | [], k => by simp [getL]
  | j :: ks, k => by
    simp only [List.map_cons, getL, getL_fun f ks k, List.mem_cons]
    by_cases h : j = k
    · subst h
      simp
    · have h2 : ¬ k = j := fun e => h e.symm
      simp [h, h2]
theorem putL_fun (f : κ → α) (y : α) : ∀ (ks : List κ) (k : κ), ks.Nodup → k ∈ ks → (putL ks (ks.map f) k y).2 = ks.map fun j => if j = k then y else f j
  | [], k, _, h => nomatch h
  | j :: ks, k, nd, h => by
    obtain ⟨n1, n2⟩ := (List.nodup_cons.mp nd)
    simp only [List.map_cons, putL]
    by_cases e : j = k
    · subst e
      rw [if_pos rfl]
      simp only [if_true]
      congr 1
      exact List.map_congr_left fun i hi => by
        have : ¬ i = j := fun e => n1 (e ▸ hi)
        rw [if_neg this]
    · rw [if_neg e]
      simp only [if_neg e]
      congr 1
      exact putL_fun f y ks k n2 ((List.mem_cons.mp h).elim (fun z => absurd z.symm e) id)
def lsD (ps : List P) : D := .olst (ps.map .val)
theorem frzs_ls (g : κ → List P) : ∀ ks : List κ, frzs (ks.map fun k => lsD (g k)) = ks.map fun k => P.lst (g k)
  | [] => rfl
  | k :: ks => by
    simp only [List.map_cons, frzs, frzs_ls g ks]
    rw [show frz (lsD (g k)) = .lst (g k) from frz_map _]
end
def dMT (xs : List (List Key × P)) : D := .odT (ksM xs) ((ksM xs).map fun k => lsD (vlM xs k))
def fMT (xs : List (List Key × P)) : P := .dT (ksM xs) ((ksM xs).map fun k => .lst (vlM xs k))
def dMK (xs : List (Key × P)) : D := .odK (ksM xs) ((ksM xs).map fun k => lsD (vlM xs k))
def fMK (xs : List (Key × P)) : P := .dK (ksM xs) ((ksM xs).map fun k => .lst (vlM xs k))
theorem dMT_frz (xs : List (List Key × P)) : frz (dMT xs) = fMT xs := congrArg (P.dT (ksM xs)) (frzs_ls (vlM xs) (ksM xs))
theorem dMK_frz (xs : List (Key × P)) : frz (dMK xs) = fMK xs := congrArg (P.dK (ksM xs)) (frzs_ls (vlM xs) (ksM xs))
section
variable {κ : Type} [inst : DecidableEq κ]
theorem app_core (xs : List (κ × P)) (k : κ) (v : P) : ∃ ks ds, (getL (ksM xs) ((ksM xs).map fun k => lsD (vlM xs k)) k = if k ∈ ksM xs then some (lsD (vlM xs k)) else none) ∧
    ks = (if k ∈ ksM xs then ksM xs else ksM xs ++ [k]) ∧ ds = (if k ∈ ksM xs then ((ksM xs).map fun k => lsD (vlM xs k)) else ((ksM xs).map fun k => lsD (vlM xs k)) ++ [.olst []]) ∧
    getL ks ds k = some (.olst ((vlM xs k).map .val)) ∧ ks = ksM (xs ++ [(k, v)]) ∧ (putL ks ds k (.olst ((vlM xs k).map .val ++ [.val v]))).2 = (ksM (xs ++ [(k, v)])).map fun j => lsD (vlM (xs ++ [(k, v)]) j) := by
  have hds : (if k ∈ ksM xs then ((ksM xs).map fun k => lsD (vlM xs k)) else ((ksM xs).map fun k => lsD (vlM xs k)) ++ [.olst []]) = (ksM (xs ++ [(k, v)])).map fun j => lsD (vlM xs j) := by
    rw [ksM_snoc]
    by_cases h : k ∈ ksM xs
    · rw [if_pos h, if_pos h]
    · rw [if_neg h, if_neg h, List.map_append, List.map_singleton, vlM_nil h]
      rfl
  have hk : k ∈ ksM (xs ++ [(k, v)]) := mem_ksM.mpr ⟨(k, v), by simp, rfl⟩
  refine ⟨_, _, getL_fun _ _ _, rfl, rfl, ?_, (ksM_snoc xs k v).symm, ?_⟩
  · rw [hds, ← ksM_snoc xs k v, getL_fun, if_pos hk]
    rfl
  · rw [hds, ← ksM_snoc xs k v, putL_fun _ _ _ _ (ksM_nd _) hk]
    refine List.map_congr_left fun j _ => ?_
    rw [vlM_snoc]
    by_cases e : j = k
    · subst e
      rw [if_pos rfl, if_pos rfl]
      unfold lsD
      rw [List.map_append]
      rfl
    · rw [if_neg e, if_neg fun z => e z.symm, List.append_nil]
end
theorem app_MT {xs : List (List Key × P)} (k : List Key) (v : P) (h : xs.length ≤ 1000000) : dApp (dMT xs) (.t k) (.val v) = some (dMT (xs ++ [(k, v)])) := by
  obtain ⟨ks, ds, h0, h1, h2, h3, h4, h5⟩ := app_core xs k v
  have hl : (ksM xs).length < sizeLine := lt_size (k := 1000000) (Nat.le_trans (ksM_len xs) h) (by omega)
  have hv : ((vlM xs k).map D.val).length < sizeLine := lt_size (k := 1000000) (by rw [List.length_map]; exact Nat.le_trans (vlM_len xs k) h) (by omega)
  have hs : dSd (dMT xs) (.t k) = some (.odT ks ds) := by
    simp only [dMT, dSd]
    rw [h0, h1, h2]
    by_cases hk : k ∈ ksM xs
    · simp only [if_pos hk, if_pos hl]
    · simp only [if_neg hk, if_pos hl]
  unfold dApp
  rw [hs]
  show (dLs (.odT ks ds) (.t k)).bind _ = _
  have hls : dLs (.odT ks ds) (.t k) = some ((vlM xs k).map .val) := by
    simp only [dLs]
    rw [h3]
  rw [hls]
  show (if ((vlM xs k).map D.val).length < sizeLine then dSt (.odT ks ds) (.t k) ((vlM xs k).map .val ++ [.val v]) else none) = _
  rw [if_pos hv]
  show some (D.odT ks (putL ks ds k (.olst ((vlM xs k).map .val ++ [.val v]))).2) = _
  rw [h5, h4]
  rfl
theorem app_MK {xs : List (Key × P)} (k : Key) (v : P) (h : xs.length ≤ 1000000) : dApp (dMK xs) (.k k) (.val v) = some (dMK (xs ++ [(k, v)])) := by
  obtain ⟨ks, ds, h0, h1, h2, h3, h4, h5⟩ := app_core xs k v
  have hl : (ksM xs).length < sizeLine := lt_size (k := 1000000) (Nat.le_trans (ksM_len xs) h) (by omega)
  have hv : ((vlM xs k).map D.val).length < sizeLine := lt_size (k := 1000000) (by rw [List.length_map]; exact Nat.le_trans (vlM_len xs k) h) (by omega)
  have hs : dSd (dMK xs) (.k k) = some (.odK ks ds) := by
    simp only [dMK, dSd]
    rw [h0, h1, h2]
    by_cases hk : k ∈ ksM xs
    · simp only [if_pos hk, if_pos hl]
    · simp only [if_neg hk, if_pos hl]
  unfold dApp
  rw [hs]
  show (dLs (.odK ks ds) (.k k)).bind _ = _
  have hls : dLs (.odK ks ds) (.k k) = some ((vlM xs k).map .val) := by
    simp only [dLs]
    rw [h3]
  rw [hls]
  show (if ((vlM xs k).map D.val).length < sizeLine then dSt (.odK ks ds) (.k k) ((vlM xs k).map .val ++ [.val v]) else none) = _
  rw [if_pos hv]
  show some (D.odK ks (putL ks ds k (.olst ((vlM xs k).map .val ++ [.val v]))).2) = _
  rw [h5, h4]
  rfl
theorem get_MT (xs : List (List Key × P)) (k : List Key) : ∃ o, dAt (.val (fMT xs)) (.t k) = some o ∧ orV (.lst []) o = some (.val (.lst (vlM xs k))) := by
  refine ⟨_, by show some ((getL (ksM xs) ((ksM xs).map fun k => P.lst (vlM xs k)) k).map D.val) = _; rw [getL_fun], ?_⟩
  by_cases h : k ∈ ksM xs
  · rw [if_pos h]
    rfl
  · rw [if_neg h, vlM_nil h]
    rfl
theorem get_MK (xs : List (Key × P)) (k : Key) : ∃ o, dAt (.val (fMK xs)) (.k k) = some o ∧ orV (.lst []) o = some (.val (.lst (vlM xs k))) := by
  refine ⟨_, by show some ((getL (ksM xs) ((ksM xs).map fun k => P.lst (vlM xs k)) k).map D.val) = _; rw [getL_fun], ?_⟩
  by_cases h : k ∈ ksM xs
  · rw [if_pos h]
    rfl
  · rw [if_neg h, vlM_nil h]
    rfl
end Z
namespace Z
open PySem.Spec PyProof.Rows L2 PySem
end Z
namespace ZE
open PySem PyProof.Rows
section
variable {s : Shared} {A : Around} {w : World} {prog : Program} {E : Value → Shared → Prop}
end
section
open L2 PySem.Spec
end
end ZE
namespace Z
open PySem.Spec PyProof.Rows L2 PySem
variable {K : PySem.W.Frag}
section
variable {X : Cx} {a b : Expr} {ta tb : TE} {ma mb : M P} {pos : Pos}
end
end Z
namespace Z
open PySem.Spec PyProof.Rows L2 PySem
end Z
namespace Z
open PySem.Spec PyProof.Rows L2 PySem
variable {K : PySem.W.Frag}
section
variable {X : Cx} {ke ve : Expr} {tk tv : TE} {mk : M Ky} {mv : M P} {pos : Pos}
end
end Z
namespace Z
open PySem.Spec PyProof.Rows L2 PySem
def SqL (ps : List P) (d : D) : Prop := EiL ps d ∨ d = .val (.tup ps)
end Z
namespace ZP
open PySem PySem.W PySem.Calls PyProof.Rows PyProof.V PySem.Spec DT
variable {prog : Program} {w : World} {κ : Type} [DecidableEq κ] {knd : HeapKind prog w κ}
end ZP
namespace Z
open PySem.Spec PyProof.Rows L2 PySem L2.DX
variable {K : PySem.W.Frag}
section
variable {X : Cx} {apos cpos : Pos} {o e f : Expr} {td ty tx : TE}
end
section
variable {κ α : Type} [DecidableEq κ]
end
section
variable {X : Cx} {b : Expr} {ty : TE} {mk : M Ky} {x : Str} {p apos cpos np : Pos} {j : Nat}
end
end Z
namespace ZS
open PySem PySem.Spec PyProof.Rows L2 PySem.Calls
end ZS
namespace Z
open PySem.Spec PyProof.Rows L2 PySem
variable {K : PySem.W.Frag}
end Z
namespace Z
open PySem.Spec PyProof.Rows L2 PySem
variable {K : PySem.W.Frag}
section
variable {X : Cx} {kx vx tg : Expr} {ifs : List Expr} {scope : Scope} {pos : Pos} {g : TG} {tt : TT} {tk tv : TE} {mg : MG} {mt : M Bool} {mk : M Ky} {mv : M D} {cs : List Nat}
end
end Z
namespace Z
open PySem.Spec PyProof.Rows L2 PySem
variable {K : PySem.W.Frag}
section
variable {β : Type} (F : β → P)
def dV (A : List (List Int × β)) : D := .odT (A.map fun z => kI z.1) (A.map fun z => .val (F z.2))
end
section
variable {β : Type}
end
end Z
namespace Z
open PySem.Spec PyProof.Rows L2 PySem
def addI (ns : List Int) (x : Int) : List Int := if x ∈ ns then ns else ns ++ [x]
theorem putL_I (ns : List Int) (x : Int) (c : D) : putL (ns.map (Sum.inl : Int → Key)) (ns.map fun _ => c) (.inl x) c = ((addI ns x).map Sum.inl, (addI ns x).map fun _ => c) := by
  induction ns with
  | nil => rfl
  | cons n ns ih =>
    simp only [List.map_cons, putL]
    by_cases e : n = x
    · rw [if_pos (by rw [e])]
      unfold addI
      rw [if_pos (by simp [e])]
      rfl
    · rw [if_neg (fun z => e (Sum.inl.inj z)), ih]
      have hm : (x ∈ n :: ns) ↔ x ∈ ns := ⟨fun h => (List.mem_cons.mp h).elim (fun z => absurd z.symm e) id, List.mem_cons_of_mem _⟩
      unfold addI
      by_cases hs : x ∈ ns
      · rw [if_pos hs, if_pos (hm.mpr hs)]
        rfl
      · rw [if_neg hs, if_neg (fun h => hs (hm.mp h))]
        rfl
theorem mem_addI {ns : List Int} {x y : Int} : y ∈ addI ns x ↔ y ∈ ns ∨ y = x := by
  unfold addI
  split
  · rename_i h
    exact ⟨.inl, fun z => z.elim id fun e => e ▸ h⟩
  · simp
end Z
namespace Z
open PySem.Spec PyProof.Rows L2 PySem
theorem while_r {c : M Bool} {b : MS} {Q : Out → Z.Env → Prop} (I : Nat → Z.Env → Prop)
    (step : ∀ n e, I n e → W (c e) (fun x e1 => (x = true → W (b e1) (fun o e2 => ((o = .nx ∨ o = .ct) ∧ ∃ m, m < n ∧ I m e2) ∨ (o = .bk ∧ Q .nx e2) ∨ (∃ d, o = .ret d ∧ Q o e2))) ∧ (x = false → Q .nx e1))) :
    ∀ (f n : Nat) (e : Z.Env), n < f → I n e → W (whileL c b f e) Q
  | 0, n, e, h, _ => absurd h (Nat.not_lt_zero n)
  | f + 1, n, e, h, hI => by
    obtain ⟨x, e1, h1, h2, h3⟩ := step n e hI
    cases x with
    | false => exact ⟨.nx, e1, by simp only [whileL, h1], h3 rfl⟩
    | true =>
      obtain ⟨o, e2, h4, h5⟩ := h2 rfl
      rcases h5 with ⟨ho, m, hm, h6⟩ | ⟨rfl, h6⟩ | ⟨d, rfl, h6⟩
      · obtain ⟨o2, e3, h7, q⟩ := while_r I step f m e2 (by omega) h6
        refine ⟨o2, e3, ?_, q⟩
        rcases ho with rfl | rfl <;> simp only [whileL, h1, h4, h7]
      · exact ⟨.nx, e2, by simp only [whileL, h1, h4], h6⟩
      · exact ⟨.ret d, e2, by simp only [whileL, h1, h4], h6⟩
theorem keysPs_I : ∀ s : List Int, keysPs (s.map .int) = some (kI s)
  | [] => rfl
  | x :: s => by
    simp only [List.map_cons, keysPs, keysPs_I s, keyP]
    rfl
theorem ky_I (s : List Int) : kyOf (tupI s) = some (.t (kI s)) := by
  simp only [tupI, kyOf, keysPs_I]
  rfl
section
variable {β : Type} {F : β → P} {A : List (List Int × β)} {e e' : Z.Env} {i : Nat} {as : List Ar} {Q : List D → Z.Env → Prop}
end
end Z
namespace Z
open PySem.Spec PyProof.Rows L2 PySem
theorem dS_atI (S : List (List Int)) (s : List Int) : dAt (dS S) (.t (kI s)) = some (inS S s) := congrArg some (getL_S S s (D.val (.bl true)))
theorem dS_putI {S : List (List Int)} (s : List Int) (h : S.length < 10000000) : putD (dS S) (.t (kI s)) (.val (.bl true)) = some (dS (addS S s)) := by
  unfold dS
  rw [putD_t (by simp) (by simpa using h)]
  have := putL_S S s (D.val (.bl true))
  show some (D.odT (putL (S.map kI) (S.map fun _ => D.val (.bl true)) (kI s) (.val (.bl true))).1 (putL (S.map kI) (S.map fun _ => D.val (.bl true)) (kI s) (.val (.bl true))).2) = _
  rw [this]
end Z
namespace Z
open PySem.Spec PyProof.Rows L2 PySem
end Z
namespace ZS
open PySem PyProof.Rows L2 PySem.Calls SrtO
def Full (m : Nat) : Prop := ∀ (h : Int) (j : Nat), j ≤ m → ∃ n, n ≤ m + 12 ∧ runI m (SetTable.bits h) n = j
theorem Full.of {m : Nat} (ok : MaskOk m) : Full m := fun h _ hj => run_meets ok h hj
def orb : Nat → Nat → List Nat
  | 0, _ => []
  | n + 1, x => x :: orb n ((x * 5 + 1) % 512)
theorem orb_mem : ∀ (n a j : Nat), j ∈ orb n (lcgN 511 a) → ∃ b, a ≤ b ∧ b < a + n ∧ lcgN 511 b = j
  | 0, _, _, h => nomatch h
  | n + 1, a, j, h => by
    rcases (List.mem_cons.mp h) with (e | h)
    · exact ⟨a, Nat.le_refl _, by omega, e.symm⟩
    · obtain ⟨b, b1, b2, b3⟩ := orb_mem n (a + 1) j h
      exact ⟨b, by omega, by omega, b3⟩
theorem orb_all : ((List.range 512).all fun j => (orb 512 0).contains j) = true := by decide +kernel
theorem round511 : lcgN 511 512 = 0 := by decide +kernel
theorem again511 : ∀ k, lcgN 511 (512 + k) = lcgN 511 k
  | 0 => round511
  | k + 1 => congrArg (fun x => (x * 5 + 1) % 512) (again511 k)
theorem met511 {j : Nat} (hj : j ≤ 511) : ∃ b, b ≤ 511 ∧ lcgN 511 b = j := by
  have h := List.all_eq_true.mp orb_all j (List.mem_range.mpr (by omega))
  obtain ⟨b, _, b2, b3⟩ := orb_mem 512 0 j (List.contains_iff_mem.mp h)
  exact ⟨b, by omega, b3⟩
theorem full511 : Full 511 := fun h j hj => by
  obtain ⟨a, a1, a2⟩ := met511 (runI_le 511 (SetTable.bits h) 12)
  obtain ⟨b, b1, b2⟩ := met511 hj
  have tail := runI_tail (m := 511) (bits_lt h)
  rcases Nat.lt_or_ge b a with lt | ge
  · refine ⟨12 + (512 + b - a), by omega, ?_⟩
    rw [tail, ← a2, lcgN_add, show a + (512 + b - a) = 512 + b by omega, again511, b2]
  · refine ⟨12 + (b - a), by omega, ?_⟩
    rw [tail, ← a2, lcgN_add, show a + (b - a) = b by omega, b2]
theorem Full.meets {m : Nat} (F : Full m) (h : Int) {j : Nat} (hj : j ≤ m) : ∃ k, k < 10 * SetTable.turns m ∧ way m h k = j := by
  obtain ⟨n, n1, n2⟩ := F h j hj
  obtain ⟨k, k1, k2⟩ := run_nth m (SetTable.bits h) n
  refine ⟨k, ?_, ?_⟩
  · unfold SetTable.turns
    omega
  · show (nth m (runAt m (SetTable.bits h % (m + 1)) (SetTable.bits h)) k).j = j
    rw [k2]
    exact n2
theorem way_in (m : Nat) (h : Int) (k : Nat) : way m h k ≤ m := by
  have i0 : SetTable.bits h % (m + 1) ≤ m := Nat.le_of_lt_succ (Nat.mod_lt _ (Nat.succ_pos _))
  have e0 := runEnd_bd i0
  have all := nth_in (m := m) k (runAt m (SetTable.bits h % (m + 1)) (SetTable.bits h)) (show SetTable.bits h % (m + 1) + (SetTable.runEnd m (SetTable.bits h % (m + 1)) - SetTable.bits h % (m + 1)) ≤ m by omega)
  exact Nat.le_trans (Nat.le_add_right _ _) all
structure TabG (t : SetTable) (hs : List Int) : Prop where
  rise : Ris t.place.toList
  clean : t.dummies = #[]
  size : t.place.size = hs.length
  full : Full t.mask
  low : ∀ x ∈ t.place.toList, x ≤ t.mask
  back : ∀ (i : Nat) (h : Int) (j : Nat), hs[i]? = some h → t.place.toList[i]? = some j → ∃ k, way t.mask h k = j ∧ ∀ c, c < k → way t.mask h c ∈ t.place.toList
theorem TabG.of {t : SetTable} {hs : List Int} (T : TabOk t hs) : TabG t hs := ⟨T.ris, T.dm, T.sz, Full.of T.mok, T.bd, T.reach⟩
theorem TabG.ok {t : SetTable} {hs : List Int} (T : TabG t hs) (m : MaskOk t.mask) : TabOk t hs := ⟨T.rise, T.clean, T.size, m, T.low, T.back⟩
theorem TabG.len {t : SetTable} {hs : List Int} (T : TabG t hs) : t.place.toList.length = hs.length := Array.length_toList.trans T.size
theorem TabG.first {t : SetTable} {hs : List Int} (T : TabG t hs) (few : hs.length ≤ t.mask) (h : Int) : ∃ K, K < 10 * SetTable.turns t.mask ∧ way t.mask h K ∉ t.place.toList ∧ ∀ c, c < K → way t.mask h c ∈ t.place.toList := by
  obtain ⟨j, lt, out⟩ := st_missing t.place.toList (t.mask + 1) (by rw [T.len]; omega)
  obtain ⟨k, k1, k2⟩ := T.full.meets h (Nat.le_of_lt_succ lt)
  obtain ⟨K, le, free, taken⟩ := st_least (p := fun c => way t.mask h c ∉ t.place.toList) k (by rw [k2]; exact out)
  exact ⟨K, Nat.lt_of_le_of_lt le k1, free, fun c hc => Classical.byContradiction (taken c hc)⟩
theorem TabG.before {t : SetTable} {hs : List Int} (T : TabG t hs) {h : Int} {K i j : Nat} (free : way t.mask h K ∉ t.place.toList) (hi : hs[i]? = some h) (hj : t.place.toList[i]? = some j) : ∃ k, k < K ∧ way t.mask h k = j := by
  obtain ⟨k, e, taken⟩ := T.back i h j hi hj
  refine ⟨k, Classical.byContradiction fun no => ?_, e⟩
  rcases Nat.lt_or_ge K k with lt | ge
  · exact free (taken K lt)
  · have : k = K := by omega
    subst this
    exact free (e ▸ List.mem_of_getElem? hj)
theorem TabG.put {t : SetTable} {hs : List Int} (T : TabG t hs) {h : Int} {K : Nat} (free : way t.mask h K ∉ t.place.toList) (taken : ∀ c, c < K → way t.mask h c ∈ t.place.toList) {p j : Nat} (ej : way t.mask h K = j) (ep : SetTable.below t.place j = p) :
    (t.put j).2 = p ∧ TabG (t.put j).1 (hs.take p ++ h :: hs.drop p) ∧ (t.put j).1.mask = t.mask ∧ (t.put j).1.led = t.led ∧ (t.put j).1.plain = t.plain ∧ (t.put j).1.fill = hs.length + 1 := by
  have jm : j ≤ t.mask := ej ▸ way_in t.mask h K
  rw [ej] at free
  have cutp := (below_cut T.rise j).1
  rw [ep] at cutp
  have p1 : p ≤ t.place.toList.length := by rw [Array.length_toList]; exact cutp
  have p2 : p ≤ hs.length := T.len ▸ p1
  have place := put_place t j
  rw [ep] at place
  have more : ∀ {x : Nat}, x ∈ t.place.toList → x ∈ (t.put j).1.place.toList := fun {x} hx => by
    rw [place]
    exact mem_ins.2 (.inr hx)
  have many : (t.put j).1.place.size = hs.length + 1 := by
    rw [← Array.length_toList, place, len_ins _ p1, T.len]
  have new : t.place[SetTable.below t.place j]? ≠ some j := fun e => free (List.mem_of_getElem? (by rw [Array.getElem?_toList]; exact e))
  refine ⟨ep, ⟨ris_insert T.rise new, put_dm T.clean j, by rw [many, len_ins _ p2], T.full, fun x hx => ?_, fun i g y hg hy => ?_⟩, rfl, rfl, rfl, ?_⟩
  · rw [place] at hx
    exact (mem_ins.1 hx).elim (fun e => e ▸ jm) (T.low x)
  · rw [tins_get hs p2] at hg
    rw [place, tins_get _ p1] at hy
    have old : ∀ i, hs[i]? = some g → t.place.toList[i]? = some y → ∃ k, way t.mask g k = y ∧ ∀ c, c < k → way t.mask g c ∈ (t.put j).1.place.toList := fun i h1 h2 => by
      obtain ⟨k, e, all⟩ := T.back i g y h1 h2
      exact ⟨k, e, fun c hc => more (all c hc)⟩
    rcases Nat.lt_trichotomy i p with lt | eq | gt
    · rw [if_pos lt] at hg hy
      exact old i hg hy
    · have nl : ¬ i < p := by omega
      rw [if_neg nl, if_pos eq] at hg hy
      obtain rfl := Option.some.inj hg
      obtain rfl := Option.some.inj hy
      exact ⟨K, ej, fun c hc => more (taken c hc)⟩
    · have nl : ¬ i < p := by omega
      have ne : ¬ i = p := by omega
      rw [if_neg nl, if_neg ne] at hg hy
      exact old (i - 1) hg hy
  · refine (show (t.put j).1.fill = (t.put j).1.place.size + (t.put j).1.dummies.size from rfl).trans ?_
    rw [many, put_dm T.clean j]
    rfl
theorem free_in {m : Nat} (F : Full m) (owner : Array (Option Nat)) (h : Int) {j : Nat} (hj : j ≤ m) (open_ : oAt owner j = none) :
    ∃ K, SetTable.layClean.free m owner (SetTable.turns m) (SetTable.bits h % (m + 1)) (SetTable.bits h) = some (way m h K) ∧ oAt owner (way m h K) = none ∧ ∀ c, c < K → oAt owner (way m h c) ≠ none := by
  obtain ⟨n, n1, n2⟩ := F h j hj
  have there : way m h (off m (SetTable.bits h % (m + 1)) (SetTable.bits h) n) = j := by
    show (nth m (runAt m (SetTable.bits h % (m + 1)) (SetTable.bits h)) _).j = j
    rw [nth_off, itL_run]
    exact n2
  obtain ⟨K, le, k1, k2⟩ := st_least (p := fun c => oAt owner (way m h c) = none) _ (show oAt owner (way m h (off m (SetTable.bits h % (m + 1)) (SetTable.bits h) n)) = none by rw [there]; exact open_)
  refine ⟨K, free_spec m owner (SetTable.turns m) n _ _ K (by unfold SetTable.turns; omega) le (fun c hc => ?_) ?_, k1, k2⟩
  · have q : oAt owner (way m h c) ≠ none := k2 c hc
    show (oAt owner (way m h c)).isNone = false
    cases z : oAt owner (way m h c) with
    | none => exact absurd z q
    | some _ => rfl
  · show (oAt owner (way m h K)).isNone = true
    rw [k1]
    rfl
theorem own_more {m : Nat} (F : Full m) {done : List Int} {owner : Array (Option Nat)} (O : Own m done owner) (few : done.length ≤ m) (h : Int) :
    ∃ slot, SetTable.layClean.free m owner (SetTable.turns m) (SetTable.bits h % (m + 1)) (SetTable.bits h) = some slot ∧ Own m (done ++ [h]) (owner.setIfInBounds slot (some done.length)) := by
  obtain ⟨ps, lp, inp⟩ := O.ps
  obtain ⟨y, ly, ny⟩ := st_missing ps (m + 1) (by omega)
  have open_ : oAt owner y = none := Classical.byContradiction fun no => ny (inp y (Nat.le_of_lt_succ ly) no)
  obtain ⟨K, e1, e2, e3⟩ := free_in F owner h (Nat.le_of_lt_succ ly) open_
  generalize ej : way m h K = j at e1 e2
  have jm : j ≤ m := ej ▸ way_in m h K
  have js : j < owner.size := by rw [O.sz]; omega
  have self := oAt_set_self (some done.length) js
  have keep : ∀ {i : Nat}, oAt owner i ≠ none → oAt (owner.setIfInBounds j (some done.length)) i ≠ none := fun {i} hi => by
    by_cases c : i = j
    · rw [c, self]
      exact fun z => nomatch z
    · rw [oAt_set_ne _ c]
      exact hi
  refine ⟨j, e1, ⟨by rw [Array.size_setIfInBounds]; exact O.sz, fun i k hi hk => ?_, fun k hk => ?_, j :: ps, by simp [lp], fun i hi no => ?_⟩⟩
  · by_cases c : i = j
    · rw [c, self] at hk
      obtain rfl := (Option.some.inj hk)
      exact ⟨h, K, by simp, ej.trans c.symm, fun c hc => keep (e3 c hc)⟩
    · rw [oAt_set_ne _ c] at hk
      obtain ⟨g, L, l1, l2, l3⟩ := O.at_ i k hi hk
      exact ⟨g, L, (List.getElem?_append_left (List.getElem?_eq_some_iff.mp l1).1).trans l1, l2, fun c hc => keep (l3 c hc)⟩
  · rw [List.length_append] at hk; rw [List.length_singleton] at hk
    rcases Nat.lt_or_ge k done.length with lt | ge
    · obtain ⟨i, hi, hk2⟩ := O.all k lt
      refine ⟨i, hi, (oAt_set_ne _ fun z => ?_).trans hk2⟩
      rw [z, e2] at hk2
      cases hk2
    · have : k = done.length := by omega
      subst this
      exact ⟨j, jm, self⟩
  · by_cases c : i = j
    · exact c ▸ List.mem_cons_self
    · rw [oAt_set_ne _ c] at no
      exact List.mem_cons_of_mem _ (inp i hi no)
theorem own_all {m : Nat} (F : Full m) : ∀ (rest done : List Int) (owner : Array (Option Nat)), Own m done owner → done.length + rest.length ≤ m →
    ∃ last, rest.foldl (stepF m) (some (owner, done.length)) = some (last, (done ++ rest).length) ∧ Own m (done ++ rest) last
  | [], done, owner, O, _ => ⟨owner, by simp, by simpa using O⟩
  | h :: rest, done, owner, O, few => by
    rw [List.length_cons] at few
    obtain ⟨j, e, O2⟩ := own_more F O (by omega) h
    have ih := own_all F rest (done ++ [h]) _ O2 (by rw [List.length_append, List.length_singleton]; omega)
    rw [List.length_append, List.length_singleton, List.append_assoc, List.singleton_append] at ih
    obtain ⟨last, f, O3⟩ := ih
    exact ⟨last, by rw [List.foldl_cons, stepF_some e]; exact f, O3⟩
theorem laid_clean {m : Nat} (F : Full m) {hs : Array Int} (few : hs.size ≤ m) : ∃ owner, SetTable.layClean m hs = some owner ∧ Own m hs.toList owner := by
  obtain ⟨owner, f, O⟩ := own_all F hs.toList [] _ (Own.init m) (by
    show 0 + hs.toList.length ≤ m
    rw [Array.length_toList]
    omega)
  refine ⟨owner, ?_, O⟩
  rw [layClean_eq, show (0 : Nat) = ([] : List Int).length from rfl, f]
  rfl
theorem relaid_in (t : SetTable) {hs : Array Int} {wanted M : Nat} (hw : SetTable.sizeAbove wanted - 1 = M) (F : Full M) (few : hs.size ≤ M) :
    ∃ u order, t.relaid hs wanted = some (u, order) ∧ order.toList.Perm (List.range hs.size) ∧ TabG u (order.toList.map fun i => hs.getD i 0) ∧ u.mask = M ∧ u.led = t.led ∧ u.plain = t.plain := by
  obtain ⟨owner, e, O⟩ := laid_clean F few
  obtain ⟨rise, within⟩ := ris_live (fun j => owner.getD j none) (List.range (M + 1)) (by unfold Ris; exact List.pairwise_lt_range)
  have ln : (liveOf M owner).length = hs.size := by
    obtain ⟨ps, lp, inp⟩ := O.ps
    have nd : ((liveOf M owner).map (·.1)).Nodup := rise.imp fun lt => Nat.ne_of_lt lt
    have le1 := nat_nodup_len ((liveOf M owner).map (·.1)) ps nd fun x hx => by
      obtain ⟨⟨y, k⟩, hq, rfl⟩ := List.mem_map.mp hx
      obtain ⟨c1, c2⟩ := (mem_live O.sz).1 hq
      exact inp y c1 (by rw [c2]; exact fun z => nomatch z)
    have le2 := nat_nodup_len (List.range hs.size) ((liveOf M owner).map (·.2)) List.nodup_range fun k hk => by
      obtain ⟨j, c1, c2⟩ := O.all k (List.mem_range.mp hk)
      exact List.mem_map.mpr ⟨(j, k), (mem_live O.sz).2 ⟨c1, c2⟩, rfl⟩
    rw [List.length_map, lp] at le1
    rw [List.length_map, List.length_range] at le2
    have z : hs.toList.length = hs.size := rfl
    omega
  refine ⟨tabOf t M owner, ((liveOf M owner).map (·.2)).toArray, by rw [relaid_eq, hw, e]; rfl, perm_range hs.size _ ?_ fun k hk => ?_, ⟨rise, rfl, ?_, F, fun x hx => ?_, fun i h j hi hj => ?_⟩, rfl, rfl, rfl⟩
  · exact (List.length_map _).trans ln
  · obtain ⟨j, c1, c2⟩ := O.all k hk
    exact List.mem_map.mpr ⟨(j, k), (mem_live O.sz).2 ⟨c1, c2⟩, rfl⟩
  · refine (show (tabOf t M owner).place.size = ((liveOf M owner).map (·.1)).length from List.size_toArray).trans ?_
    simp
  · exact Nat.le_of_lt_succ (List.mem_range.mp (within x hx))
  · have hi : (((liveOf M owner).map (·.2)).map fun i => hs.getD i 0)[i]? = some h := hi
    have hj : ((liveOf M owner).map (·.1))[i]? = some j := hj
    simp only [List.getElem?_map, Option.map_eq_some_iff] at hi hj
    obtain ⟨k, ⟨q, hq, rfl⟩, hk⟩ := hi
    obtain ⟨q2, hq2, rfl⟩ := hj
    rw [hq] at hq2
    obtain rfl := Option.some.inj hq2
    obtain ⟨c1, c2⟩ := (mem_live O.sz).1 (List.mem_of_getElem? hq)
    obtain ⟨g, K, a1, a2, a3⟩ := O.at_ _ _ c1 c2
    have : g = h := by
      rw [← hk, Array.getD_eq_getD_getElem?, ← Array.getElem?_toList, a1]
      rfl
    subst this
    refine ⟨K, a2, fun c hc => ?_⟩
    show way M g c ∈ (liveOf M owner).map (·.1)
    cases z : oAt owner (way M g c) with
    | none => exact absurd z (a3 c hc)
    | some k2 => exact List.mem_map.mpr ⟨(way M g c, k2), (mem_live O.sz).2 ⟨way_in M g c, z⟩, rfl⟩
theorem grow_77 : SetTable.sizeAbove (SetTable.grown 77) = 512 := by decide +kernel
end ZS
namespace ZS
open PySem PyProof.Rows L2 PySem.Calls SrtO
section
variable {P : Program} {w : World} {A : Around} {E : Value → Shared → Prop} {s : Shared} {a : Addr} {L : List Rw} {es : Array (Int × Value)} {ep : Nat} {t : SetTable}
structure TD (P : Program) (w : World) (h : Heap) (a : Addr) (L : List Rw) (es : Array (Int × Value)) (ep : Nat) (t : SetTable) : Prop where
  ob : SetAt h a es ep t
  cells : rowsOf P w L = es.toList
  tab : TabG t (L.map fun q => thash P w q.2)
  nd : (L.map (·.2)).Nodup
  tup : ∀ q ∈ L, IsT P w h q.2 q.1
  plain : t.plain = true
  drawn : t.led = true ∨ w.params.followText "set-order" = true
  free : 5 * L.length < 3 * t.mask
  few : L.length < 306
  msk : MaskOk t.mask ∨ (t.mask = 511 ∧ 76 < L.length)
theorem TD.rows {h : Heap} (R : TD P w h a L es ep t) : es.toList = rowsOf P w L := R.cells.symm
theorem TD.led {h : Heap} (R : TD P w h a L es ep t) : w.params.followText "set-order" = true ∨ t.led = true := R.drawn.symm
theorem TD.odd {h : Heap} (R : TD P w h a L es ep t) : t.mask % 2 = 1 := by
  rcases R.msk with m | ⟨m, _⟩
  · exact mask_odd m
  · rw [m]
theorem TD.le {h : Heap} (R : TD P w h a L es ep t) : t.mask ≤ 511 := by
  rcases R.msk with (m | m | m) | ⟨m, _⟩ <;> omega
theorem TD.room {h : Heap} (R : TD P w h a L es ep t) : L.length * 5 < t.mask * 3 := by
  have := R.free
  omega
theorem TD.of {h : Heap} (R : SetTR P w h a L es ep t) : TD P w h a L es ep t :=
  ⟨R.ob, R.rows.symm, TabG.of R.tab, R.nd, R.tup, R.plain, R.led.symm, by have := R.room; omega, by have := R.few; omega, .inl R.tab.mok⟩
theorem TD.small {h : Heap} (R : TD P w h a L es ep t) (hf : L.length < 64) : SetTR P w h a L es ep t :=
  ⟨R.ob, R.rows, R.tab.ok (R.msk.elim id fun m => absurd m.2 (by omega)), R.nd, R.tup, R.plain, R.led, R.room, hf⟩
theorem TD.sz {h : Heap} (R : TD P w h a L es ep t) : es.size = L.length := by
  have := congrArg List.length R.rows
  simpa [rowsOf] using this
theorem TD.fit {h : Heap} (R : TD P w h a L es ep t) : t.fits es.size = true := by
  have z1 := R.tab.size
  have z2 := R.sz
  have z3 := R.room
  rw [List.length_map] at z1
  simp only [SetTable.fits, SetTable.fill, R.tab.clean, Bool.and_eq_true, beq_iff_eq, decide_eq_true_eq]
  exact ⟨by omega, show t.place.size + 0 ≤ t.mask by omega⟩
theorem TD.ent {h : Heap} (R : TD P w h a L es ep t) {i : Nat} {q : Rw} (e : L[i]? = some q) : es[i]? = some (thash P w q.2, Value.ref q.1) := by
  have : es.toList[i]? = some (thash P w q.2, Value.ref q.1) := by rw [R.rows]; simp [rowsOf, e]
  rwa [Array.getElem?_toList] at this
theorem lookD (R : TD P w s.heap a L es ep t) {x : Addr} {k : List Int} (hx : IsT P w s.heap k x) (hu : A.units < cLine) {K : Nat} (kf : K < 10 * SetTable.turns t.mask) (k0 : way t.mask (thash P w k) K ∉ t.place.toList)
    (kb : ∀ c, c < K → way t.mask (thash P w k) c ∈ t.place.toList) {Q : SetFound → Shared → Prop} (q1 : k ∈ L.map (·.2) → Q (.there none) s) (q2 : k ∉ L.map (·.2) → Q (.free (way t.mask (thash P w k) K) false) s) :
    ∀ (f c : Nat) (st : Option SetTable.Probe), st.getD (t.probeStart (thash P w k)) = stp t (thash P w k) c → c ≤ K → K - c < f →
      (∀ (i : Nat) q, L[i]? = some q → q.2 = k → ∃ d, c ≤ d ∧ d < K ∧ t.place.toList[i]? = some (way t.mask (thash P w k) d)) →
      wpAny (model P w) A (setSearchFrom a (.ref x) (thash P w k) true f st) Q E s := by
  intro f
  induction f with
  | zero => intro c st _ _ hf _; exact absurd hf (Nat.not_lt_zero _)
  | succ f ih =>
    intro c st hst hc hf hre
    obtain ⟨o, ho, hex, hd⟩ := (R.ob)
    have gw : ¬ t.gaveWay = true := by
      unfold SetTable.gaveWay
      rw [R.odd]
      decide
    have jn : ∀ n, (nth t.mask (stp t (thash P w k) c) n).j = way t.mask (thash P w k) (c + n) := fun n => congrArg SetTable.Probe.j (nth_add t.mask c _ n).symm
    have hsh : ∀ (i : Nat) q, L[i]? = some q → (es[i]?.map (·.1)).getD 0 = thash P w q.2 := fun i q e => by rw [R.ent e] <;> rfl
    have none_on : (∀ (n i : Nat), n < K - c → t.place.toList[i]? = some (nth t.mask (stp t (thash P w k) c) n).j → (es[i]?.map (·.1)).getD 0 ≠ thash P w k) → k ∉ L.map (·.2) := fun hno hm => by
      obtain ⟨q, hq, hk⟩ := List.mem_map.mp hm
      obtain ⟨i, hi, e⟩ := List.getElem_of_mem hq
      have hi2 : L[i]? = some q := by rw [List.getElem?_eq_getElem hi, e]
      obtain ⟨d, d1, d2, d3⟩ := hre i q hi2 hk
      exact hno (d - c) i (by omega) (by rw [jn, show c + (d - c) = d by omega]; exact d3) ((hsh i q hi2).trans (congrArg _ hk))
    rw [setSearchFrom_succ]
    refine (wpAny_bind (wpAny_setState_of ho hd R.fit ?_))
    dsimp only
    refine (wp_if_neg gw ?_)
    first | (refine wpAny_bind ?_; refine wpAny_pure ?_) | skip
    rcases go_spec t R.tab.rise R.tab.clean (fun i => (es[i]?.map (·.1)).getD 0) (thash P w k) (10 * SetTable.turns t.mask) (K - c) (stp t (thash P w k) c) (nth_dummy _ _ _ rfl) (by omega)
      (fun n hn => by rw [jn]; exact kb (c + n) (by omega)) (by rw [jn, show c + (K - c) = K by omega]; exact k0) with ⟨n, i, hn, hi, hh, hno, hpr⟩ | ⟨hno, hpr⟩
    · have e1 : t.probe (fun i => (es[i]?.map (·.1)).getD 0) (thash P w k) (st.getD (t.probeStart (thash P w k))) = some (.candidate (way t.mask (thash P w k) (c + n)) i (stp t (thash P w k) (c + (n + 1)))) := by
        rw [hst, ← jn]
        have e2 : stp t (thash P w k) (c + (n + 1)) = nth t.mask (stp t (thash P w k) c) (n + 1) := nth_add t.mask c _ (n + 1)
        rw [e2]
        exact hpr
      rw [e1]
      dsimp only
      rw [jn] at hi
      have hil : i < L.length := by
        have z1 := (List.getElem?_eq_some_iff.mp hi).1
        have z2 := R.tab.size
        rw [List.length_map] at z2
        rw [Array.length_toList] at z1
        omega
      obtain ⟨q, hq⟩ : ∃ q, L[i]? = some q := ⟨_, List.getElem?_eq_getElem hil⟩
      have qm := List.mem_of_getElem? hq
      have live := slot_live R.tab.rise hi
      have rest : wpAny (model P w) A (searchRest a (.ref x) (thash P w k) true f es t (way t.mask (thash P w k) (c + n)) i (stp t (thash P w k) (c + (n + 1)))) Q E s := by
        unfold searchRest
        rw [R.ent hq]
        dsimp only
        refine wpAny_bind (wpAny_holding (wpAny_eqBool_tuple hu (R.tup q qm) hx (wpAny_bind (wpAny_setState_of ho hd R.fit ?_))))
        dsimp only
        by_cases e : q.2 = k
        · exact wp_if_pos (by simp [e]) (wpAny_pure (q1 (List.mem_map.mpr ⟨q, qm, e⟩)))
        · refine (wp_if_neg (by simp [e]) ?_)
          first | (refine wpAny_bind ?_; refine wpAny_pure ?_) | skip
          rw [sameMem]
          dsimp only
          simp only [if_true, live, R.ent hq]
          refine (wpAny_bind (wpAny_isSame_ref_self (wpAny_bind (wpAny_pure ?_))))
          simp only [if_true]
          refine (wp_if_neg (by simp [e]) (ih (c + (n + 1)) _ rfl (by omega) (by omega) fun i2 r h2 hk2 => ?_))
          obtain ⟨d, d1, d2, d3⟩ := hre i2 r h2 hk2
          refine ⟨d, ?_, d2, d3⟩
          have d4 : ¬ d < c + n := fun z => hno (d - c) i2 (by omega) (by rw [jn, show c + (d - c) = d by omega]; exact d3) ((hsh i2 r h2).trans (congrArg _ hk2))
          have d5 : d ≠ c + n := fun z => by
            rw [z] at d3
            have l2 := slot_live R.tab.rise d3
            rw [live] at l2
            injection l2 with l2
            subst l2
            rw [hq] at h2
            exact e ((congrArg Prod.snd (Option.some.inj h2)).trans hk2)
          omega
      by_cases hl : t.led = true
      · refine (wp_if_neg (by simp [hl]) ?_)
        first | (refine wpAny_bind ?_; refine wpAny_pure ?_) | skip
        exact rest
      · refine (wp_if_pos (by simp [hl]) (wpAny_bind (seen_tup hx (fun y hy => ?_) ?_)))
        · obtain ⟨u, hu1, rfl⟩ := List.mem_map.mp hy
          have hu2 : u ∈ es.toList := by
            have : u ∈ es ∧ u.1 = thash P w k := by simpa using hu1
            simpa using this.1
          rw [R.rows] at hu2
          obtain ⟨r, hr, rfl⟩ := List.mem_map.mp hu2
          exact ⟨r.2, r.1, rfl, R.tup r hr⟩
        · refine (wp_if_neg (by decide) ?_)
          first | (refine wpAny_bind ?_; refine wpAny_pure ?_) | skip
          exact rest
    · have e1 : t.probe (fun i => (es[i]?.map (·.1)).getD 0) (thash P w k) (st.getD (t.probeStart (thash P w k))) = some (.empty (way t.mask (thash P w k) K) none) := by
        have e2 : way t.mask (thash P w k) K = (nth t.mask (stp t (thash P w k) c) (K - c)).j := by rw [jn, show c + (K - c) = K by omega]
        rw [hst, e2]
        exact hpr
      rw [e1]
      exact wpAny_pure (q2 (none_on hno))
theorem look_atD (R : TD P w s.heap a L es ep t) {x : Addr} {k : List Int} (hx : IsT P w s.heap k x) (hu : A.units < cLine) {Q : SetFound → Shared → Prop} (q1 : k ∈ L.map (·.2) → Q (.there none) s)
    (q2 : ∀ K, k ∉ L.map (·.2) → way t.mask (thash P w k) K ∉ t.place.toList → (∀ c, c < K → way t.mask (thash P w k) c ∈ t.place.toList) → Q (.free (way t.mask (thash P w k) K) false) s) : wpAny (model P w) A (setSearch a (.ref x) (thash P w k) true) Q E s := by
  have room := R.room
  obtain ⟨K, kf, k0, kb⟩ := R.tab.first (by rw [List.length_map]; omega) (thash P w k)
  have big : K < 100000 := by
    have le := R.le
    have : 10 * SetTable.turns t.mask ≤ 20000 := by
      unfold SetTable.turns
      omega
    omega
  unfold setSearch
  refine lookD R hx hu kf k0 kb q1 (fun hn => q2 K hn k0 kb) 100000 0 none rfl (Nat.zero_le _) (by omega) fun i q hq hk => ?_
  have h1 : (L.map fun q => thash P w q.2)[i]? = some (thash P w k) := by simp [hq, hk]
  have hl : i < t.place.toList.length := by
    have z1 := (List.getElem?_eq_some_iff.mp hq).1
    have z2 := R.tab.size
    rw [List.length_map] at z2
    rw [Array.length_toList]
    omega
  have hj := List.getElem?_eq_getElem hl
  obtain ⟨c, hc, e⟩ := R.tab.before k0 h1 hj
  exact (⟨c, Nat.zero_le _, hc, by rw [hj, e]⟩)
theorem wider {o : Obj} (at0 : s.heap.get? a = some o) (exact0 : o.ExactSet) (dat : o.data = .set es ep t) (cells : es.toList = rowsOf P w L) (T : TabG t (L.map fun q => thash P w q.2)) (m127 : t.mask = 127) (many : L.length = 77)
    (nd : (L.map (·.2)).Nodup) (tup : ∀ q ∈ L, IsT P w s.heap q.2 q.1) (pl : t.plain = true) (ld : w.params.followText "set-order" = true ∨ t.led = true) {Q : Unit → Shared → Prop}
    (go : ∀ h1 M es1 ep1 t1, Heap.SameBut a s.heap h1 → TD P w h1 a M es1 ep1 t1 → M.Perm L → Q () { s with heap := h1 }) : wpAny (model P w) A (setRelay a (SetTable.grown 77)) Q E s := by
  have sz : es.size = 77 := by
    have := congrArg List.length cells
    simpa [rowsOf, many] using this
  have z1 := T.size
  rw [List.length_map, many] at z1
  have fit : t.fits es.size = true := by
    simp only [SetTable.fits, SetTable.fill, T.clean, Bool.and_eq_true, beq_iff_eq, decide_eq_true_eq]
    exact ⟨by omega, show t.place.size + 0 ≤ t.mask by omega⟩
  obtain ⟨u, order, e, pm, T2, um, ul, up⟩ := relaid_in t (hs := es.map (·.1)) (wanted := SetTable.grown 77) (M := 511) (by rw [grow_77]) full511 (by rw [Array.size_map, sz]; omega)
  rw [Array.size_map, sz, ← many] at pm
  obtain ⟨M, m1, m2, m3⟩ := order_rows L es order cells pm
  rw [← m3] at T2
  have sz2 : (order.filterMap (es[·]?)).size = es.size := by
    have := congrArg List.length m1
    rw [(Array.length_toList)] at this
    rw [this, sz, ← many, ← m2.length_eq]
    unfold rowsOf
    rw [List.length_map]
  rw [setRelay_eq]
  refine wpAny_bind (wpAny_setState_of at0 dat fit ?_)
  dsimp only
  refine (wp_if_neg (by rw [grow_77, sizeLine_eq]; omega) ?_)
  first | (refine wpAny_bind ?_; refine wpAny_pure ?_) | skip
  rw [e]
  dsimp only
  refine wpAny_bind ?_
  refine (wp_if_neg (by rw [sz2]; simp) ?_)
  first | (refine wpAny_bind ?_; refine wpAny_pure ?_) | skip
  refine wpAny_pure ?_
  dsimp only
  refine (wpAny_storeSet_of at0 dat ?_ (by rw [sz2, sz, sizeLine_eq]; omega))
  have sb : Heap.SameBut a s.heap (s.heap.update a (Obj.putSet (order.filterMap (es[·]?)) u)) := Heap.SameBut.update ..
  refine go _ M _ (ep + 1) u sb ⟨⟨_, store_at at0 dat, ⟨exact0.1, exact0.2.1, exact0.2.2⟩, rfl⟩, m1.symm, T2, (m2.map (·.2)).nodup_iff.mpr nd, fun q hq => isT_same (tup q (m2.mem_iff.mp hq)) at0 dat sb, up.trans pl, by rw [ul]; exact ld.symm, ?_, ?_, ?_⟩ m2
  · rw [m2.length_eq, um, many]
    omega
  · rw [m2.length_eq, many]
    omega
  · exact .inr ⟨um, by rw [m2.length_eq, many]; omega⟩
theorem addD (R : TD P w s.heap a L es ep t) {x : Addr} {k : List Int} (hx : IsT P w s.heap k x) (hu : A.units < cLine) (hf : L.length + 1 < 306) {Q : Bool → Shared → Prop}
    (hQ : ∀ b h2 M fs fp u, Heap.SameBut a s.heap h2 → TD P w h2 a M fs fp u → (k ∈ L.map (·.2) → M = L) → (k ∉ L.map (·.2) → M.Perm ((x, k) :: L)) → Q b { s with heap := h2 }) : wpAny (model P w) A (setAddHashed a (.ref x) (thash P w k)) Q E s := by
  by_cases sm : L.length + 1 < 64
  · exact add_at (R.small (by omega)) hx hu sm fun b h2 M fs fp u sb R2 c1 c2 => hQ b h2 M fs fp u sb (TD.of R2) c1 c2
  have room := R.room
  obtain ⟨o, ho, hex, hd⟩ := (R.ob)
  unfold setAddHashed
  refine (wpAny_holding ?_)
  have turns : (100000 : Nat) = 99999 + 1 := rfl
  rw [turns]
  rw [setAddHashedIn_succ]
  refine (wpAny_bind (wpAny_setState_of ho hd R.fit ?_))
  dsimp only
  refine (wp_if_neg (by simp [byScan, Value.scannable]) ?_)
  first | (refine wpAny_bind ?_; refine wpAny_pure ?_) | skip
  refine wpAny_bind (look_atD R hx hu (fun hm => ?_) fun K hm k0 kb => ?_)
  · exact wpAny_pure (hQ false s.heap L es ep t (Heap.SameBut.refl a s.heap) R (fun _ => rfl) fun z => absurd hm z)
  dsimp only
  refine (wpAny_bind (wpAny_setState_of ho hd R.fit ?_))
  dsimp only
  generalize ej : way t.mask (thash P w k) K = y
  generalize epp : SetTable.below t.place y = j
  obtain ⟨c1, c3, c4, c5, c6, c9⟩ := R.tab.put k0 kb ej epp
  rw [List.length_map] at c9
  have pl : (t.put y).1.plain = true := c6.trans R.plain
  have ld : w.params.followText "set-order" = true ∨ (t.put y).1.led = true := by rw [c5]; exact R.led
  have full : (t.put y).1.tooFull = decide ((L.length + 1) * 5 ≥ t.mask * 3) := by
    unfold SetTable.tooFull
    rw [c9, c4]
  generalize hpt : t.put y = pt at c1 c3 c4 pl ld full ⊢
  obtain ⟨t1, j2⟩ := pt
  dsimp only at c1 c3 c4 pl ld full ⊢
  subst c1
  first
    | (refine wpAny_bind ?_; refine wp_if_pos pl ?_; refine hashBy_tup hx ?_)
    | refine wp_if_pos pl (wpAny_bind (hashBy_tup hx ?_))
  simp only [if_true]
  have rows1 : (SetTable.insertAt es j2 (thash P w k, Value.ref x)).toList = rowsOf P w (L.take j2 ++ (x, k) :: L.drop j2) := by
    refine (SetTable.toList_insertAt ..).trans ?_
    rw [R.rows]
    exact (rows_put ..).symm
  have pm := put_perm L j2 (x, k)
  have ln : (L.take j2 ++ (x, k) :: L.drop j2).length = L.length + 1 := pm.length_eq
  have tab1 : TabG t1 ((L.take j2 ++ (x, k) :: L.drop j2).map fun q => thash P w q.2) := by
    have e : ((L.take j2 ++ (x, k) :: L.drop j2).map fun q => thash P w q.2) = (L.map fun q => thash P w q.2).take j2 ++ thash P w k :: (L.map fun q => thash P w q.2).drop j2 := by simp [List.map_take, List.map_drop]
    rw [e]
    exact c3
  have nd1 : ((L.take j2 ++ (x, k) :: L.drop j2).map (·.2)).Nodup := (pm.map (·.2)).nodup_iff.mpr (List.nodup_cons.mpr ⟨hm, R.nd⟩)
  have sz1 : (SetTable.insertAt es j2 (thash P w k, Value.ref x)).size = L.length + 1 := by
    have z := congrArg List.length rows1
    unfold rowsOf at z
    rwa [Array.length_toList, List.length_map, ln] at z
  generalize SetTable.insertAt es j2 (thash P w k, Value.ref x) = es1 at rows1 sz1 ⊢
  generalize L.take j2 ++ (x, k) :: L.drop j2 = M at pm ln tab1 nd1 rows1
  refine (wpAny_bind (wpAny_storeSet_of ho hd ?_ (by rw [sz1, sizeLine_eq]; omega)))
  have sb : Heap.SameBut a s.heap (s.heap.update a (Obj.putSet es1 t1)) := (Heap.SameBut.update ..)
  have ho1 := store_at ho hd (es' := es1) (t' := t1)
  obtain ⟨h1, hh1⟩ : ∃ h1, h1 = s.heap.update a (Obj.putSet es1 t1) := ⟨_, rfl⟩
  rw [← hh1] at sb ho1 ⊢
  have tup1 : ∀ q ∈ M, IsT P w h1 q.2 q.1 := fun q hq => by
    rcases List.mem_cons.mp (pm.mem_iff.mp hq) with e | e
    · exact e ▸ isT_same hx ho hd sb
    · exact isT_same (R.tup q e) ho hd sb
  by_cases over : (L.length + 1) * 5 ≥ t.mask * 3
  · have nf : t1.tooFull = true := by rw [full]; exact decide_eq_true over
    have m127 : t.mask = 127 ∧ L.length = 76 := by
      have r := R.room
      rcases R.msk with (m | m | m) | ⟨m, _⟩ <;> omega
    first
      | (refine wpAny_bind ?_; refine wp_if_pos (by simp [nf]) ?_)
      | (refine wp_if_pos (by simp [nf]) ?_; refine wpAny_bind ?_)
    rw [R.sz, m127.2]
    refine wider (s := { s with heap := h1 }) ho1 ⟨hex.1, hex.2.1, hex.2.2⟩ rfl rows1 tab1 (c4.trans m127.1) (by rw [ln, m127.2]) nd1 tup1 pl ld fun h2 M2 es2 ep2 t2 sb2 R2 pm2 => ?_
    exact wpAny_pure (hQ true h2 M2 es2 ep2 t2 (sb.trans sb2) R2 (fun z => absurd z hm) fun _ => pm2.trans pm)
  have nf : ¬ t1.tooFull = true := by rw [full, decide_eq_true_eq]; exact over
  first
    | refine wp_if_neg (by simp [nf]) ?_
    | (refine wpAny_bind ?_; refine wp_if_neg (by simp [nf]) ?_; refine wpAny_pure ?_)
  refine wpAny_pure (hQ true h1 M es1 (ep + 1) t1 sb ⟨⟨_, ho1, ⟨hex.1, hex.2.1, hex.2.2⟩, rfl⟩, rows1.symm, tab1, nd1, tup1, pl, ld.symm, by rw [ln, c4]; omega, by rw [ln]; exact hf, ?_⟩ (fun z => absurd z hm) fun _ => pm)
  rw [c4, ln]
  exact R.msk.imp id fun m => ⟨m.1, by omega⟩
end
end ZS
namespace ZS
open PySem PyProof.Rows L2 PySem.Calls SrtO
section
variable {P : Program} {w : World} {A : Around} {E : Value → Shared → Prop} {sh s : Shared}
def FewD (ks : List Rw) : Prop := ∀ L : List (List Int), L.Nodup → (∀ x ∈ L, x ∈ ks.map (·.2)) → L.length < 305
theorem TD.keep {h h2 : Heap} {a : Addr} {L : List Rw} {es : Array (Int × Value)} {ep : Nat} {t : SetTable} (R : TD P w h a L es ep t) (k : ∀ o, h.get? a = some o → h2.get? a = some o) (kt : ∀ q ∈ L, IsT P w h2 q.2 q.1) : TD P w h2 a L es ep t := by
  obtain ⟨⟨o, ho, r⟩, c2, c3, c4, c5, c6, c7, c8, c9, c10⟩ := R
  exact ⟨⟨o, k o ho, r⟩, c2, c3, c4, kt, c6, c7, c8, c9, c10⟩
theorem updD {I : Addr} {fp wr : List Addr} {G : Array GenState → Array GenState → Prop} {n : Nat} {Pv : Nat → Value → Prop} {St : Nat → Shared → Prop} {R : Result → Shared → Prop}
    (W : WalksS P w A.in1 I fp wr G n Pv St) (z : Addr) (zf : z ∉ fp) (ks : List Rw) (en : n = ks.length) (few : FewD ks) (each : ∀ i v, Pv i v → ∃ p, ks[i]? = some p ∧ v = .ref p.1)
    (old : Heap) (tup : ∀ p ∈ ks, IsT P w old p.2 p.1) (z0 : old.get? z = none) (wr0 : ∀ b ∈ wr, old.get? b = none) (un : A.in1.units < cLine) :
    ∀ (d i : Nat) (sh : Shared), n - i = d → i ≤ n → St i sh → (∀ b o, old.get? b = some o → sh.heap.get? b = some o) → (∃ L es ep t, TD P w sh.heap z L es ep t ∧ Gt ks i L) →
      (∀ s2 L es ep t, Moved (z :: wr) G sh s2 → TD P w s2.heap z L es ep t → Gt ks n L → (∀ b o, old.get? b = some o → s2.heap.get? b = some o) → R (.ok (.ret .none)) s2) →
      codeAny (model P w) A (.builtin "set.update.loop" ⟨[.ref z, .ref I], []⟩) R sh := by
  have zw : z ∉ wr := fun h => zf (W.sub _ h)
  have up : ∀ b ∈ wr, b ∈ z :: wr := fun b hb => (List.mem_cons_of_mem _ hb)
  have kp : ∀ {s1 s2 : Shared}, Moved wr G s1 s2 → (∀ b o, old.get? b = some o → s1.heap.get? b = some o) → ∀ b o, old.get? b = some o → s2.heap.get? b = some o := fun mv h b o e =>
    mv.heap b o (fun hb => by have := wr0 b hb; rw [this] at e; cases e) (h b o e)
  intro d
  induction d with
  | zero =>
    intro i sh hd hi hst hkp ⟨L, es, ep, t, hS, g⟩ fin
    obtain rfl : i = n := by omega
    refine (codeAny_builtin F.entry_set_update_loop ?_)
    rw [(Around.under_plainId F.plain_set_update_loop _)]
    show (wpAny _ A.in1 (pyNext (.ref I) >>= _) _ _ sh)
    refine wpAny_bind (W.done sh _ _ hst fun s2 mv => ?_)
    show (wpAny _ A.in1 (ret Value.none) _ _ s2)
    have k2 := kp mv hkp
    have sub : ∀ p ∈ L, p ∈ ks := fun p hp => (List.mem_of_mem_take (g.sub p hp))
    refine wpAny_pure (fin s2 L es ep t (mv.mono up) ?_ g k2)
    exact hS.keep (fun o e => mv.heap z o zw e) fun p hp => isT_keep (tup p (sub p hp)) k2
  | succ d ih =>
    intro i sh hd hi hst hkp ⟨L, es, ep, t, hS, g⟩ fin
    have lt : i < n := by omega
    refine (codeAny_builtin F.entry_set_update_loop ?_)
    rw [(Around.under_plainId F.plain_set_update_loop _)]
    show (wpAny _ A.in1 (pyNext (.ref I) >>= _) _ _ sh)
    refine wpAny_bind (W.item i sh _ _ lt hst fun v s2 hP hst2 mv => ?_)
    obtain ⟨p, hp, rfl⟩ := each i v hP
    have k2 := kp mv hkp
    have sub : ∀ q ∈ L, q ∈ ks := fun q hq => (List.mem_of_mem_take (g.sub q hq))
    have S2 : TD P w s2.heap z L es ep t := hS.keep (fun o e => mv.heap z o zw e) fun q hq => (isT_keep (tup q (sub q hq)) k2)
    have hx : IsT P w s2.heap p.2 p.1 := isT_keep (tup p (List.mem_of_getElem? hp)) k2
    have fw : L.length + 1 < 306 := by
      have := few (L.map (·.2)) S2.nd fun x hx => by
        obtain ⟨q, hq, rfl⟩ := List.mem_map.mp hx
        exact List.mem_map.mpr ⟨q, sub q hq, rfl⟩
      rw [List.length_map] at this
      omega
    show (wpAny _ A.in1 (holding [Value.ref p.1] (setAdd z (.ref p.1)) >>= _) _ _ s2)
    refine (wpAny_bind (wpAny_holding ?_))
    unfold setAdd
    refine (wpAny_holding ?_)
    refine wpAny_bind (wpAny_pyHash_tuple un hx ?_)
    refine addD (s := { s2 with toks := s2.toks + (p.2.length + 1) }) S2 hx un fw fun b h3 M es3 ep3 t3 sb S3 c1 c2 => ?_
    have g3 : Gt ks (i + 1) M := g.go hp c1 c2
    have k3 : ∀ b o, old.get? b = some o → h3.get? b = some o := fun b o e => (sb.2 b (fun q => by rw [q, z0] at e; cases e)).trans (k2 b o e)
    refine wpAny_pure ⟨plainId_quiet F.plain_set_update_loop _, ih (i + 1) _ (by omega) lt (W.frame _ s2 _ _ hst2 (Nat.le_add_right _ _) fun b hb o e => ?_) k3 ⟨M, es3, ep3, t3, S3, g3⟩ fun s4 L4 es4 ep4 t4 mv4 S4 g4 k4 => ?_⟩
    · rw [sb.2 b (fun q => zf (by rw [← q]; exact hb))]
      exact e
    · refine fin s4 L4 es4 ep4 t4 (Moved.trans W.gtrans ((mv.mono up).then_heap (Nat.le_add_right _ _) fun b o hb e => ?_) mv4) S4 g4 k4
      rw [sb.2 b (fun q => hb (by rw [q]; exact List.mem_cons_self))]
      exact e
def FilledD (P : Program) (w : World) (old : Heap) (z : Addr) (ks : List Rw) (sh s2 : Shared) : Prop :=
  ∃ hp tk L es ep t, s2 = { sh with heap := hp, toks := tk } ∧ TD P w hp z L es ep t ∧ Gt ks ks.length L ∧ ∀ b o, old.get? b = some o → hp.get? b = some o
set_option maxHeartbeats 3200700 in
theorem fill_tupsD {old : Heap} {z l : Addr} {its : Array Value} {ks : List Rw} (hh : A.handled = none) (set0 : sh.heap.get? z = some (nso w)) (hl : sh.heap.IsList l its) (hz : l ≠ z)
    (hi : its.toList = ks.map fun p => Value.ref p.1) (keep : ∀ b o, old.get? b = some o → sh.heap.get? b = some o) (z0 : old.get? z = none) (tup : ∀ p ∈ ks, IsT P w old p.2 p.1) (few : FewD ks) (un : A.units + 2 < cLine) :
    codeAny (model P w) A (.call (.builtin "set.__init__") ⟨[.ref z, .ref l], []⟩) (wants (fun r s2 => r = .none ∧ FilledD P w old z ks sh s2) E) sh := by
  have len : its.size = ks.length := by
    have q := congrArg List.length hi
    rwa [Array.length_toList, List.length_map] at q
  have ty : Shared.TypeIs sh (.ref z) "set" := ⟨_, set0, rfl⟩
  refine codeAny_call_builtin F.called_set.init.plain F.entry_set_init (check_set_init_1 ty ?_)
  obtain ⟨⟨lc, ld, lda, ls⟩, get, cl, cap, dat⟩ := hl
  simp only at cl dat
  subst cl
  subst dat
  have a1 := F.sub_list_set
  have a2 := F.sub_list_frozenset
  have a3 : (Value.type "list" == Value.type "dict") = false := by decide
  have isl : sh.heap.IsList l its := ⟨_, get, rfl, cap, rfl⟩
  unfold Builtin.«set.__init__»; unfold noKeywords Builtin.Frozenset.updateFrom
  generalize kept : pyIter = it0
  wp_walk
  subst kept
  refine (wpAny_pyIter_list isl ?_)
  refine (wpAny_bind (wpAny_runValue ?_))
  have l0 : l < sh.heap.objs.size := Heap.lt_size get
  have zs : z < sh.heap.objs.size := Heap.lt_size set0
  have calm3 : A.in1.in1.handled = none := by simp [hh]
  have z1 : z ∉ [sh.heap.objs.size, l] := by
    simp only [List.mem_cons, List.not_mem_nil, or_false, not_or]
    exact ⟨Nat.ne_of_lt zs, hz.symm⟩
  have each : ∀ (i : Nat) (v : Value), its[i]? = some v → ∃ p, ks[i]? = some p ∧ v = .ref p.1 := fun i v hv => by
    have q : its.toList[i]? = some v := by rw [Array.getElem?_toList]; exact hv
    rw [hi, List.getElem?_map, Option.map_eq_some_iff] at q
    obtain ⟨p, h1, h2⟩ := q
    exact ⟨p, h1, h2.symm⟩
  have fresh : old.get? sh.heap.objs.size = none := by
    cases q : old.get? sh.heap.objs.size with
    | none => rfl
    | some o => exact absurd (Heap.lt_size (keep _ o q)) (Nat.lt_irrefl _)
  refine updD ((Walks.list calm3 _ l (Nat.ne_of_lt l0) its).toS) z z1 ks len few each old tup z0 (fun b hb => by rw [List.mem_singleton.mp hb]; exact fresh) un its.size 0 _ rfl (Nat.zero_le _)
    ?st (fun b o e => Heap.get?_push_of_some _ (keep b o e)) ?em ?fin
  case st => exact ⟨⟨_, Heap.get?_push_size _ rfl, rfl, rfl⟩, isl.push _⟩
  case em => exact ⟨[], #[], 0, _, TD.of (setTR_fresh (Heap.get?_push_of_some _ set0)), fun p h => (by cases h), fun p h => (by simp at h)⟩
  intro s2 L es ep t mv full g kk
  obtain ⟨hp, g2, d2, t2, o2⟩ := s2
  cases (show g2 = sh.gens from mv.gens)
  cases (show d2 = sh.drawn from mv.drawn)
  cases (show o2 = sh.os from mv.os)
  show wpAny _ _ _ _ _ _
  refine wpAny_pure ?_
  show (wpAny _ _ (ret Value.none) _ _ _)
  exact wpAny_pure ⟨rfl, hp, t2, L, es, ep, t, rfl, full, len ▸ g, kk⟩
set_option maxHeartbeats 3200700 in
theorem set_of_tupsD {l : Addr} {its : Array Value} {ks : List Rw} {Q : Value → Shared → Prop} (hh : A.handled = none) (hl : sh.heap.IsList l its)
    (hi : its.toList = ks.map fun p => Value.ref p.1) (tup : ∀ p ∈ ks, IsT P w sh.heap p.2 p.1) (few : FewD ks) (un : A.units + 30 < cLine)
    (q : ∀ s2, FilledD P w sh.heap sh.heap.objs.size ks sh s2 → Q (.ref sh.heap.objs.size) s2) :
    wpAny (model P w) A (call (.type "set") [.ref l]) Q E sh := by
  obtain ⟨mr, rest, hmro⟩ := F.called_set.mro
  have b1 := F.called_set.made
  have b2 := F.called_set.sub
  refine (wpAny_call (codeAny_of_tree ?_))
  show (wpAny _ _ (callAny (.type "set") _) _ _ _)
  refine wpAny_pure ⟨(Code.quiet_builtin _ (by decide +kernel)), codeAny_builtin F.entry_type_call ?_⟩
  rw [Around.under_plain (weight_type_call_type "set" [Value.ref l] []) rfl]
  have b3 := F.called_set.notType
  have b4 := F.called_set.canCreate
  have b5 := F.typeCall_set_1 (.ref l)
  repeat (any_goals (first | (assumption) | wp_step))
  refine codeAny_mono (code_set_led1 (.ref l) (E := E) (Q₁ := fun v s1 => v = .ref sh.heap.objs.size ∧ s1 = { sh with heap := sh.heap.push (nso w) }) ⟨rfl, rfl⟩) fun r1 s1 h1 => ?_
  cases r1 with
  | error _ => exact h1
  | ok f1 =>
    cases f1 with
    | ret v =>
      obtain ⟨rfl, rfl⟩ := h1
      have at0 : (sh.heap.push (nso w)).get? sh.heap.objs.size = some (nso w) := Heap.get?_push_size _ rfl
      have ty : Shared.TypeIs { sh with heap := sh.heap.push (nso w) } (.ref sh.heap.objs.size) "set" := ⟨_, at0, rfl⟩
      have c1 := F.called_set.init.lookup
      have c2 := F.called_set.init.bind (.ref sh.heap.objs.size)
      repeat (any_goals (first | (assumption) | wp_step))
      have lt : l < sh.heap.objs.size := by
        obtain ⟨o, ho, _⟩ := hl
        exact Heap.lt_size ho
      have none0 : sh.heap.get? sh.heap.objs.size = none := by
        cases q : sh.heap.get? sh.heap.objs.size with
        | none => rfl
        | some o => exact absurd (Heap.lt_size q) (Nat.lt_irrefl _)
      refine codeAny_mono (fill_tupsD (E := E) (by simp [hh]) at0 (hl.push _) (Nat.ne_of_lt lt) hi (fun b o e => Heap.get?_push_of_some _ e) none0 tup few (show A.units + 1 + 2 < cLine by omega)) fun r2 s2 h2 => ?_
      cases r2 with
      | error _ => exact h2
      | ok f2 =>
        cases f2 with
        | ret r =>
          obtain ⟨rfl, hp, tk, L, es, ep, t, rfl, full, g, kk⟩ := h2
          repeat (any_goals (first | (assumption) | wp_step))
          exact q _ ⟨hp, tk, L, es, ep, t, rfl, full, g, kk⟩
        | _ => exact h2.elim
    | _ => exact h1.elim
set_option maxHeartbeats 3200700 in
theorem fill_tupsDT {old : Heap} {z l : Addr} {its : Array Value} {ks : List Rw} (hh : A.handled = none) (set0 : sh.heap.get? z = some (nso w)) (hl : sh.heap.IsTuple l its) (hz : l ≠ z)
    (hi : its.toList = ks.map fun p => Value.ref p.1) (keep : ∀ b o, old.get? b = some o → sh.heap.get? b = some o) (z0 : old.get? z = none) (tup : ∀ p ∈ ks, IsT P w old p.2 p.1) (few : FewD ks) (un : A.units + 2 < cLine) :
    codeAny (model P w) A (.call (.builtin "set.__init__") ⟨[.ref z, .ref l], []⟩) (wants (fun r s2 => r = .none ∧ FilledD P w old z ks sh s2) E) sh := by
  have len : its.size = ks.length := by
    have q := congrArg List.length hi
    rwa [Array.length_toList, List.length_map] at q
  have ty : Shared.TypeIs sh (.ref z) "set" := ⟨_, set0, rfl⟩
  refine codeAny_call_builtin F.called_set.init.plain F.entry_set_init (check_set_init_1 ty ?_)
  obtain ⟨⟨lc, ld, lda, ls⟩, get, cl, cap, dat⟩ := hl
  simp only at cl dat
  subst cl
  subst dat
  have a1 := F.sub_tuple_set
  have a2 := F.sub_tuple_frozenset
  have a3 : (Value.type "tuple" == Value.type "dict") = false := by decide
  have isl : sh.heap.IsTuple l its := ⟨_, get, rfl, cap, rfl⟩
  unfold Builtin.«set.__init__»; unfold noKeywords Builtin.Frozenset.updateFrom
  generalize kept : pyIter = it0
  wp_walk
  subst kept
  refine (wpAny_pyIter_tuple isl ?_)
  refine (wpAny_bind (wpAny_runValue ?_))
  have l0 : l < sh.heap.objs.size := Heap.lt_size get
  have zs : z < sh.heap.objs.size := Heap.lt_size set0
  have calm3 : A.in1.in1.handled = none := by simp [hh]
  have z1 : z ∉ [sh.heap.objs.size, l] := by
    simp only [List.mem_cons, List.not_mem_nil, or_false, not_or]
    exact ⟨Nat.ne_of_lt zs, hz.symm⟩
  have each : ∀ (i : Nat) (v : Value), its[i]? = some v → ∃ p, ks[i]? = some p ∧ v = .ref p.1 := fun i v hv => by
    have q : its.toList[i]? = some v := by rw [Array.getElem?_toList]; exact hv
    rw [hi, List.getElem?_map, Option.map_eq_some_iff] at q
    obtain ⟨p, h1, h2⟩ := q
    exact ⟨p, h1, h2.symm⟩
  have fresh : old.get? sh.heap.objs.size = none := by
    cases q : old.get? sh.heap.objs.size with
    | none => rfl
    | some o => exact absurd (Heap.lt_size (keep _ o q)) (Nat.lt_irrefl _)
  refine updD ((Walks.tuple calm3 _ l (Nat.ne_of_lt l0) its).toS) z z1 ks len few each old tup z0 (fun b hb => by rw [List.mem_singleton.mp hb]; exact fresh) un its.size 0 _ rfl (Nat.zero_le _)
    ?st (fun b o e => Heap.get?_push_of_some _ (keep b o e)) ?em ?fin
  case st => exact ⟨⟨_, Heap.get?_push_size _ rfl, rfl, rfl⟩, isl.push _⟩
  case em => exact ⟨[], #[], 0, _, TD.of (setTR_fresh (Heap.get?_push_of_some _ set0)), fun p h => (by cases h), fun p h => (by simp at h)⟩
  intro s2 L es ep t mv full g kk
  obtain ⟨hp, g2, d2, t2, o2⟩ := s2
  cases (show g2 = sh.gens from mv.gens)
  cases (show d2 = sh.drawn from mv.drawn)
  cases (show o2 = sh.os from mv.os)
  show wpAny _ _ _ _ _ _
  refine wpAny_pure ?_
  show (wpAny _ _ (ret Value.none) _ _ _)
  exact wpAny_pure ⟨rfl, hp, t2, L, es, ep, t, rfl, full, len ▸ g, kk⟩
set_option maxHeartbeats 3200700 in
theorem set_of_tupsDT {l : Addr} {its : Array Value} {ks : List Rw} {Q : Value → Shared → Prop} (hh : A.handled = none) (hl : sh.heap.IsTuple l its)
    (hi : its.toList = ks.map fun p => Value.ref p.1) (tup : ∀ p ∈ ks, IsT P w sh.heap p.2 p.1) (few : FewD ks) (un : A.units + 30 < cLine)
    (q : ∀ s2, FilledD P w sh.heap sh.heap.objs.size ks sh s2 → Q (.ref sh.heap.objs.size) s2) :
    wpAny (model P w) A (call (.type "set") [.ref l]) Q E sh := by
  obtain ⟨mr, rest, hmro⟩ := F.called_set.mro
  have b1 := F.called_set.made
  have b2 := F.called_set.sub
  refine (wpAny_call (codeAny_of_tree ?_))
  show (wpAny _ _ (callAny (.type "set") _) _ _ _)
  refine wpAny_pure ⟨(Code.quiet_builtin _ (by decide +kernel)), codeAny_builtin F.entry_type_call ?_⟩
  rw [Around.under_plain (weight_type_call_type "set" [Value.ref l] []) rfl]
  have b3 := F.called_set.notType
  have b4 := F.called_set.canCreate
  have b5 := F.typeCall_set_1 (.ref l)
  repeat (any_goals (first | (assumption) | wp_step))
  refine codeAny_mono (code_set_led1 (.ref l) (E := E) (Q₁ := fun v s1 => v = .ref sh.heap.objs.size ∧ s1 = { sh with heap := sh.heap.push (nso w) }) ⟨rfl, rfl⟩) fun r1 s1 h1 => ?_
  cases r1 with
  | error _ => exact h1
  | ok f1 =>
    cases f1 with
    | ret v =>
      obtain ⟨rfl, rfl⟩ := h1
      have at0 : (sh.heap.push (nso w)).get? sh.heap.objs.size = some (nso w) := Heap.get?_push_size _ rfl
      have ty : Shared.TypeIs { sh with heap := sh.heap.push (nso w) } (.ref sh.heap.objs.size) "set" := ⟨_, at0, rfl⟩
      have c1 := F.called_set.init.lookup
      have c2 := F.called_set.init.bind (.ref sh.heap.objs.size)
      repeat (any_goals (first | (assumption) | wp_step))
      have lt : l < sh.heap.objs.size := by
        obtain ⟨o, ho, _⟩ := hl
        exact Heap.lt_size ho
      have none0 : sh.heap.get? sh.heap.objs.size = none := by
        cases q : sh.heap.get? sh.heap.objs.size with
        | none => rfl
        | some o => exact absurd (Heap.lt_size q) (Nat.lt_irrefl _)
      refine codeAny_mono (fill_tupsDT (E := E) (by simp [hh]) at0 (hl.push _) (Nat.ne_of_lt lt) hi (fun b o e => Heap.get?_push_of_some _ e) none0 tup few (show A.units + 1 + 2 < cLine by omega)) fun r2 s2 h2 => ?_
      cases r2 with
      | error _ => exact h2
      | ok f2 =>
        cases f2 with
        | ret r =>
          obtain ⟨rfl, hp, tk, L, es, ep, t, rfl, full, g, kk⟩ := h2
          repeat (any_goals (first | (assumption) | wp_step))
          exact q _ ⟨hp, tk, L, es, ep, t, rfl, full, g, kk⟩
        | _ => exact h2.elim
    | _ => exact h1.elim
theorem sorted_tupsD {a : Addr} {L : List Rw} {es : Array (Int × Value)} {ep : Nat} {t : SetTable} {Q : Value → Shared → Prop} (R : TD P w s.heap a L es ep t) (hh : A.handled = none) (hne : ∀ p ∈ L, p.2 ≠ [])
    (hQ : ∀ s2 p (out : Array Value) (c : Nat) (M : List Rw), (∀ b o, s.heap.get? b = some o → s2.heap.get? b = some o) → s2.gens = s.gens → s2.os = s.os → s.heap.objs.size ≤ p →
      s2.heap.get? p = some (seqObj "list" out c) → out.toList = M.map (fun q => Value.ref q.1) → M.Perm L → M.Pairwise (fun q r => HT.lexLt r.2 q.2 = false) → Q (.ref p) s2) :
    wpAny (model P w) A (call (.builtin "sorted")
      [.ref a]) Q E s := by
  obtain ⟨o, ho, hex, hd⟩ := (R.ob)
  have few := R.few
  have hsz := R.sz
  refine (Calls.call_function_entry kind_sorted plain_sorted entry_sorted (args_sorted1 _) ?_)
  unfold Builtin.«sorted»
  refine (wpAny_bind (m := checkCount "sorted" 1 1 _) (wpAny_pure ?_))
  refine wpAny_bind (collect_set (A := A.in1) hh ⟨o, ho, hex.1, hd⟩ R.fit (by unfold scanBound; omega) R.tab.rise R.led fun s1 vs k1 hz g1 o1 pm => ?_)
  have hes : (es.toList.map (·.2)) = (L.map fun q => Value.ref q.1) := by
    rw [R.rows]; unfold rowsOf; rw [List.map_map] <;> rfl
  rw [hes] at pm
  have one : ∀ q ∈ L, ∀ r ∈ L, q.1 = r.1 → q = r :=
   fun q hq r hr e => by
    have b1 := R.tup q hq
    have b2 := R.tup r hr
    rw [e] at b1
    exact Prod.ext e (b1.inj b2)
  have nL : L.Nodup := (nodup_of_map R.nd)
  have perm_of : ∀ M : List Rw, (∀ q ∈ M, q ∈ L) → (M.map (fun q => Value.ref q.1)).Perm (L.map fun q => Value.ref q.1) → M.Perm L := by
    intro M hs pm1
    have nref : List.Nodup (L.map fun q => Value.ref q.1) := by
      refine (List.pairwise_map.mpr (List.Pairwise.imp_of_mem (fun {q r} hq hr hne e => ?_) nL))
      injection e with e
      exact (hne (one q hq r hr e))
    have n1 : M.Nodup := nodup_of_map (pm1.nodup_iff.mpr nref)
    refine (List.perm_ext_iff_of_nodup n1 nL).mpr (fun q => ⟨hs q, (fun hq => ?_)⟩)
    obtain ⟨r, hr, e⟩ := List.mem_map.mp (pm1.mem_iff.mpr (List.mem_map.mpr ⟨q, hq, rfl⟩))
    injection e with e
    exact (one r (hs r hr) q hq e) ▸ hr
  have vl : vs.length < 306 := by rw [pm.length_eq, List.length_map]; exact few
  have hfit : vs.length ≤ sizeLine := by rw [sizeLine_eq]; omega
  refine wpAny_bind (wpAny_newList ?_ hfit)
  have hoL : (s1.heap.push (seqObj "list" vs.toArray 0)).get? s1.heap.objs.size = some (seqObj "list" vs.toArray 0) := (Heap.get?_push_size _ rfl)
  have tk : ∀ q ∈ L, TS.TupInts (s1.heap.push (seqObj "list" vs.toArray 0)) (.ref q.1) q.2 := fun q hq => (tupInts_of (P := P) (w := w) (isT_keep (R.tup q hq) fun b u e => Heap.get?_push_of_some _ (k1 b u e)))
  have key : ∀ v ∈ vs, ∃ q ∈ L, v = Value.ref q.1 := fun v hv => by
    obtain ⟨q, hq, e⟩ := (List.mem_map.mp (pm.mem_iff.mp hv))
    exact ⟨q, hq, e.symm⟩
  have hk : ∀ v ∈ vs, TS.TupInts (s1.heap.push (seqObj "list" vs.toArray 0)) v (TS.intsOf (s1.heap.push (seqObj "list" vs.toArray 0)) v) ∧ TS.intsOf (s1.heap.push (seqObj "list" vs.toArray 0)) v ≠ [] := fun v hv => by
    obtain ⟨q, hq, rfl⟩ := key v hv
    have e := (tk q hq).ints
    exact ⟨e.symm ▸ tk q hq, by rw [e]; exact hne q hq⟩
  refine wpAny_bind (wpAny_holding (wpAny_call_entry slot_list_sort ⟨_, hoL, rfl⟩ entry_list_sort (list_sort_ord (s := { s1 with heap := s1.heap.push (seqObj "list" vs.toArray 0) }) (swo_lexL fun v => TS.intsOf (s1.heap.push (seqObj "list" vs.toArray 0)) v) hoL hfit (fun h2 => ?_) fun out hs hb => ⟨_, rfl, ?_⟩) (args_list_sort _)))
  · refine tups_sortable (s := { s1 with heap := s1.heap.push (seqObj "list" vs.toArray 0) }) (by omega) hk fun o e => ?_
    have e2 : some o = some (seqObj "list" vs.toArray 0) := e.symm.trans hoL
    cases e2
    intro c
    exact (absurd (Value.type.inj c) (by decide))
  obtain ⟨c, hc⟩ := sortedHeap_at (vs := vs) (out := out.toArray) hoL
  obtain ⟨M, e1, hs1⟩ := refs_rows (L := L) out fun v hv => key v (hb.perm.mem_iff.mp hv)
  have pL : M.Perm L := perm_of M hs1 (by rw [← e1]; exact hb.perm.trans pm)
  have pw : M.Pairwise (fun q r => HT.lexLt r.2 q.2 = false) := by
    have h5 : out.Pairwise fun v u => HT.lexLt (TS.intsOf (s1.heap.push (seqObj "list" vs.toArray 0)) u) (TS.intsOf (s1.heap.push (seqObj "list" vs.toArray 0)) v) = false := hs
    rw [e1] at h5
    refine List.Pairwise.imp_of_mem (fun {q r} hq hr hle => ?_) (List.pairwise_map.mp h5)
    have f1 := (tk q (hs1 q hq)).ints
    have f2 := (tk r (hs1 r hr)).ints
    rw [f1, f2] at hle
    exact hle
  refine wpAny_pure ⟨_, rfl, hQ _ s1.heap.objs.size out.toArray c M (fun b u e => ?_) g1 o1 hz hc e1 pL pw⟩
  have q := k1 b u e
  have hlt := Heap.lt_size q
  show ((sortedHeap (s1.heap.push (seqObj "list" vs.toArray 0)) s1.heap.objs.size vs out.toArray).get? b = some u)
  rw [sortedHeap_old (Nat.ne_of_lt hlt) (by rw [size_push']
                                            exact Nat.lt_succ_of_lt hlt)]
  exact (Heap.get?_push_of_some _ q)
theorem set_of_tupsDA {l : Addr} {its : Array Value} {ks : List Rw} {Q : Value → Shared → Prop} (hh : A.handled = none) (hl : sh.heap.IsList l its ∨ IsTup sh.heap l its)
    (hi : its.toList = ks.map fun p => Value.ref p.1) (tup : ∀ p ∈ ks, IsT P w sh.heap p.2 p.1) (few : FewD ks) (un : A.units + 30 < cLine)
    (q : ∀ s2, FilledD P w sh.heap sh.heap.objs.size ks sh s2 → Q (.ref sh.heap.objs.size) s2) :
    wpAny (model P w) A (call (.type "set") [.ref l]) Q E sh := by
  rcases hl with hl | hl
  · exact set_of_tupsD hh hl hi tup few un q
  · exact set_of_tupsDT hh hl hi tup few un q
end
end ZS
namespace Z
open PySem.Spec PyProof.Rows L2 PySem
variable {K : PySem.W.Frag}
def rUpD (K : PySem.W.Frag) : List V → Hp → VK → Prop := fun vs H Q => ∃ (a : Addr) (ks : List ZS.Rw), vs = [V.ref a] ∧ SqA K H a (ks.map fun p => V.ref p.1) ∧ (∀ p ∈ ks, SqT K H p.1 (p.2.map V.int) ∧ p.2 ≠ []) ∧ (upT (ks.map (·.2))).length < 305 ∧
  ∀ (M : List ZS.Rw) (p : Addr), (∀ q ∈ M, q ∈ ks) → M.map (·.2) = upT (ks.map (·.2)) → H p = none → Q (.ref p) (upd H p (.lst (M.map fun q => V.ref q.1)))
def rUp5 (K : PySem.W.Frag) : List V → Hp → VK → Prop := fun vs H Q => rUp K vs H Q ∨ rUpD K vs H Q
theorem pe_upset5 {X : Cx} {a : Expr} {ta : TE} {p p2 q pos : Pos} (hu : Hu X) (hg : Gl X "sorted") (hm : X.mg "sorted" = none) (hg2 : Gl X "set") (hm2 : X.mg "set" = none) (ha : PE X a ta) (hc : X.calm = true)
    (na : starEach [a] X.env = (false, eval a X.env) :: starEach [] X.env) : PE X (.Call (.Name "sorted" p) [.Call (.Name "set" p2) [a] [] q] [] pos) (tCB (rUp5 X.K) (tCons ta tNil)) := by
  constructor
  intro pins sh σ H Q I h
  refine (Call_ (ld_blt I hg hm (by decide +kernel : bootBuiltins "sorted" = some (.builtin "sorted")) ?_))
  refine (PyProof.Rows.callWith_builtin1 (PyProof.Rows.args_cons ?_ rfl) rfl rfl)
  refine (Call_ (ld_blt I hg2 hm2 PyProof.Rows.boot_set ?_))
  refine PyProof.Rows.callWith_type1 (PyProof.Rows.args_cons (thn (ha.run pins sh σ H _ I h) fun v sh1 z => ?_) na) na rfl
  obtain ⟨x, H1, I1, rv, z | z⟩ := z
  · obtain ⟨a1, ns, e0, hq, hle, h64, qq⟩ := z
    cases e0
    cases rv
    apply PyProof.Rows.args_nil
    obtain ⟨us, ru, pu, hz⟩ := inv_seq I1 hq
    refine set_any (I1.ok.hd hc) pu ru.ints hle fun hp tk c full kept => ?_
    have hc2 := setR_len full
    subst hc2
    apply PyProof.Rows.args_nil
    have I2 : Inv X pins σ H1 { sh1 with heap := hp, toks := tk } := I1.kept kept
    refine sorted_set full (I2.ok.hd hc) h64 fun s2 p2 out n2 ms keep2 eg eo hp2 here isI lt mem len => ?_
    have em : upL ns = ms := upL_eq lt fun k => by
      rw [mem k]
      simp
    have free : H1 p2 = none := I2.hok.fresh hp2
    have room : (ms.map V.int).length ≤ sizeLine := by
      rw [List.length_map, len]
      rw [sizeLine_eq]
      omega
    obtain ⟨h2, g2, d2, t2, o2⟩ := s2
    cases (show g2 = sh1.gens from eg)
    cases (show o2 = sh1.os from eo)
    have lay := I2.hok.laid keep2 hp2 (o := .lst (ms.map V.int)) ⟨room, out.toList, n2, vals_of_ints isI, here⟩
    have J := I2.call (h' := h2) (g' := sh1.gens) (d' := d2) (t' := t2) (ch := []) (Un.laid keep2 hp2 free) lay I2.bare fun _ no => nomatch no
    exact ⟨.ref p2, _, J, rfl, em ▸ qq p2 free⟩
  · obtain ⟨a1, ks, e0, hq, htup, hfew, qq⟩ := z
    cases e0
    cases rv
    apply PyProof.Rows.args_nil
    obtain ⟨us, ru, pu, hz⟩ := inv_seq I1 hq
    have fw : ZS.FewD ks := fun L nd hL => by
      have := List.Nodup.length_le_of_subset (l₂ := upT (ks.map (·.2))) nd fun k hk => (mem_upT k _).mpr (hL k hk)
      omega
    have un : X.A.units + 65 < cLine := hu
    refine ZS.set_of_tupsDA (P := X.prog) (w := X.w) (ks := ks) (I1.ok.hd hc) pu (by simpa using refs_of_vals ru) (fun p hp => I1.isT (htup p hp).1) fw (by omega) fun s2 fl => ?_
    obtain ⟨hp, tk, L, es, ep, t, rfl, full, g, kept⟩ := fl
    apply PyProof.Rows.args_nil
    have I2 : Inv X pins σ H1 { sh1 with heap := hp, toks := tk } := I1.kept kept
    have sub : ∀ p ∈ L, p ∈ ks := (fun p hp => List.mem_of_mem_take (g.sub p hp))
    refine ZS.sorted_tupsD (s := { sh1 with heap := hp, toks := tk }) full (I2.ok.hd hc) (fun p hp => (htup p (sub p hp)).2) fun s2 p2 out n2 M keep2 eg eo hp2 here eout pm pw => ?_
    have subM : ∀ p ∈ M, p ∈ ks := fun p hp => sub p (pm.mem_iff.mp hp)
    have ndM : (M.map (·.2)).Nodup := (pm.map (·.2)).nodup_iff.mpr full.nd
    have em : M.map (·.2) = upT (ks.map (·.2)) := by
      refine (upT_eq ?_ fun k => ?_).symm
      · have pw2 : (M.map (·.2)).Pairwise fun a b => HT.lexLt b a = false := List.pairwise_map.mpr pw
        exact (pw2.and ndM).imp fun {a b} h => lex_or h.1 fun e => h.2 e.symm
      · constructor
        · intro hk
          obtain ⟨p, hp, rfl⟩ := List.mem_map.mp hk
          exact List.mem_map.mpr ⟨p, subM p hp, rfl⟩
        · intro hk
          obtain ⟨p, hp, rfl⟩ := List.mem_map.mp hk
          rw [(pm.map (·.2)).mem_iff]
          exact g.all p (by rw [List.take_length]; exact hp)
    have free : H1 p2 = none := I2.hok.fresh hp2
    have room : (M.map fun q => V.ref q.1).length ≤ sizeLine := by
      rw [List.length_map, pm.length_eq]
      have := full.few
      rw [sizeLine_eq]
      omega
    obtain ⟨h2, g2, d2, t2, o2⟩ := s2
    cases (show g2 = sh1.gens from eg)
    cases (show o2 = sh1.os from eo)
    have hv : Vals (M.map fun q => V.ref q.1) out.toList := by rw [eout]; exact vals_of_refs M
    have lay := I2.hok.laid keep2 hp2 (o := .lst (M.map fun q => V.ref q.1)) ⟨room, out.toList, n2, hv, here⟩
    have J := I2.call (h' := h2) (g' := sh1.gens) (d' := d2) (t' := t2) (ch := []) (Un.laid keep2 hp2 free) lay I2.bare fun _ no => nomatch no
    exact ⟨.ref p2, _, J, rfl, qq M p2 subM em free⟩
def gUp5 (p : P) : Option D := match gUp p with
  | some d => some d
  | none => match p with
    | .lst ps => (tupsP ps).bind fun G => if (upT G).length < 305 then some (.olst (((upT G).map tupI).map .val)) else none
    | .tup ps => (tupsP ps).bind fun G => if (upT G).length < 305 then some (.olst (((upT G).map tupI).map .val)) else none
    | _ => none
theorem sc_up5 : SC1 K (rUp5 K) gUp5 := by
  intro w x vx Q d rx h q
  unfold gUp5 at h
  split at h
  · rename_i d2 h2
    cases h
    exact .inl (sc_up w x vx Q _ rx h2 q)
  · split at h
    · rename_i ps
      simp only [Option.bind_eq_some_iff] at h
      obtain ⟨G, hG, h3⟩ := h
      split at h3
      · rename_i hf
        cases h3
        obtain ⟨e, hne⟩ := tupsP_spec hG
        subst e
        obtain ⟨a, vs, rfl, s, r⟩ := rx
        obtain ⟨ks, e1, e2, h4⟩ := rows_of (repPs_tups r)
        subst e1 e2
        refine .inr ⟨a, ks, rfl, .inl (SqL.of s), fun p hp => ⟨tq (h4 p hp), hne _ (List.mem_map.mpr ⟨p, hp, rfl⟩)⟩, hf, fun M p hM eM hp => ?_⟩
        refine q.lst hp ?_
        rw [← eM]
        exact tups_repPs (pair_of fun q hq => h4 q (hM q hq))
      · cases h3
    · rename_i ps
      simp only [Option.bind_eq_some_iff] at h
      obtain ⟨G, hG, h3⟩ := h
      split at h3
      · rename_i hf
        cases h3
        obtain ⟨e, hne⟩ := tupsP_spec hG
        subst e
        obtain ⟨a, vs, rfl, s, r⟩ := rx
        obtain ⟨ks, e1, e2, h4⟩ := rows_of (repPs_tups r)
        subst e1 e2
        refine .inr ⟨a, ks, rfl, .inr (tq s), fun p hp => ⟨tq (h4 p hp), hne _ (List.mem_map.mpr ⟨p, hp, rfl⟩)⟩, hf, fun M p hM eM hp => ?_⟩
        refine q.lst hp ?_
        rw [← eM]
        exact tups_repPs (pair_of fun q hq => h4 q (hM q hq))
      · cases h3
    · cases h
theorem q_upset5 {X : Cx} {a : Expr} {ta : TE} {ma : M P} {p p2 q pos : Pos} (hu : Hu X) (hm : X.mg "sorted" = none) (hm2 : X.mg "set" = none) (ha : QB K X a ta ma) (hc : X.calm = true := by rfl) (hg : Gl X "sorted" := by rfl) (hg2 : Gl X "set" := by rfl)
    (na : starEach [a] X.env = (false, eval a X.env) :: starEach [] X.env := by rfl) (hK : X.K = K := by rfl) : QE K X (.Call (.Name "sorted" p) [.Call (.Name "set" p2) [a] [] q] [] pos) (tCB (rUp5 K) (tCons ta tNil)) (mUn gUp5 ma) := by
  subst hK
  exact ⟨pe_upset5 hu hg hm hg2 hm2 ha.p hc na, je_c1 sc_up5 ha.j⟩
theorem o_upl5 {ns : List Int} (h : ns.length ≤ 4000 ∧ (upL ns).length < 64) : gUp5 (.lst (ns.map .int)) = some (.olst (((upL ns).map .int).map .val)) := by
  unfold gUp5
  rw [o_upl h]
theorem o_upT5 {G : List (List Int)} (hne : ∀ g ∈ G, g ≠ []) (h : (upT G).length < 305) : gUp5 (.lst (G.map tupI)) = some (.olst (((upT G).map tupI).map .val)) := by
  cases G with
  | nil => exact o_upl5 (ns := []) ⟨by simp, by simp [upL]⟩
  | cons g G =>
    have h0 : gUp (.lst ((g :: G).map tupI)) = none := rfl
    unfold gUp5
    rw [h0]
    show ((tupsP ((g :: G).map tupI)).bind fun G => if (upT G).length < 305 then some (D.olst (((upT G).map tupI).map .val)) else none) = _
    rw [tupsP_map hne, Option.bind_some, if_pos h]
end Z
namespace Z
open PySem.Spec PyProof.Rows L2 PySem
variable {K : PySem.W.Frag}
end Z
namespace Z
open PySem.Spec PyProof.Rows L2 PySem
variable {K : PySem.W.Frag}
section
variable {X : Cx} {kx vx tg : Expr} {ifs : List Expr} {scope : Scope} {pos : Pos} {g : TG} {tt : TT} {tk tv : TE} {mg : MG} {mt : M Bool} {mk : M Ky} {mv : M D} {cs : List Nat}
end
end Z
namespace Z
open PySem.Spec PyProof.Rows L2 PySem
end Z
namespace Z
open PySem.Spec PyProof.Rows L2 PySem
variable {K : PySem.W.Frag}
section
variable {X : Cx} {a : Expr} {ta tb : TE} {ma mb : M P} {pos p2 : Pos} {j : Nat} {c : Bool}
end
end Z
namespace Z
open PySem.Spec PyProof.Rows L2 PySem
end Z
namespace Z
open PySem.Spec PyProof.Rows L2 PySem
variable {K : PySem.W.Frag}
theorem din_none {neg : Bool} {i : Nat} {mk : M Ky} {e : Z.Env} {y : Ky} {e1 : Z.Env} {d : D} (h : mk e = some (y, e1)) (hd : DatR e1 i d) (hn : dAt d y = none) : mDIn neg i mk e = none := by
  unfold mDIn
  rw [h]
  simp only [Option.bind_some, hd.da, hn, Option.map_none]
end Z
namespace Z
open PySem.Spec PyProof.Rows L2 PySem
variable {K : PySem.W.Frag}
def tAltB (t u : TT) : TT := fun σ H Q => t σ H Q ∨ u σ H Q
def mAltB (m n : M Bool) : M Bool := fun e => match m e with
  | some r => some r
  | none => n e
theorem qt_altB {X : Cx} {a : Expr} {t u : TT} {m n : M Bool} (h1 : QT K X a t m) (h2 : QT K X a u n) : QT K X a (tAltB t u) (mAltB m n) := by
  refine ⟨⟨fun pins sh σ H Q I h => ?_⟩, fun σ₀ σ w e f Q d e2 E G hm hq => ?_⟩
  · rcases h with h | h
    · exact h1.p.run pins sh σ H Q I h
    · exact h2.p.run pins sh σ H Q I h
  · unfold mAltB at hm
    split at hm
    · rename_i r hr
      cases hm
      exact .inl (h1.j σ₀ σ w e f Q _ _ E G hr hq)
    · exact .inr (h2.j σ₀ σ w e f Q d e2 E G hm hq)
theorem w_altB1 {m n : M Bool} {e : Z.Env} {Q : Bool → Z.Env → Prop} (h : W (m e) Q) : W (mAltB m n e) Q := by
  obtain ⟨o, e1, h1, q⟩ := h
  exact ⟨o, e1, by unfold mAltB; rw [h1], q⟩
theorem w_altB2 {m : M D} {n : M Bool} {e : Z.Env} {Q : Bool → Z.Env → Prop} (h0 : m e = none) (h : W (n e) Q) : W (mAltB (mTb m) n e) Q := by
  obtain ⟨o, e1, h1, q⟩ := h
  exact ⟨o, e1, by unfold mAltB mTb; rw [h0]; exact h1, q⟩
end Z
namespace Z
open PySem.Spec PyProof.Rows L2 PySem
section
variable {X : Cx}
end
end Z
namespace Z
open PySem.Spec PyProof.Rows L2 PySem
variable {K : PySem.W.Frag}
def sNever : MS := fun _ => none
theorem js_never {t : TS} : JS K t sNever := by
  intro σ₀ σ w e f D o e' E G hm hp
  cases hm
theorem comp_in {gt : TG} {tt : TT} {te : TE} {g : MG} {mt : M Bool} {me : M D} {cs vs : List Nat} {J : It} (hg : JG K cs gt g) (hcs : ∀ i ∈ cs, i ∈ vs) (ht : JT K tt mt) (he : JE K te me)
    {σ₀ σ : St} {w' : Wd} {fe fv : List Addr} {Da : Addr} {acc0 : List V} {accD0 ds : List D} {facc0 : List Addr} {e2 eE : Env} {ps : List P} {Nx : Hp → Prop}
    (g' : Good w' ((fe ++ (Da :: facc0)) ++ fv)) (it : ItR K w' fv J ps) (E2 : EnvR K w' e2 σ₀ (wipe σ vs) fe) (hD0 : w'.H Da = some (.lst acc0)) (R0 : RepDs K w' accD0 acc0 facc0) (h3 : compL g mt me vs ps accD0 e2 = some (ds, eE))
    (hN : ∀ w1 f1 acc facc, Ev (fe ++ (Da :: facc0)) w' w1 (f1 ++ (Da :: facc)) → Good w1 (f1 ++ (Da :: facc)) → EnvR K w1 eE σ₀ (wipe σ vs) f1 → w1.H Da = some (.lst acc) → RepDs K w1 ds acc facc → Nx w1.H) :
    ∃ W1 : Nat → Nat → Hp → Prop, (∃ m, W1 0 m w'.H) ∧ ∀ j k H, W1 j k H →
      (J.stop j H ∧ Nx H) ∨ (J.go j H ∧ ∃ Nx1 : Hp → Prop, (∀ H', Nx1 H' → ∃ k', k' < k ∧ W1 (j + 1) k' H') ∧ ∀ x H', J.yld j H x H' → gt x (wipe σ vs) H' fun σ3 H5 => wipe σ3 vs = wipe σ vs ∧ tt σ3 H5 fun b H6 =>
        if b = true then te σ3 H6 fun y H7 => ∃ acc, H7 Da = some (.lst acc) ∧ acc.length < sizeLine ∧ Nx1 (upd H7 Da (.lst (acc ++ [y]))) else Nx1 H6) := by
  have kp : ∀ {w1 : Wd} {f1 : List Addr}, Ev (fe ++ (Da :: facc0)) w' w1 f1 → Keeps w' w1 fv := fun {w1 f1} ev1 => Keeps.of g'.left ev1 fun a m q => (List.nodup_append.mp g'.nd).2.2 a q a m rfl
  refine ⟨fun i mm H => ∃ w1 e1 f1 acc accD facc, w1.H = H ∧ Ev (fe ++ (Da :: facc0)) w' w1 (f1 ++ (Da :: facc)) ∧ Good w1 (f1 ++ (Da :: facc)) ∧ EnvR K w1 e1 σ₀ (wipe σ vs) f1 ∧ w1.H Da = some (.lst acc) ∧ RepDs K w1 accD acc facc ∧ i + mm = ps.length ∧
      compL g mt me vs (ps.drop i) accD e1 = some (ds, eE), ⟨ps.length, w', e2, fe, acc0, accD0, facc0, rfl, Ev.refl _ _, g'.left, E2, hD0, R0, by omega, by simpa using h3⟩, fun i mm H hW => ?_⟩
  obtain ⟨w1, e3, f1, acc, accD, facc, rfl, ev1, g1, E1, hD, R1, hl, hf⟩ := hW
  by_cases hi : i < ps.length
  · refine .inr ⟨it.go w1 i (kp ev1) hi, fun H' => ∃ w1 e1 f1 acc accD facc, w1.H = H' ∧ Ev (fe ++ (Da :: facc0)) w' w1 (f1 ++ (Da :: facc)) ∧ Good w1 (f1 ++ (Da :: facc)) ∧ EnvR K w1 e1 σ₀ (wipe σ vs) f1 ∧ w1.H Da = some (.lst acc) ∧ RepDs K w1 accD acc facc ∧
      compL g mt me vs (ps.drop (i + 1)) accD e1 = some (ds, eE), fun H' hN => ?_, fun x H' hy => ?_⟩
    · obtain ⟨w3, e3, f3, ac, acD, fac, a1, a2, a3, a4, a5, a6, a7⟩ := hN
      exact ⟨mm - 1, by omega, w3, e3, f3, ac, acD, fac, a1, a2, a3, a4, a5, a6, by omega, a7⟩
    · obtain ⟨w2, rfl, ev2, rp⟩ := it.yld w1 i x H' ps[i] (kp ev1) hy (List.getElem?_eq_getElem hi)
      rw [List.drop_eq_getElem_cons hi] at hf
      simp only [compL] at hf
      have ev2' : Ev (fe ++ (Da :: facc0)) w' w2 (f1 ++ (Da :: facc)) := ev1.trans (by simpa using ev2.frame (f1 ++ (Da :: facc)))
      have g2 : Good w2 (f1 ++ (Da :: facc)) := by simpa using Good.frame (f := []) (g := f1 ++ (Da :: facc)) (by simpa using g1) ev2 (Good.nil _)
      have k2 : ∀ l, Keeps w1 w2 l := fun l => Keeps.of (Good.nil w1) ev2 fun _ _ => by simp
      have E2 : EnvR K w2 e3 σ₀ (wipe σ vs) f1 := E1.keeps (k2 _)
      have hD2 : w2.H Da = some (.lst acc) := (k2 [Da]).own Da (by simp) _ hD
      have R2 := R1.keeps accD acc facc (k2 _)
      -- a frame through an evaluation
      have step : ∀ {wa wb : Wd} {fa fb : List Addr}, Ev (fe ++ (Da :: facc0)) w' wa (fa ++ (Da :: facc)) → Good wa (fa ++ (Da :: facc)) → wa.H Da = some (.lst acc) → RepDs K wa accD acc facc → Ev fa wa wb fb → Good wb fb →
          Ev (fe ++ (Da :: facc0)) w' wb (fb ++ (Da :: facc)) ∧ Good wb (fb ++ (Da :: facc)) ∧ wb.H Da = some (.lst acc) ∧ RepDs K wb accD acc facc := fun {wa wb fa fb} a1 a2 a3 a4 a5 a6 => by
        have ne : ∀ a ∈ Da :: facc, a ∉ fa := fun a m q => (List.nodup_append.mp a2.nd).2.2 a q a m rfl
        have k := Keeps.of a2.left a5 ne
        exact ⟨a1.trans (a5.frame _), a2.frame a5 a6, k.own Da (by simp) _ a3, a4.keeps accD acc facc (k.weak fun a m => List.mem_cons_of_mem _ m)⟩
      split at hf
      · cases hf
      · rename_i e4 h4
        refine hg σ₀ (wipe σ vs) w2 e3 f1 [] x (.val ps[i]) _ e4 E2 (by simpa using g2.left) ⟨rfl, rp⟩ h4 fun σ3 w3 f3 bt ev3 g3 E3 => ?_
        have ev3' : Ev f1 w2 w3 f3 := by simpa using ev3
        have wb := wipe_but bt hcs
        refine ⟨wb, ?_⟩
        obtain ⟨p1, p2, p3, p4⟩ := step ev2' g2 hD2 R2 ev3' g3
        split at hf
        · cases hf
        · rename_i e5 h5
          refine ht σ₀ σ3 w3 e4 f3 _ false e5 E3 g3 h5 fun w4 f4 ev4 g4 E4 => ?_
          simp only [if_false, Bool.false_eq_true]
          obtain ⟨q1, q2, q3, q4⟩ := step p1 p2 p3 p4 ev4 g4
          obtain ⟨f5, hs5, E5⟩ := clr_ok (vs := vs) E4
          rw [wb] at E5
          exact ⟨w4, _, f5, acc, accD, facc, rfl, q1.less fun a m => (List.Sublist.append_right hs5 _).subset m, q2.sublist (List.Sublist.append_right hs5 _), E5, q3, q4, hf⟩
        · rename_i e5 h5
          refine ht σ₀ σ3 w3 e4 f3 _ true e5 E3 g3 h5 fun w4 f4 ev4 g4 E4 => ?_
          rw [if_pos rfl]
          obtain ⟨q1, q2, q3, q4⟩ := step p1 p2 p3 p4 ev4 g4
          split at hf
          · cases hf
          · rename_i d6 e6 h6
            split at hf
            · rename_i hz
              refine he σ₀ σ3 w4 e5 f4 _ d6 e6 E4 g4 h6 fun y w5 f5 fd ev5 g5 E5 rd => ?_
              obtain ⟨r1, r2, r3, r4⟩ := step q1 q2 q3 q4 ev5 g5
              refine ⟨acc, r3, by rw [← r4.length]; exact hz, ?_⟩
              have ho := r2.own Da (by simp)
              have nd := r2.nd
              have nDa : Da ∉ f5 ∧ Da ∉ fd ∧ Da ∉ facc := by
                have z := List.nodup_append.mp nd
                refine ⟨fun m => z.2.2 Da (List.mem_append_left _ m) Da (by simp) rfl, fun m => z.2.2 Da (List.mem_append_right _ m) Da (by simp) rfl, ?_⟩
                exact (List.nodup_cons.mp z.2.1).1
              have kput : ∀ l, Da ∉ l → Keeps w5 (w5.put Da (.lst (acc ++ [y])) (.inl rfl)) l := fun l h => Keeps.put rfl r3 ho.1 rfl h
              obtain ⟨f7, hs7, E7⟩ := clr_ok (vs := vs) (E5.keeps (kput f5 nDa.1))
              rw [wb] at E7
              have pm : ((f5 ++ fd) ++ (Da :: facc)).Perm (f5 ++ (Da :: (facc ++ fd))) := by
                rw [List.append_assoc]
                refine List.Perm.append_left f5 ?_
                exact List.perm_append_comm
              have sb : (f7 ++ (Da :: (facc ++ fd))).Sublist (f5 ++ (Da :: (facc ++ fd))) := List.Sublist.append_right hs7 _
              refine ⟨w5.put Da (.lst (acc ++ [y])) (.inl rfl), _, f7, acc ++ [y], accD ++ [d6], facc ++ fd, rfl, ?_, ((r2.perm pm).sublist sb).put rfl, E7, upd_same, ?_, hf⟩
              · refine (r1.trans (Ev.put rfl r3 (by simp))).less fun a m => (pm.mem_iff).mpr (sb.subset m)
              · exact (r4.keeps accD acc facc (kput facc nDa.2.2)).append (RepDs.one (rd.keeps d6 y fd (kput fd nDa.2.1)))
            · cases hf
  · refine .inl ⟨it.stop w1 i (kp ev1) (by omega), ?_⟩
    rw [List.drop_of_length_le (by omega)] at hf
    simp only [compL, Option.some.injEq, Prod.mk.injEq] at hf
    obtain ⟨rfl, rfl⟩ := hf
    exact hN w1 f1 acc facc ev1 g1 E1 hD R1
theorem wipe_wipe {σ : St} {vs vs1 : List Nat} (h : ∀ i ∈ vs1, i ∈ vs) : wipe (wipe σ vs1) vs = wipe σ vs := by
  apply List.ext_getElem?
  intro i
  rw [wipe_get, wipe_get, wipe_get, wipe_length]
  by_cases hi : i ∈ vs
  · rw [if_pos hi, if_pos hi]
  · rw [if_neg hi, if_neg hi, if_neg fun m => hi (h i m)]
def compL2 (g : MG) (tt : M Bool) (m1 : M (List P)) (g1 : MG) (tt1 : M Bool) (te : M D) (vs vs1 : List Nat) : List P → List D → Env → Option (List D × Env)
  | [], acc, e => some (acc, e)
  | p :: ps, acc, e => match g (.val p) e with
    | none => none
    | some e1 => match tt e1 with
      | none => none
      | some (false, e2) => compL2 g tt m1 g1 tt1 te vs vs1 ps acc (clr vs e2)
      | some (true, e2) => match m1 e2 with
        | none => none
        | some (qs, e3) => match compL g1 tt1 te vs1 qs acc (clr vs1 e3) with
          | none => none
          | some (acc2, e4) => compL2 g tt m1 g1 tt1 te vs vs1 ps acc2 (clr vs e4)
def mComp2 (m : M (List P)) (g : MG) (tt : M Bool) (m1 : M (List P)) (g1 : MG) (tt1 : M Bool) (te : M D) (vs vs1 : List Nat) : M D := fun e => (m e).bind fun x => (hid vs x.2).bind fun e1 => (compL2 g tt m1 g1 tt1 te vs vs1 x.1 [] e1).map fun y => (.olst y.1, res x.2 vs y.2)
theorem je_comp2 {wi wi1 : TI} {gt gt1 : TG} {tt tt1 : TT} {te : TE} {m m1 : M (List P)} {g gB : MG} {mt mt1 : M Bool} {me : M D} {cs cs1 vs vs1 : List Nat} (hi : JI K wi m) (hg : JG K cs gt g) (hcs : ∀ i ∈ cs, i ∈ vs) (ht : JT K tt mt)
    (hi1 : JI K wi1 m1) (hg1 : JG K cs1 gt1 gB) (hcs1 : ∀ i ∈ cs1, i ∈ vs1) (hv : ∀ i ∈ vs1, i ∈ vs) (ht1 : JT K tt1 mt1) (he : JE K te me) :
    JE K (tLc2 wi gt tt wi1 gt1 tt1 te vs vs1) (mComp2 m g mt m1 gB mt1 me vs vs1) := by
  intro σ₀ σ w e f Q d e' E G hm hq
  simp only [mComp2, Option.bind_eq_some_iff, Option.map_eq_some_iff] at hm
  obtain ⟨⟨ps, e1⟩, h1, e2, h2, ⟨ds, eE⟩, h3, h4⟩ := hm
  cases h4
  refine hi σ₀ σ w e f _ ps e1 E G h1 fun J w' fe fv ev g' E' it => ?_
  have kp : ∀ {w1 : Wd} {f1 : List Addr}, Ev fe w' w1 f1 → Keeps w' w1 fv := fun {w1 f1} ev1 => Keeps.of g'.left ev1 fun a m q => (List.nodup_append.mp g'.nd).2.2 a q a m rfl
  intro Da hDa
  have evN : Ev [] w' (w'.put Da (.lst []) (.inr hDa)) [Da] := Ev.new hDa
  obtain ⟨evI, gI, _⟩ := fin (Ev.refl fe w') g'.left E' evN (Good.new hDa rfl)
  have E2 : EnvR K (w'.put Da (.lst []) (.inr hDa)) e2 σ₀ (wipe σ vs) fe := (hid_ok E' h2).keeps (Keeps.new hDa)
  refine ⟨fun i mm H => ∃ w1 e1 f1 acc accD facc, w1.H = H ∧ Ev fe w' w1 (f1 ++ (Da :: facc)) ∧ Good w1 (f1 ++ (Da :: facc)) ∧ EnvR K w1 e1 σ₀ (wipe σ vs) f1 ∧ w1.H Da = some (.lst acc) ∧ RepDs K w1 accD acc facc ∧ i + mm = ps.length ∧
      compL2 g mt m1 gB mt1 me vs vs1 (ps.drop i) accD e1 = some (ds, eE), ⟨ps.length, w'.put Da (.lst []) (.inr hDa), e2, fe, [], [], [], rfl, evI, gI, E2, upd_same, ⟨rfl, rfl⟩, by omega, by simpa using h3⟩, fun i mm H hW => ?_⟩
  obtain ⟨w1, e3, f1, acc, accD, facc, rfl, ev1, g1, E1, hD, R1, hl, hf⟩ := hW
  by_cases hi : i < ps.length
  · refine .inr ⟨it.go w1 i (kp ev1) hi, fun H' => ∃ w1 e1 f1 acc accD facc, w1.H = H' ∧ Ev fe w' w1 (f1 ++ (Da :: facc)) ∧ Good w1 (f1 ++ (Da :: facc)) ∧ EnvR K w1 e1 σ₀ (wipe σ vs) f1 ∧ w1.H Da = some (.lst acc) ∧ RepDs K w1 accD acc facc ∧
      compL2 g mt m1 gB mt1 me vs vs1 (ps.drop (i + 1)) accD e1 = some (ds, eE), fun H' hN => ?_, fun x H' hy => ?_⟩
    · obtain ⟨w3, e3, f3, ac, acD, fac, a1, a2, a3, a4, a5, a6, a7⟩ := hN
      exact ⟨mm - 1, by omega, w3, e3, f3, ac, acD, fac, a1, a2, a3, a4, a5, a6, by omega, a7⟩
    · obtain ⟨w2, rfl, ev2, rp⟩ := it.yld w1 i x H' ps[i] (kp ev1) hy (List.getElem?_eq_getElem hi)
      rw [List.drop_eq_getElem_cons hi] at hf
      simp only [compL2] at hf
      have ev2' : Ev fe w' w2 (f1 ++ (Da :: facc)) := ev1.trans (by simpa using ev2.frame (f1 ++ (Da :: facc)))
      have g2 : Good w2 (f1 ++ (Da :: facc)) := by simpa using Good.frame (f := []) (g := f1 ++ (Da :: facc)) (by simpa using g1) ev2 (Good.nil _)
      have k2 : ∀ l, Keeps w1 w2 l := fun l => Keeps.of (Good.nil w1) ev2 fun _ _ => by simp
      have E2 : EnvR K w2 e3 σ₀ (wipe σ vs) f1 := E1.keeps (k2 _)
      have hD2 : w2.H Da = some (.lst acc) := (k2 [Da]).own Da (by simp) _ hD
      have R2 := R1.keeps accD acc facc (k2 _)
      have step : ∀ {wa wb : Wd} {fa fb : List Addr}, Ev fe w' wa (fa ++ (Da :: facc)) → Good wa (fa ++ (Da :: facc)) → wa.H Da = some (.lst acc) → RepDs K wa accD acc facc → Ev fa wa wb fb → Good wb fb →
          Ev fe w' wb (fb ++ (Da :: facc)) ∧ Good wb (fb ++ (Da :: facc)) ∧ wb.H Da = some (.lst acc) ∧ RepDs K wb accD acc facc := fun {wa wb fa fb} a1 a2 a3 a4 a5 a6 => by
        have ne : ∀ a ∈ Da :: facc, a ∉ fa := fun a m q => (List.nodup_append.mp a2.nd).2.2 a q a m rfl
        have k := Keeps.of a2.left a5 ne
        exact ⟨a1.trans (a5.frame _), a2.frame a5 a6, k.own Da (by simp) _ a3, a4.keeps accD acc facc (k.weak fun a m => List.mem_cons_of_mem _ m)⟩
      split at hf
      · cases hf
      · rename_i e4 h4
        refine hg σ₀ (wipe σ vs) w2 e3 f1 [] x (.val ps[i]) _ e4 E2 (by simpa using g2.left) ⟨rfl, rp⟩ h4 fun σ3 w3 f3 bt ev3 g3 E3 => ?_
        have ev3' : Ev f1 w2 w3 f3 := by simpa using ev3
        have wb := wipe_but bt hcs
        refine ⟨wb, ?_⟩
        obtain ⟨p1, p2, p3, p4⟩ := step ev2' g2 hD2 R2 ev3' g3
        split at hf
        · cases hf
        · rename_i e5 h5
          refine ht σ₀ σ3 w3 e4 f3 _ false e5 E3 g3 h5 fun w4 f4 ev4 g4 E4 => ?_
          simp only [if_false, Bool.false_eq_true]
          obtain ⟨q1, q2, q3, q4⟩ := step p1 p2 p3 p4 ev4 g4
          obtain ⟨f5, hs5, E5⟩ := clr_ok (vs := vs) E4
          rw [wb] at E5
          exact ⟨w4, _, f5, acc, accD, facc, rfl, q1.less fun a m => (List.Sublist.append_right hs5 _).subset m, q2.sublist (List.Sublist.append_right hs5 _), E5, q3, q4, hf⟩
        · rename_i e5 h5
          refine ht σ₀ σ3 w3 e4 f3 _ true e5 E3 g3 h5 fun w4 f4 ev4 g4 E4 => ?_
          rw [if_pos rfl]
          obtain ⟨q1, q2, q3, q4⟩ := step p1 p2 p3 p4 ev4 g4
          split at hf
          · cases hf
          · rename_i qs e6 h6
            split at hf
            · cases hf
            · rename_i acc2 e8 h8
              refine hi1 σ₀ σ3 w4 e5 f4 _ qs e6 E4 g4 h6 fun J1 w5 f5 fv1 ev5 g5 E5 it1 => ?_
              obtain ⟨r1, r2, r3, r4⟩ := step q1 q2 q3 q4 ev5 g5
              obtain ⟨f6, hs6, E6⟩ := clr_ok (vs := vs1) E5
              have pm : ((f5 ++ fv1) ++ (Da :: facc)).Perm ((f5 ++ (Da :: facc)) ++ fv1) := by
                rw [List.append_assoc]; rw [List.append_assoc]
                exact List.Perm.append_left f5 List.perm_append_comm
              have sb : ((f6 ++ (Da :: facc)) ++ fv1).Sublist ((f5 ++ (Da :: facc)) ++ fv1) := List.Sublist.append_right (List.Sublist.append_right hs6 _) _
              have g6 : Good w5 ((f6 ++ (Da :: facc)) ++ fv1) := (r2.perm pm).sublist sb
              have r1' : Ev fe w' w5 (f6 ++ (Da :: facc)) := r1.less fun a m => (pm.mem_iff).mpr (sb.subset (List.mem_append_left _ m))
              refine comp_in hg1 hcs1 ht1 he g6 it1 E6 r3 r4 h8 fun w6 f8 acc8 facc8 ev6 g8 E8 hD8 R8 => ?_
              obtain ⟨f9, hs9, E9⟩ := clr_ok (vs := vs) E8
              rw [wipe_wipe hv, wb] at E9
              have sb9 : (f9 ++ (Da :: facc8)).Sublist (f8 ++ (Da :: facc8)) := List.Sublist.append_right hs9 _
              exact ⟨w6, _, f9, acc8, acc2, facc8, rfl, (r1'.trans ev6).less fun a m => sb9.subset m, g8.sublist sb9, E9, hD8, R8, hf⟩
  · refine .inl ⟨it.stop w1 i (kp ev1) (by omega), ?_⟩
    rw [List.drop_of_length_le (by omega)] at hf
    simp only [compL2, Option.some.injEq, Prod.mk.injEq] at hf
    obtain ⟨rfl, rfl⟩ := hf
    have kp0 : Keeps w' w1 [] := Keeps.of g'.left ev1 fun _ m => (nomatch m)
    obtain ⟨f', hs, Ef⟩ := res_ok kp0 E' h2 E1
    have sb : (f' ++ (Da :: facc)).Sublist (f1 ++ (Da :: facc)) := List.Sublist.append_right hs _
    exact hq (.ref Da) w1 f' (Da :: facc) ((((ev.less fun a m => List.mem_append_left _ m).trans ev1)).less fun a m => sb.subset m) (g1.sublist sb) Ef ⟨Da, acc, facc, rfl, hD, rfl, R1⟩

def sPar3 (i j l : Nat) (m : M (List D)) : MS := fun e => (m e).bind fun x => match x.1 with
  | [d1, d2, d3] => if i = j ∨ i = l ∨ j = l then none else (gN i d1 x.2).bind fun e1 => (gN j d2 e1).bind fun e2 => (gN l d3 e2).map fun e3 => (.nx, e3)
  | _ => none
theorem js_par3 (i j l : Nat) {t : TA} {m : M (List D)} (h : JL K t m) : JS K (tPar3 i j l t) (sPar3 i j l m) := by
  intro σ₀ σ w e f D o e' E G hm hp
  simp only [sPar3, Option.bind_eq_some_iff] at hm
  obtain ⟨⟨ds, e1⟩, h1, h2⟩ := hm
  split at h2
  · rename_i d1 d2 d3 hds
    have hds' : ds = [d1, d2, d3] := hds
    subst hds'
    split at h2
    · cases h2
    · simp only [Option.bind_eq_some_iff, Option.map_eq_some_iff] at h2
      obtain ⟨e2, h3, e3, h4, e4, h5, h6⟩ := h2
      cases h6
      refine h σ₀ σ w e f _ _ e1 E G h1 fun vs w1 fe fv ev g1 E1 rs => ?_
      obtain ⟨v1, r1, f1, f2, rfl, rfl, ra, rs⟩ := rs
      obtain ⟨v2, r2, f3, f4, rfl, rfl, rb, rs⟩ := rs
      obtain ⟨v3, r3, f5, f6, rfl, rfl, rc, rs⟩ := rs
      obtain ⟨rfl, rfl⟩ := rs
      refine ⟨v1, v2, v3, rfl, ?_⟩
      have e0 : f5 ++ [] = f5 := List.append_nil f5
      rw [e0] at g1 ev
      have G1 : Good w1 ((fe ++ f1) ++ (f3 ++ f5)) := by rw [List.append_assoc]; exact g1
      refine jg_name i σ₀ σ w1 e1 fe f1 v1 d1 (fun σ' H' => D.nx ((σ'.set j (some v2)).set l (some v3)) H') e2 E1 G1.left ra h3 fun σ' w' f' _ ev2 g2 E2 => ?_
      have ne : ∀ a ∈ f3 ++ f5, a ∉ fe ++ f1 := fun a m q => (List.nodup_append.mp G1.nd).2.2 a q a m rfl
      have k1 := Keeps.of G1.left ev2 ne
      have G2 : Good w' ((f' ++ f3) ++ f5) := by rw [List.append_assoc]; exact G1.frame ev2 g2
      refine jg_name j σ₀ σ' w' e2 f' f3 v2 d2 (fun σ' H' => D.nx (σ'.set l (some v3)) H') e3 E2 G2.left (rb.keeps d2 v2 f3 (k1.weak fun a m => List.mem_append_left _ m)) h4 fun σ2 w2 f7 _ ev3 g3 E3 => ?_
      have ne2 : ∀ a ∈ f5, a ∉ f' ++ f3 := fun a m q => (List.nodup_append.mp G2.nd).2.2 a q a m rfl
      have rc2 := (rc.keeps d3 v3 f5 (k1.weak fun a m => List.mem_append_right _ m)).keeps d3 v3 f5 (Keeps.of G2.left ev3 ne2)
      refine jg_name l σ₀ σ2 w2 e3 f7 f5 v3 d3 (fun σ2 H2 => D.nx σ2 H2) e' E3 (G2.frame ev3 g3) rc2 h5 fun σ3 w3 f8 _ ev4 g4 E4 => ?_
      have s1 := ev2.frame (f3 ++ f5)
      have s2 := ev3.frame f5
      simp only [List.append_assoc] at s1 s2
      exact hp σ3 w3 f8 (ev.trans (s1.trans (s2.trans ev4))) g4 E4
  · cases h2
section
variable {X : Cx} {a b c : Expr} {pos : Pos}
theorem qs_par3 (i j l : Nat) {x y z : Str} {px py pz pt pt2 : Pos} {kt k2 : Nat} {t : TA} {m : M (List D)} (nd : X.N.Nodup) (h : QL K X [a, b, c] t m) (hi : X.N[i]? = some x := by rfl) (hj : X.N[j]? = some y := by rfl) (hl : X.N[l]? = some z := by rfl) (hij : i ≠ j := by decide) (hil : i ≠ l := by decide) (hjl : j ≠ l := by decide)
    (hc : X.calm = true := by rfl) (hx : X.env.scope.names.lookup x = some .local := by rfl) (hy : X.env.scope.names.lookup y = some .local := by rfl) (hz : X.env.scope.names.lookup z = some .local := by rfl)
    (hw : swappedStores [.Tuple [.Name x px, .Name y py, .Name z pz] kt pt] (.Tuple [a, b, c] k2 pt2) X.env = pure (some [x, y, z]) := by rfl) (hs : swapsWithSole [.Tuple [.Name x px, .Name y py, .Name z pz] kt pt] (.Tuple [a, b, c] k2 pt2) pos.line X.env = pure false := by rfl) :
    QS K X (.Assign [.Tuple [.Name x px, .Name y py, .Name z pz] kt pt] (.Tuple [a, b, c] k2 pt2) pos) (tPar3 i j l t) (sPar3 i j l m) :=
  ⟨ps_par3 hc nd hi hj hl hij hil hjl hx hy hz h.p hw hs, js_par3 i j l h.j⟩
theorem qs_raise {e : Option Expr} {f : Option Expr} : QS K X (.Raise e f pos) tNever sNever := ⟨⟨fun _ _ _ _ _ _ h => h.elim⟩, js_never⟩
variable {elt tg iter tg1 iter1 : Expr} {ifs ifs1 : List Expr} {scope : Scope} {wi wi1 : TI} {g g1 : TG} {tt tt1 : TT} {te : TE} {mi mi1 : M (List P)} {mg mg1 : MG} {mt mt1 : M Bool} {me : M D} {cs cs1 : List Nat}
theorem q_comp2 (own : List (Str × Nat)) (vs1 : List Nat) (nd : X.N.Nodup) (hc : X.calm = true) (hi : QI K X tg iter wi mi) (ok : BlkOk X.N X.env.scope scope own)
    (hg : ∀ (s : Shared) (H : Hp) (C : Addr) (cl : List (Str × Addr)) (fp : List Addr), QG K (X.blk s H scope (compEnvC scope cl C X.env) fp) cs tg g mg) (ht : ∀ (s : Shared) (H : Hp) (C : Addr) (cl : List (Str × Addr)) (fp : List Addr), QTs K (X.blk s H scope (compEnvC scope cl C X.env) fp) ifs tt mt)
    (hi1 : ∀ (s : Shared) (H : Hp) (C : Addr) (cl : List (Str × Addr)) (fp : List Addr), QI K (X.blk s H scope (compEnvC scope cl C X.env) fp) tg1 iter1 wi1 mi1)
    (hg1 : ∀ (s : Shared) (H : Hp) (C : Addr) (cl : List (Str × Addr)) (fp : List Addr), QG K (X.blk s H scope (compEnvC scope cl C X.env) fp) cs1 tg1 g1 mg1) (ht1 : ∀ (s : Shared) (H : Hp) (C : Addr) (cl : List (Str × Addr)) (fp : List Addr), QTs K (X.blk s H scope (compEnvC scope cl C X.env) fp) ifs1 tt1 mt1)
    (he : ∀ (s : Shared) (H : Hp) (C : Addr) (cl : List (Str × Addr)) (fp : List Addr), QE K (X.blk s H scope (compEnvC scope cl C X.env) fp) elt te me) (hcs : ∀ i ∈ cs, i ∈ own.map (·.2) := by decide) (hcs1 : ∀ i ∈ cs1, i ∈ vs1 := by decide) (hv : ∀ i ∈ vs1, i ∈ own.map (·.2) := by decide)
    (hs : ∀ x, foldedSetIterable iter X.env x = pure x := by intro _; rfl) (hs1 : ∀ env x, foldedSetIterable iter1 env x = pure x := by intro _ _; rfl) :
    QE K X (.ListComp elt [⟨tg, iter, ifs, 0⟩, ⟨tg1, iter1, ifs1, 0⟩] scope pos) (tLc2 wi g tt wi1 g1 tt1 te (own.map (·.2)) vs1) (mComp2 mi mg mt mi1 mg1 mt1 me (own.map (·.2)) vs1) :=
  ⟨pe_lc2 hc nd hi.p ok hv (fun s H C cl fp => (hg s H C cl fp).p) (fun s H C cl fp => (ht s H C cl fp).p) (fun s H C cl fp => (hi1 s H C cl fp).p) (fun s H C cl fp => (hg1 s H C cl fp).p) (fun s H C cl fp => (ht1 s H C cl fp).p) (fun s H C cl fp => (he s H C cl fp).p) hs hs1,
   je_comp2 hi.j (hg {} (fun _ => none) 0 [] []).j hcs (ht {} (fun _ => none) 0 [] []).j (hi1 {} (fun _ => none) 0 [] []).j (hg1 {} (fun _ => none) 0 [] []).j hcs1 hv (ht1 {} (fun _ => none) 0 [] []).j (he {} (fun _ => none) 0 [] []).j⟩
end
theorem w_par3 {e : Z.Env} {i j l : Nat} {m : M (List D)} {Q : Out → Z.Env → Prop} (hij : i ≠ j) (hil : i ≠ l) (hjl : j ≠ l) (h : W (m e) (fun ds e1 => ∃ d1 d2 d3, ds = [d1, d2, d3] ∧ (i < e1.length ∧ j < e1.length ∧ l < e1.length) ∧ Q .nx (((e1.set i (.loc d1)).set j (.loc d2)).set l (.loc d3)))) : W (sPar3 i j l m e) Q := by
  obtain ⟨ds, e1, h, d1, d2, d3, rfl, ⟨h2, h3, h4⟩, q⟩ := h
  exact ⟨_, _, by simp [sPar3, h, hij, hil, hjl, gN, h2, h3, h4], q⟩
theorem compL_run {g : MG} {tt : M Bool} {te : M D} {vs : List Nat} (I : List P → List D → Z.Env → Prop)
    (h4 : ∀ p rest acc e2, I (p :: rest) acc e2 → ∃ e3, g (.val p) e2 = some e3 ∧ W (tt e3) (fun b e4 => (b = false → I rest acc (clr vs e4)) ∧ (b = true → W (te e4) (fun d e5 => acc.length < sizeLine ∧ I rest (acc ++ [d]) (clr vs e5))))) :
    ∀ ps acc e, I ps acc e → ∃ acc' e', compL g tt te vs ps acc e = some (acc', e') ∧ I [] acc' e'
  | [], acc, e, hI => ⟨acc, e, rfl, hI⟩
  | p :: ps, acc, e, hI => by
    obtain ⟨e3, a1, b, e4, a2, a3, a4⟩ := h4 p ps acc e hI
    cases b with
    | false =>
      obtain ⟨x, y, q1, q2⟩ := compL_run I h4 ps acc _ (a3 rfl)
      exact ⟨x, y, by simp only [compL, a1, a2, q1], q2⟩
    | true =>
      obtain ⟨d, e5, b1, b2, b3⟩ := a4 rfl
      obtain ⟨x, y, q1, q2⟩ := compL_run I h4 ps _ _ b3
      exact ⟨x, y, by simp only [compL, a1, a2, b1, if_pos b2, q1], q2⟩
theorem w_comp2G {e : Z.Env} {m m1 : M (List P)} {g g1 : MG} {tt tt1 : M Bool} {te : M D} {vs vs1 : List Nat} {Q : D → Z.Env → Prop} (I : List P → List D → Z.Env → Prop)
    (h : W (m e) (fun ps e0 => ∃ e1, hid vs e0 = some e1 ∧ I ps [] e1 ∧
      (∀ p rest acc e2, I (p :: rest) acc e2 → ∃ e3, g (.val p) e2 = some e3 ∧ W (tt e3) (fun b e4 => (b = false → I rest acc (clr vs e4)) ∧ (b = true → W (m1 e4) (fun qs e5 => ∃ I1 : List P → List D → Z.Env → Prop, I1 qs acc (clr vs1 e5) ∧
        (∀ q r acc e, I1 (q :: r) acc e → ∃ e3, g1 (.val q) e = some e3 ∧ W (tt1 e3) (fun b e4 => (b = false → I1 r acc (clr vs1 e4)) ∧ (b = true → W (te e4) (fun d e5 => acc.length < sizeLine ∧ I1 r (acc ++ [d]) (clr vs1 e5))))) ∧
        ∀ acc e6, I1 [] acc e6 → I rest acc (clr vs e6))))) ∧
      (∀ acc e6, I [] acc e6 → Q (.olst acc) (res e0 vs e6)))) : W (mComp2 m g tt m1 g1 tt1 te vs vs1 e) Q := by
  obtain ⟨ps, e0, h1, e1, h2, h3, h4, h5⟩ := h
  have key : ∀ ps acc e, I ps acc e → ∃ acc' e', compL2 g tt m1 g1 tt1 te vs vs1 ps acc e = some (acc', e') ∧ I [] acc' e' := by
    intro ps
    induction ps with
    | nil => exact fun acc e hI => ⟨acc, e, rfl, hI⟩
    | cons p ps ih =>
      intro acc e hI
      obtain ⟨e3, a1, b, e4, a2, a3, a4⟩ := h4 p ps acc e hI
      cases b with
      | false =>
        obtain ⟨x, y, q1, q2⟩ := ih acc _ (a3 rfl)
        exact ⟨x, y, by simp only [compL2, a1, a2, q1], q2⟩
      | true =>
        obtain ⟨qs, e5, b1, I1, b2, b3, b4⟩ := a4 rfl
        obtain ⟨ac, ex, c1, c2⟩ := compL_run I1 b3 qs acc _ b2
        obtain ⟨x, y, q1, q2⟩ := ih ac _ (b4 ac ex c2)
        exact ⟨x, y, by simp only [compL2, a1, a2, b1, c1, q1], q2⟩
  obtain ⟨acc', e', k1, k2⟩ := key ps [] e1 h3
  exact ⟨_, _, by simp only [mComp2, h1, Option.bind_some, h2, k1, Option.map_some], h5 acc' e' k2⟩
def okS (s : Sl) : Prop := s = .un ∨ (∃ p, s = .loc (.val p)) ∨ ∃ p, s = .par (.val p)
theorem hid_one {e : Z.Env} {v : Nat} {s : Sl} (h : e[v]? = some s) (hu : okS s) : hid [v] e = some (e.set v .un) := by
  have h0 : hid [] e = some e := rfl
  unfold hid
  rw [if_neg (by simp), h0, Option.bind_some, h]
  rcases hu with rfl | ⟨p, rfl⟩ | ⟨p, rfl⟩
  · rw [set_same h]
  · rfl
  · rfl
theorem hid_two {e : Z.Env} {v u : Nat} {s r : Sl} (hv : e[v]? = some s) (hu : e[u]? = some r) (os : okS s) (or : okS r) (ne : v ≠ u) : hid [v, u] e = some ((e.set u .un).set v .un) := by
  have h1 := hid_one hu or
  have h2 : (e.set u .un)[v]? = some s := by rw [List.getElem?_set_ne (Ne.symm ne)]; exact hv
  show (if v ∈ [u] then none else (hid [u] e).bind fun e1 => _) = _
  rw [if_neg (by simpa using ne), h1, Option.bind_some, h2]
  rcases os with rfl | ⟨p, rfl⟩ | ⟨p, rfl⟩
  · rw [set_same h2]
  · rfl
  · rfl
theorem w_comp2M {β γ : Type} {e : Z.Env} {m m1 : M (List P)} {v u : Nat} {te : M D} {Q : D → Z.Env → Prop} (F : β → P) (G : γ → P) (f : β → γ → P) (ys : β → List γ) (ne : v ≠ u)
    (h : W (m e) (fun ps e0 => ∃ xs : List β, ps = xs.map F ∧ (∃ s, AtR e0 v s ∧ okS s) ∧ (∃ s, AtR e0 u s ∧ okS s) ∧ (xs.flatMap fun x => (ys x).map (f x)).length ≤ sizeLine ∧
      (∀ x ∈ xs, W (m1 ((e0.set v (.loc (.val (F x)))).set u .un)) (fun qs e' => qs = (ys x).map G ∧ e' = (e0.set v (.loc (.val (F x)))).set u .un)) ∧
      (∀ x ∈ xs, ∀ y ∈ ys x, W (te ((e0.set v (.loc (.val (F x)))).set u (.loc (.val (G y))))) (fun d e' => d = .val (f x y) ∧ e' = (e0.set v (.loc (.val (F x)))).set u (.loc (.val (G y))))) ∧
      Q (.olst ((xs.flatMap fun x => (ys x).map (f x)).map .val)) e0)) : W (mComp2 m (gN v) mYes m1 (gN u) mYes te [v, u] [u] e) Q := by
  obtain ⟨ps, e0, hm, xs, rfl, ⟨s, hs, os⟩, ⟨r, hr, or⟩, hl, h1, h2, q⟩ := h
  have hsv := hs.eq
  have hru := hr.eq
  have lv : v < e0.length := (List.getElem?_eq_some_iff.mp hsv).1
  have lu : u < e0.length := (List.getElem?_eq_some_iff.mp hru).1
  have cm : ∀ (l : Z.Env) (a b : Sl), (l.set u b).set v a = (l.set v a).set u b := fun l a b => List.set_comm _ _ (Ne.symm ne)
  refine w_comp2G (fun rest acc e => ∃ pre post : List β, pre ++ post = xs ∧ rest = post.map F ∧ acc = (pre.flatMap fun x => (ys x).map (f x)).map .val ∧ e = (e0.set v .un).set u .un) ⟨_, _, hm, _, (hid_two hsv hru os or ne).trans (by rw [cm]), ⟨[], xs, rfl, rfl, rfl, rfl⟩, fun p rest acc e2 hI => ?_, fun acc e6 hI => ?_⟩
  · obtain ⟨pre, post, hp, hr2, rfl, rfl⟩ := hI
    cases post with
    | nil => cases hr2
    | cons x post =>
      injection hr2 with e1 e2
      subst e1 e2
      have hx : x ∈ xs := by rw [← hp]; simp
      have sv : (((e0.set v .un).set u .un).set v (.loc (.val (F x)))) = (e0.set v (.loc (.val (F x)))).set u .un := by
        rw [cm, List.set_set]
      refine ⟨_, (show gN v (.val (F x)) _ = some _ from by unfold gN; rw [List.getElem?_eq_getElem (by simp; exact lv)]), ?_⟩
      rw [sv]
      refine ⟨true, _, rfl, And.intro (fun no => Bool.noConfusion no) (fun _ => ?_)⟩
      obtain ⟨qs, ex, a1, rfl, rfl⟩ := h1 x hx
      have cu : clr [u] ((e0.set v (.loc (.val (F x)))).set u .un) = (e0.set v (.loc (.val (F x)))).set u .un := by
        show ((e0.set v (.loc (.val (F x)))).set u .un).set u .un = _
        rw [List.set_set]
      refine ⟨_, _, a1, fun rest2 acc e => ∃ pr po : List γ, pr ++ po = ys x ∧ rest2 = po.map G ∧ acc = ((pre.flatMap fun x => (ys x).map (f x)) ++ pr.map (f x)).map .val ∧ e = (e0.set v (.loc (.val (F x)))).set u .un,
        ⟨[], ys x, rfl, rfl, by simp, cu⟩, fun q r2 acc e hJ => ?_, fun acc e6 hJ => ?_⟩
      · obtain ⟨pr, po, hq, hr3, rfl, rfl⟩ := hJ
        cases po with
        | nil => cases hr3
        | cons y po =>
          injection hr3 with e1 e2
          subst e1 e2
          have hy : y ∈ ys x := by rw [← hq]; simp
          have su : ((e0.set v (.loc (.val (F x)))).set u .un).set u (.loc (.val (G y))) = (e0.set v (.loc (.val (F x)))).set u (.loc (.val (G y))) := by rw [List.set_set]
          refine ⟨_, (show gN u (.val (G y)) _ = some _ from by unfold gN; rw [List.getElem?_eq_getElem (by simp; exact lu)]), ?_⟩
          rw [su]
          refine ⟨true, _, rfl, And.intro (fun no => Bool.noConfusion no) (fun _ => ?_)⟩
          obtain ⟨d, ex, b1, rfl, rfl⟩ := h2 x hx y hy
          refine ⟨_, _, b1, ?_, pr ++ [y], po, by rw [List.append_assoc]; exact hq, rfl, by simp [List.append_assoc], ?_⟩
          · have e3 : (xs.flatMap fun x => (ys x).map (f x)) = (pre.flatMap fun x => (ys x).map (f x)) ++ ((pr ++ y :: po).map (f x) ++ post.flatMap fun x => (ys x).map (f x)) := by
              rw [← hp, List.flatMap_append, List.flatMap_cons, hq]
            rw [e3] at hl
            simp only [List.length_append, List.length_map, List.length_cons] at hl ⊢
            omega
          · show ((e0.set v (.loc (.val (F x)))).set u (.loc (.val (G y)))).set u .un = _
            rw [List.set_set]
      · obtain ⟨pr, po, hq, hr3, rfl, rfl⟩ := hJ
        cases po with
        | cons y po => cases hr3
        | nil =>
          rw [List.append_nil] at hq
          subst hq
          refine ⟨pre ++ [x], post, by rw [List.append_assoc]; exact hp, rfl, by simp, ?_⟩
          show (((e0.set v (.loc (.val (F x)))).set u .un).set u .un).set v .un = _
          rw [List.set_set, cm, List.set_set]
  · obtain ⟨pre, post, hp, hr2, rfl, rfl⟩ := hI
    cases post with
    | cons x post => cases hr2
    | nil =>
      rw [List.append_nil] at hp
      subst hp
      have e9 : res e0 [v, u] ((e0.set v .un).set u .un) = e0 := by
        show res e0 [u] (match e0[v]? with | some s => ((e0.set v .un).set u .un).set v s | none => _) = e0
        rw [hsv]
        show (match e0[u]? with | some s2 => (((e0.set v .un).set u .un).set v s).set u s2 | none => _) = e0
        rw [hru]
        show (((e0.set v .un).set u .un).set v s).set u r = e0
        rw [cm, List.set_set, List.set_set, set_same hsv, set_same hru]
      rw [e9]
      exact q
end Z
namespace Z
open PySem.Spec PyProof.Rows L2 PySem
theorem nd_addI {S : List Int} {s : Int} (h : S.Nodup) : (addI S s).Nodup := by
  unfold addI
  by_cases hs : s ∈ S
  · rw [if_pos hs]
    exact h
  · rw [if_neg hs, List.nodup_append]
    exact ⟨h, by simp, fun a ha c hc e => hs (by rw [← List.mem_singleton.mp hc, ← e]; exact ha)⟩
theorem dB_putI {S : List Int} (s : Int) (h : S.length < 10000000) : putD (dB S) (.k (.inl s)) (.val (.bl true)) = some (dB (addI S s)) := by
  have e : ∀ S : List Int, dB S = .odK (S.map Sum.inl) (S.map fun _ => D.val (.bl true)) := fun S => by
    unfold dB dL
    rw [List.map_map]
    rfl
  rw [e, putD_k (by simp) (by simpa using h), putL_I, e]
theorem dB_view (ns : List Int) : viewD (dB ns) = some (fB ns) := by
  unfold dB dL fB fL
  show (allV ((ns.map fun _ => P.bl true).map D.val)).map (P.dK (ns.map Sum.inl)) = _
  rw [allV_map]
  rfl
theorem dB_new : D.odK [] [] = dB [] := rfl
theorem flat_congr {α β : Type} {f g : α → List β} : ∀ {l : List α}, (∀ a ∈ l, f a = g a) → l.flatMap f = l.flatMap g
  | [], _ => rfl
  | a :: l, h => by
    rw [List.flatMap_cons, List.flatMap_cons, h a List.mem_cons_self, flat_congr fun x hx => h x (List.mem_cons_of_mem _ hx)]
end Z
namespace ZL
open PySem.Spec PyProof.Rows L2 Z PySem
def fuel : Nat := 1000000
def bm_first_node : MS := (sRet (mUn gSum (mP (mComp (mSeq (mSl (mP (mOpN gIx 0 (mC (.int 1)))) mOno (mOp1 (mN 1)))) (gN 2) mYes (mOpN gIx 2 (mC (.int 1))) [2]))))
def m_first_node : Gf := fnM 2 3 bm_first_node
def bm_nodes_of : MS := (sSeq (sAsg (mCall m_first_node (mAn 0 (mAn 1 mAnil))) (gN 2))
    (sRet (mUn gTupOf (mP (mComp (mRng1 (mP (mOp gIx (mP (mOp gIx (mP (mOpN gIx 0 (mC (.int 1)))) (mN 1))) (mC (.int 1))))) (gN 3) mYes (mV (mP (mOp gAdd (mN 2) (mN 3)))) [3])))))
def m_nodes_of : Gf := fnM 2 4 bm_nodes_of
def bm_has_node : MS := (sSeq (sAsg (mCall m_first_node (mAn 0 (mAn 1 mAnil))) (gN 3))
    (sRet (mChain gLe gLt (mN 3) (mN 2) (mP (mOp gAdd (mN 3) (mP (mOp gIx (mP (mOp gIx (mP (mOpN gIx 0 (mC (.int 1)))) (mN 1))) (mC (.int 1)))))))))
def m_has_node : Gf := fnM 3 4 bm_has_node
def bm_walk_ends : MS := (sSeq (sIf (mTb (mOp gEq (mP (mOpN gIx 0 (mC (.int 1)))) (mC (.int 1))))
    (sRet (mTup (mLcons (mOpN gIx 1 (mC (.int 2))) (mLcons (mOpN gIx 1 (mC (.int 0))) mLnil))))
    sNil)
    (sRet (mTup (mLcons (mOpN gIx 1 (mC (.int 0))) (mLcons (mOpN gIx 1 (mC (.int 2))) mLnil)))))
def m_walk_ends : Gf := fnM 2 2 bm_walk_ends
def bm_letters_by_label : MS := (sSeq (sAsg mDNewK (gN 1))
    (sSeq (sFor (mSeq (mOpN gIx 0 (mC (.int 2)))) (gN 2)
    (sDPut 1 (mV (mN 2)) (mKk (mP (mOpN gIx 2 (mC (.int 0)))))))
    (sRet (mV (mN 1)))))
def m_letters_by_label : Gf := fnM 1 3 bm_letters_by_label
def bm_labels_of (self : Gf) : MS := (sSeq (sIf (mTb (mOp gEq (mP (mOpN gIx 0 (mC (.int 0)))) (mC (.str "stay"))))
    (sRet (mTup mLnil))
    sNil)
    (sSeq (sIf (mTb (mOp gEq (mP (mOpN gIx 0 (mC (.int 0)))) (mC (.str "step"))))
    (sRet (mTup (mLcons (mOpN gIx 0 (mC (.int 1))) mLnil)))
    sNil)
    (sSeq (sAsg (mTup mLnil) (gN 1))
    (sSeq (sFor (mSeq (mSlN 0 (mOp1 (mC (.int 1))) mOno)) (gN 2)
    (sAsg (mOp gAdd (mN 1) (mP (mCall self (mAn 2 mAnil)))) (gN 1)))
    (sRet (mV (mN 1)))))))
def m_labels_of : Nat → Gf
  | 0 => fun _ => none
  | n + 1 => fnM 1 3 (bm_labels_of (m_labels_of n))
def bm_letters_in (self : Gf) : MS := (sSeq (sIf (mTb (mOp gEq (mP (mOpN gIx 0 (mC (.int 0)))) (mC (.str "stay"))))
    (sRet (mV (mP (mLst mLnil))))
    sNil)
    (sSeq (sIf (mTb (mOp gEq (mP (mOpN gIx 0 (mC (.int 0)))) (mC (.str "step"))))
    (sRet (mV (mP (mLst (mLcons (mTup (mLcons (mOpN gIx 0 (mC (.int 1))) (mLcons (mOpN gIx 0 (mC (.int 2))) mLnil))) mLnil)))))
    sNil)
    (sSeq (sAsg (mLst mLnil) (gN 1))
    (sSeq (sFor (mSeq (mSlN 0 (mOp1 (mC (.int 1))) mOno)) (gN 2)
    (sAsg (mOp gAdd (mN 1) (mP (mCall self (mAn 2 mAnil)))) (gN 1)))
    (sRet (mV (mN 1)))))))
def m_letters_in : Nat → Gf
  | 0 => fun _ => none
  | n + 1 => fnM 1 3 (bm_letters_in (m_letters_in n))
def bm_pairs_between : MS := (sRet (mV (mP (mComp2 (mSeq (mV (mN 0))) (gN 2) mYes (mSeq (mV (mN 1))) (gN 3) mYes (mTup (mLcons (mV (mN 2)) (mLcons (mV (mN 3)) mLnil))) [2, 3] [3]))))
def m_pairs_between : Gf := fnM 2 4 bm_pairs_between
def bm_then_facts : MS := (sSeq (sAsg (mOp gAdd (mP (mOpN gIx 0 (mC (.int 1)))) (mP (mIfE (mTb (mOpN gIx 0 (mC (.int 0)))) (mOpN gIx 1 (mC (.int 1))) (mLst mLnil)))) (gN 2))
    (sSeq (sAsg (mOp gAdd (mP (mOpN gIx 1 (mC (.int 3)))) (mP (mIfE (mTb (mOpN gIx 1 (mC (.int 0)))) (mOpN gIx 0 (mC (.int 3))) (mLst mLnil)))) (gN 3))
    (sRet (mV (mP (mTup (mLcons (mAndV (mOpN gIx 0 (mC (.int 0))) (mOpN gIx 1 (mC (.int 0)))) (mLcons (mV (mN 2)) (mLcons (mV (mP (mOp gAdd (mP (mOp gAdd (mP (mOpN gIx 0 (mC (.int 2)))) (mP (mOpN gIx 1 (mC (.int 2)))))) (mP (mCall m_pairs_between (mAe (mOpN gIx 0 (mC (.int 3))) (mAe (mOpN gIx 1 (mC (.int 1))) mAnil))))))) (mLcons (mV (mN 3)) mLnil))))))))))
def m_then_facts : Gf := fnM 2 4 bm_then_facts
def bm_facts_of (self : Gf) : MS := (sSeq (sAsg (mOpN gIx 0 (mC (.int 0))) (gN 1))
    (sSeq (sIf (mTb (mOp gEq (mN 1) (mC (.str "stay"))))
    (sRet (mV (mP (mTup (mLcons (mV (mC (.bl true))) (mLcons (mV (mP (mLst mLnil))) (mLcons (mV (mP (mLst mLnil))) (mLcons (mV (mP (mLst mLnil))) mLnil))))))))
    sNil)
    (sSeq (sIf (mTb (mOp gEq (mN 1) (mC (.str "step"))))
    (sRet (mV (mP (mTup (mLcons (mV (mC (.bl false))) (mLcons (mV (mP (mLst (mLcons (mOpN gIx 0 (mC (.int 1))) mLnil)))) (mLcons (mV (mP (mLst mLnil))) (mLcons (mV (mP (mLst (mLcons (mOpN gIx 0 (mC (.int 1))) mLnil)))) mLnil))))))))
    sNil)
    (sSeq (sAsg (mCall self (mAe (mOpN gIx 0 (mC (.int 1))) mAnil)) (gN 2))
    (sSeq (sIf (mTb (mOp gEq (mN 1) (mC (.str "then"))))
    (sRet (mCall m_then_facts (mAn 2 (mAe (mCall self (mAe (mOpN gIx 0 (mC (.int 2))) mAnil)) mAnil))))
    sNil)
    (sSeq (sIf (mTb (mOp gEq (mN 1) (mC (.str "either"))))
    (sSeq (sAsg (mCall self (mAe (mOpN gIx 0 (mC (.int 2))) mAnil)) (gN 3))
    (sRet (mV (mP (mTup (mLcons (mOrV (mOpN gIx 2 (mC (.int 0))) (mOpN gIx 3 (mC (.int 0)))) (mLcons (mV (mP (mOp gAdd (mP (mOpN gIx 2 (mC (.int 1)))) (mP (mOpN gIx 3 (mC (.int 1))))))) (mLcons (mV (mP (mOp gAdd (mP (mOpN gIx 2 (mC (.int 2)))) (mP (mOpN gIx 3 (mC (.int 2))))))) (mLcons (mV (mP (mOp gAdd (mP (mOpN gIx 2 (mC (.int 3)))) (mP (mOpN gIx 3 (mC (.int 3))))))) mLnil)))))))))
    sNil)
    (sSeq (sIf (mTb (mOp gEq (mN 1) (mC (.str "maybe"))))
    (sRet (mTup (mLcons (mV (mC (.bl true))) (mLcons (mOpN gIx 2 (mC (.int 1))) (mLcons (mOpN gIx 2 (mC (.int 2))) (mLcons (mOpN gIx 2 (mC (.int 3))) mLnil))))))
    sNil)
    (sRet (mV (mP (mTup (mLcons (mOrV (mOpN gIx 2 (mC (.int 0))) (mOp gEq (mN 1) (mC (.str "star")))) (mLcons (mOpN gIx 2 (mC (.int 1))) (mLcons (mV (mP (mOp gAdd (mP (mOpN gIx 2 (mC (.int 2)))) (mP (mCall m_pairs_between (mAe (mOpN gIx 2 (mC (.int 3))) (mAe (mOpN gIx 2 (mC (.int 1))) mAnil))))))) (mLcons (mOpN gIx 2 (mC (.int 3))) mLnil)))))))))))))))
def m_facts_of : Nat → Gf
  | 0 => fun _ => none
  | n + 1 => fnM 1 4 (bm_facts_of (m_facts_of n))
def bm_ascending : MS := (sRet (mUn gTupOf (mP (mUn gUp5 (mW 0)))))
def m_ascending : Gf := fnM 1 1 bm_ascending
def bm_check_labels_once : MS := (sSeq (sAsg mDNewK (gN 2))
    (sForN 1 (gN 3)
    (sSeq (sIf (mTb (mDIn false 2 (mKk (mN 3))))
    sNever
    sNil)
    (sDPut 2 (mV (mC (.bl true))) (mKk (mN 3))))))
def m_check_labels_once : Gf := fnM 2 4 bm_check_labels_once
def bm_book_of : MS := (sSeq (sAsg (mCall (m_labels_of 70) (mAn 1 mAnil)) (gN 2))
    (sSeq (sIf (mTb (mOp gGt (mP (mUn gLen (mW 2))) (mC (.int 8))))
    sNever
    sNil)
    (sSeq (sDrop (mCall m_check_labels_once (mAn 0 (mAn 2 mAnil))))
    (sSeq (sAsg (mCall (m_facts_of 70) (mAn 1 mAnil)) (gN 3))
    (sSeq (sAsg (mUn gTupOf (mP (mUn gSorted (mP (mCall (m_letters_in 70) (mAn 1 mAnil)))))) (gN 4))
    (sRet (mTup (mLcons (mV (mC (.str "book"))) (mLcons (mUn gInt (mP (mOpN gIx 3 (mC (.int 0))))) (mLcons (mV (mN 4)) (mLcons (mCall m_ascending (mAe (mOpN gIx 3 (mC (.int 1))) mAnil)) (mLcons (mCall m_ascending (mAe (mOpN gIx 3 (mC (.int 2))) mAnil)) (mLcons (mCall m_ascending (mAe (mOpN gIx 3 (mC (.int 3))) mAnil)) mLnil)))))))))))))
def m_book_of : Gf := fnM 2 5 bm_book_of
def bm_steps_of : MS := (sSeq (sAsg (mCall m_letters_by_label (mAn 0 mAnil)) (gN 2))
    (sSeq (sAsg mDNewT (gN 3))
    (sSeq (sForN 1 (gN 4)
    (sIf (mTb (mDIn false 2 (mKk (mP (mOpN gIx 4 (mC (.int 1)))))))
    (sSeq (sAsg (mCall m_walk_ends (mAe (mDSub 2 (mKk (mP (mOpN gIx 4 (mC (.int 1)))))) (mAn 4 mAnil))) (gN 5))
    (sDrop (mSda 3 (mKt (mLcons (mOpN gIx 5 (mC (.int 0))) (mLcons (mOpN gIx 4 (mC (.int 1))) mLnil))) (mLcons (mTup (mLcons (mTup (mLcons (mOpN gIx 5 (mC (.int 1))) (mLcons (mOpN gIx 4 (mC (.int 1))) mLnil))) (mLcons (mV (mN 4)) mLnil))) mLnil))))
    sNil))
    (sRet (mV (mN 3))))))
def m_steps_of : Gf := fnM 2 6 bm_steps_of
def bm_next_labels : MS := (sSeq (sAsg mDNewK (gN 1))
    (sSeq (sFor (mSeq (mOpN gIx 0 (mC (.int 4)))) (gT (gsCons (gN 2) (gsCons (gN 3) gsNil)))
    (sDrop (mSda 1 (mKk (mN 2)) (mLcons (mV (mN 3)) mLnil))))
    (sRet (mV (mN 1)))))
def m_next_labels : Gf := fnM 1 4 bm_next_labels
def bm_first_gates : MS := (sRet (mComp (mSeq (mOpN gIx 0 (mC (.int 3)))) (gN 2) mYes (mTup (mLcons (mV (mN 1)) (mLcons (mV (mN 2)) mLnil))) [2]))
def m_first_gates : Gf := fnM 2 3 bm_first_gates
def bm_gates_behind : MS := (sRet (mV (mP (mComp (mSeq (mDGet2 0 (mKk (mP (mOpN gIx 1 (mC (.int 1))))) (mP (mLst mLnil)))) (gN 2) mYes (mTup (mLcons (mOpN gIx 1 (mC (.int 0))) (mLcons (mV (mN 2)) mLnil))) [2]))))
def m_gates_behind : Gf := fnM 2 3 bm_gates_behind
def bm_explored : MS := (sSeq (sAsg (mCall m_next_labels (mAn 0 mAnil)) (gN 3))
    (sSeq (sAsg mDNewT (gN 4))
    (sSeq (sAsg mDNewT (gN 5))
    (sSeq (sAsg (mLst mLnil) (gN 6))
    (sSeq (sAsg (mCall m_first_gates (mAn 0 (mAn 2 mAnil))) (gN 7))
    (sSeq (whileL (mTb (mOp gGt (mP (mUn gLen (mW 7))) (mC (.int 0))))
    (sSeq (sAsg (mMu hPop 7 mLnil) (gN 8))
    (sSeq (sIf (mTb (mDIn false 4 (mKv (mN 8))))
    sCon
    sNil)
    (sSeq (sDPut 4 (mV (mC (.bl true))) (mKv (mN 8)))
    (sFor (mSeq (mDGet2 1 (mKv (mN 8)) (mP (mLst mLnil)))) (gT (gsCons (gN 9) (gsCons (gN 10) gsNil)))
    (sSeq (sDrop (mMu hApp 6 (mLcons (mV (mN 10)) mLnil)))
    (sIf (mTb (mDIn true 5 (mKv (mN 9))))
    (sSeq (sDPut 5 (mV (mC (.bl true))) (mKv (mN 9)))
    (sDrop (mMu hExt 7 (mLcons (mCall m_gates_behind (mAn 3 (mAn 9 mAnil))) mLnil))))
    sNil)))))) fuel)
    (sRet (mTup (mLcons (mV (mN 4)) (mLcons (mV (mN 5)) (mLcons (mV (mN 6)) mLnil)))))))))))
def m_explored : Gf := fnM 3 11 bm_explored
def bm_ends_of : MS := (sSeq (sAsg mDNewK (gN 3))
    (sSeq (sIf (mTb (mOp gEq (mP (mOpN gIx 0 (mC (.int 1)))) (mC (.int 1))))
    (sDPut 3 (mV (mC (.bl true))) (mKk (mN 1)))
    sNil)
    (sSeq (sForR 2 (gN 4)
    (sIf (mTb (mOp gIn (mP (mOpN gIx 4 (mC (.int 1)))) (mP (mOpN gIx 0 (mC (.int 5))))))
    (sDPut 3 (mV (mC (.bl true))) (mKk (mP (mOpN gIx 4 (mC (.int 0))))))
    sNil))
    (sRet (mUn gTupOf (mP (mUn gSortedD (mW 3))))))))
def m_ends_of : Gf := fnM 3 5 bm_ends_of
def bm_pairs_joined : MS := (sSeq (sAsg (mCall m_steps_of (mAn 1 (mAn 0 mAnil))) (gN 3))
    (sSeq (sAsg (mLst mLnil) (gN 4))
    (sSeq (sForN 2 (gN 5)
    (sDrop (mMu hExt 4 (mLcons (mV (mP (mComp (mSeq (mCall m_ends_of (mAn 1 (mAn 5 (mAe (mOp gIx (mP (mCall m_explored (mAn 1 (mAn 3 (mAn 5 mAnil))))) (mC (.int 1))) mAnil))))) (gN 6) mYes (mTup (mLcons (mV (mN 5)) (mLcons (mV (mN 6)) mLnil))) [6]))) mLnil))))
    (sRet (mUn gTupOf (mW 4))))))
def m_pairs_joined : Gf := fnM 3 7 bm_pairs_joined
def bm_index_of : MS := (sSeq (sAsg (mCall m_pairs_joined (mAn 1 (mAe (mCall m_book_of (mAn 0 (mAn 2 mAnil))) (mAe (mCall m_nodes_of (mAn 0 (mAn 3 mAnil))) mAnil)))) (gN 5))
    (sSeq (sAsg (mUn gTupOf (mP (mComp (mSeq (mV (mN 5))) (gN 7) (mTb (mCall m_has_node (mAn 0 (mAn 4 (mAe (mOpN gIx 7 (mC (.int 1))) mAnil))))) (mV (mN 7)) [7]))) (gN 6))
    (sRet (mTup (mLcons (mV (mC (.str "index"))) (mLcons (mV (mN 2)) (mLcons (mV (mN 3)) (mLcons (mV (mN 4)) (mLcons (mV (mN 6)) mLnil)))))))))
def m_index_of : Gf := fnM 5 8 bm_index_of
def bm_law_begin : MS := (sRet (mLst (mLcons (mV (mP (mComp (mSeq (mV (mN 0))) (gN 1) mYes (mUn gInt (mW 1)) [1]))) (mLcons (mV (mC (.int 0))) (mLcons (mV (mC (.int 0))) (mLcons (mV (mC (.int 7))) mLnil))))))
def m_law_begin : Gf := fnM 1 2 bm_law_begin
def bm_law_draw : MS := (sSeq (sIf (mTb (mOp gGt (mP (mOpN gIx 0 (mC (.int 2)))) (mC (.int 0))))
    (sSeq (sAsg (mOpN gIx 0 (mC (.int 2))) (gN 2))
    (sSeq (sSet 0 (mOp gFdiv (mN 2) (mN 1)) (mC (.int 2)))
    (sRet (mOp gMod (mP (mUn gInt (mW 2))) (mN 1)))))
    sNil)
    (sSeq (sAsg (mV (mC (.int 0))) (gN 3))
    (sSeq (sIf (mTb (mOp gLt (mP (mOpN gIx 0 (mC (.int 1)))) (mP (mUn gLen (mP (mOpN gIx 0 (mC (.int 0))))))))
    (sSeq (sAsg (mOp gIx (mP (mOpN gIx 0 (mC (.int 0)))) (mP (mOpN gIx 0 (mC (.int 1))))) (gN 4))
    (sAsg (mOp gAdd (mP (mOp gMul (mC (.int 2)) (mP (mUn gAbs (mW 4))))) (mP (mUn gInt (mP (mOp gLt (mN 4) (mC (.int 0))))))) (gN 3)))
    sNil)
    (sSeq (sAugS gIAdd 0 (mC (.int 1)) (mC (.int 1)))
    (sSeq (sIf (mTb (mOp gGe (mN 3) (mP (mOp gMul (mC (.int 2)) (mP (mOp gPow (mC (.int 10)) (mC (.int 18))))))))
    (sSeq (sAsg (mOp gMod (mP (mUn gInt (mP (mOp gFdiv (mN 3) (mC (.int 2)))))) (mP (mOp gShl (mC (.int 1)) (mC (.int 6000))))) (gN 2))
    (sSeq (sSet 0 (mOp gFdiv (mN 2) (mN 1)) (mC (.int 2)))
    (sRet (mOp gMod (mP (mUn gInt (mW 2))) (mN 1)))))
    sNil)
    (sSeq (sSet 0 (mOp gMod (mP (mUn gInt (mP (mOp gAdd (mP (mOp gAdd (mP (mOp gAdd (mP (mOp gMul (mP (mOpN gIx 0 (mC (.int 3)))) (mC (.int 48271)))) (mP (mOp gMul (mP (mOp gMod (mP (mUn gInt (mW 3))) (mC (.int 2147483629)))) (mC (.int 16807)))))) (mP (mOp gMul (mP (mOpN gIx 0 (mC (.int 1)))) (mC (.int 69621)))))) (mC (.int 11)))))) (mC (.int 2147483647))) (mC (.int 3)))
    (sRet (mOp gMod (mP (mUn gInt (mP (mOp gFdiv (mP (mOpN gIx 0 (mC (.int 3)))) (mC (.int 16)))))) (mN 1)))))))))
def m_law_draw : Gf := fnM 2 5 bm_law_draw
def bm_law_pick : MS := (sRet (mOpN gIx 1 (mP (mCall m_law_draw (mAn 0 (mAe (mUn gLen (mW 1)) mAnil))))))
def m_law_pick : Gf := fnM 2 2 bm_law_pick
def bm_law_pop : MS := (sRet (mV (mP (mMu hPopAt 1 (mLcons (mCall m_law_draw (mAn 0 (mAe (mUn gLen (mW 1)) mAnil))) mLnil)))))
def m_law_pop : Gf := fnM 2 2 bm_law_pop
def bm_law_rare : MS := (sRet (mOp gEq (mP (mCall m_law_draw (mAn 0 (mAn 1 mAnil)))) (mP (mOp gFdiv (mN 1) (mC (.int 2))))))
def m_law_rare : Gf := fnM 2 2 bm_law_rare
def bm_law_shuffled : MS := (sSeq (sAsg (mUn gListOf (mW 1)) (gN 2))
    (sSeq (sAsg (mLst mLnil) (gN 3))
    (sSeq (sFor (mRng1 (mP (mUn gLen (mW 2)))) (gN 4)
    (sDrop (mMu hApp 3 (mLcons (mV (mP (mMu hPopAt 2 (mLcons (mCall m_law_draw (mAn 0 (mAe (mUn gLen (mW 2)) mAnil))) mLnil)))) mLnil))))
    (sRet (mV (mN 3))))))
def m_law_shuffled : Gf := fnM 2 5 bm_law_shuffled
def bm_law_pool : MS := (sSeq (sAsg (mV (mC (.str "a b2 town road r k0 seat z9z full tail n m8 aa busy shop p t4 even2 ab1 ship u v2 w lane high mid "))) (gN 0))
    (sSeq (sAsg (mOp gAdd (mN 0) (mC (.str "s t e f g h j x y q7 deep turn gate l5 hold next1 c0 d2 two zz1 near far9 last ring2 aaaaaaa8"))) (gN 0))
    (sRet (mOp gSplit (mN 0) (mC (.str " "))))))
def m_law_pool : Gf := fnM 0 1 bm_law_pool
def bm_law_is_int : MS := (sRet (mAndV (mUn (gIsi "int") (mW 0)) (mNotV (mUn (gIsi "bool") (mW 0)))))
def m_law_is_int : Gf := fnM 1 1 bm_law_is_int
def bm_law_first : MS := (sRet (mUn gSum (mP (mComp (mSeq (mSl (mP (mOpN gIx 0 (mC (.int 1)))) mOno (mOp1 (mN 1)))) (gN 2) mYes (mOpN gIx 2 (mC (.int 1))) [2]))))
def m_law_first : Gf := fnM 2 3 bm_law_first
def bm_law_nodes : MS := (sSeq (sAsg (mCall m_law_first (mAn 0 (mAn 1 mAnil))) (gN 2))
    (sRet (mV (mP (mComp (mRng1 (mP (mOp gIx (mP (mOp gIx (mP (mOpN gIx 0 (mC (.int 1)))) (mN 1))) (mC (.int 1))))) (gN 3) mYes (mV (mP (mOp gAdd (mN 2) (mN 3)))) [3])))))
def m_law_nodes : Gf := fnM 2 4 bm_law_nodes
def bm_law_let : MS := (sSeq (sAsg (mOp gIx (mP (mOpN gIx 0 (mC (.int 2)))) (mN 1)) (gN 2))
    (sSeq (sAsg (mLst mLnil) (gN 3))
    (sSeq (sFor (mSeq (mCall m_law_nodes (mAn 0 (mAe (mOpN gIx 2 (mC (.int 1))) mAnil)))) (gN 4)
    (sFor (mSeq (mCall m_law_nodes (mAn 0 (mAe (mOpN gIx 2 (mC (.int 2))) mAnil)))) (gN 5)
    (sIf (mOrT (mTb (mOp gNe (mP (mOpN gIx 2 (mC (.int 4)))) (mC (.str "mark")))) (mTb (mOp gEq (mN 4) (mW 5))))
    (sDrop (mMu hApp 3 (mLcons (mTup (mLcons (mV (mN 4)) (mLcons (mV (mN 1)) (mLcons (mV (mN 5)) mLnil)))) mLnil)))
    sNil)))
    (sRet (mV (mN 3))))))
def m_law_let : Gf := fnM 2 6 bm_law_let
def bm_law_schema : MS := (sSeq (sAsg (mCall m_law_pool mAnil) (gN 4))
    (sSeq (sAsg (mLst mLnil) (gN 5))
    (sSeq (sFor (mRng1 (mN 1)) (gN 6)
    (sDrop (mMu hApp 5 (mLcons (mV (mP (mTup (mLcons (mCall m_law_pop (mAn 0 (mAn 4 mAnil))) (mLcons (mV (mP (mOp gAdd (mC (.int 1)) (mP (mCall m_law_draw (mAn 0 (mAn 3 mAnil))))))) mLnil))))) mLnil))))
    (sSeq (sAsg (mLst mLnil) (gN 7))
    (sSeq (sFor (mRng1 (mN 2)) (gN 6)
    (sSeq (sAsg (mCall m_law_draw (mAn 0 (mAn 1 mAnil))) (gN 8))
    (sSeq (sAsg (mCall m_law_draw (mAn 0 (mAn 1 mAnil))) (gN 9))
    (sSeq (sAsg (mCall m_law_draw (mAn 0 (mAe (mV (mC (.int 10))) mAnil))) (gN 10))
    (sSeq (sAsg (mV (mC (.str "many"))) (gN 11))
    (sSeq (sIf (mTb (mOp gIn (mN 10) (mP (mTup (mLcons (mV (mC (.int 3))) (mLcons (mV (mC (.int 4))) mLnil))))))
    (sAsg (mV (mC (.str "single"))) (gN 11))
    sNil)
    (sSeq (sIf (mTb (mOp gEq (mN 10) (mC (.int 7))))
    (sSeq (sAsg (mV (mC (.str "mark"))) (gN 11))
    (sAsg (mV (mN 8)) (gN 9)))
    sNil)
    (sSeq (sAsg (mOp gAdd (mC (.int 1)) (mP (mCall m_law_draw (mAn 0 (mAe (mV (mC (.int 4))) mAnil))))) (gN 12))
    (sSeq (sIf (mTb (mOp gEq (mP (mCall m_law_draw (mAn 0 (mAe (mV (mC (.int 9))) mAnil)))) (mC (.int 5))))
    (sAsg (mV (mC (.int 0))) (gN 12))
    sNil)
    (sSeq (sIf (mTb (mCall m_law_rare (mAn 0 (mAe (mV (mC (.int 9))) mAnil))))
    (sAsg (mV (mC (.int 9))) (gN 12))
    sNil)
    (sDrop (mMu hApp 7 (mLcons (mTup (mLcons (mCall m_law_pop (mAn 0 (mAn 4 mAnil))) (mLcons (mV (mN 8)) (mLcons (mV (mN 9)) (mLcons (mV (mN 12)) (mLcons (mV (mN 11)) mLnil)))))) mLnil)))))))))))))
    (sRet (mTup (mLcons (mV (mC (.str "schema"))) (mLcons (mUn gTupOf (mW 5)) (mLcons (mUn gTupOf (mW 7)) mLnil))))))))))
def m_law_schema : Gf := fnM 4 13 bm_law_schema
def bm_law_held_by : MS := (sSeq (sIf (mTb (mOp gEq (mP (mOp gIx (mP (mOp gIx (mP (mOpN gIx 0 (mC (.int 2)))) (mP (mOpN gIx 2 (mC (.int 1)))))) (mC (.int 4)))) (mC (.str "single"))))
    (sForN 1 (gN 3)
    (sIf (mAndT (mTb (mOp gEq (mP (mOpN gIx 3 (mC (.int 0)))) (mP (mOpN gIx 2 (mC (.int 0)))))) (mAndT (mTb (mOp gEq (mP (mOpN gIx 3 (mC (.int 1)))) (mP (mOpN gIx 2 (mC (.int 1)))))) (mTb (mOp gNe (mN 3) (mW 2)))))
    (sRet (mV (mN 3)))
    sNil))
    sNil)
    (sRet (mV (mC .non))))
def m_law_held_by : Gf := fnM 3 4 bm_law_held_by
def bm_law_graph : MS := (sSeq (sAsg (mLst mLnil) (gN 3))
    (sSeq (sFor (mRng1 (mN 2)) (gN 4)
    (sSeq (sAsg (mCall m_law_let (mAn 1 (mAe (mCall m_law_draw (mAn 0 (mAe (mUn gLen (mP (mOpN gIx 1 (mC (.int 2))))) mAnil))) mAnil))) (gN 5))
    (sIf (mTb (mOp gGt (mP (mUn gLen (mW 5))) (mC (.int 0))))
    (sSeq (sAsg (mCall m_law_pick (mAn 0 (mAn 5 mAnil))) (gN 6))
    (sIf (mAndT (mTb (mOp gNotIn (mN 6) (mW 3))) (mTb (mIsN (mP (mCall m_law_held_by (mAn 1 (mAn 3 (mAn 6 mAnil))))))))
    (sDrop (mMu hApp 3 (mLcons (mV (mN 6)) mLnil)))
    sNil))
    sNil)))
    (sRet (mUn gTupOf (mP (mUn gSorted (mW 3)))))))
def m_law_graph : Gf := fnM 3 7 bm_law_graph
def bm_law_step : MS := (sSeq (sAsg (mV (mC (.int 0))) (gN 3))
    (sSeq (sIf (mAndT (mTb (mOp gNe (mP (mOp gIx (mP (mOp gIx (mP (mOpN gIx 1 (mC (.int 2)))) (mN 2))) (mC (.int 4)))) (mC (.str "mark")))) (mTb (mOp gEq (mP (mCall m_law_draw (mAn 0 (mAe (mV (mC (.int 4))) mAnil)))) (mC (.int 1)))))
    (sAsg (mV (mC (.int 1))) (gN 3))
    sNil)
    (sRet (mTup (mLcons (mV (mC (.str "step"))) (mLcons (mV (mN 2)) (mLcons (mV (mN 3)) mLnil)))))))
def m_law_step : Gf := fnM 3 4 bm_law_step
def bm_law_expression : MS := (sSeq (sAsg (mComp (mSeq (mV (mN 2))) (gN 9) mYes (mCall m_law_step (mAn 0 (mAn 1 (mAn 9 mAnil)))) [9]) (gN 3))
    (sSeq (sIf (mOrT (mTb (mOp gEq (mP (mUn gLen (mW 3))) (mC (.int 0)))) (mTb (mOp gEq (mP (mCall m_law_draw (mAn 0 (mAe (mV (mC (.int 8))) mAnil)))) (mC (.int 3)))))
    (sDrop (mMu hInsert 3 (mLcons (mCall m_law_draw (mAn 0 (mAe (mOp gAdd (mP (mUn gLen (mW 3))) (mC (.int 1))) mAnil))) (mLcons (mTup (mLcons (mV (mC (.str "stay"))) mLnil)) mLnil))))
    sNil)
    (sSeq (sAsg (mV (mC (.int 0))) (gN 4))
    (sSeq (sFor (mRng1 (mP (mOp gAdd (mP (mOp gMul (mC (.int 3)) (mP (mUn gLen (mW 3))))) (mC (.int 3))))) (gN 5)
    (sSeq (sAsg (mCall m_law_draw (mAn 0 (mAe (mUn gLen (mW 3)) mAnil))) (gN 6))
    (sSeq (sAsg (mCall m_law_draw (mAn 0 (mAe (mV (mC (.int 9))) mAnil))) (gN 7))
    (sSeq (sIf (mAndT (mTb (mOp gIn (mN 7) (mP (mTup (mLcons (mV (mC (.int 1))) (mLcons (mV (mC (.int 4))) (mLcons (mV (mC (.int 6))) mLnil))))))) (mTb (mOp gLt (mN 4) (mC (.int 6)))))
    (sSeq (sAug gIAdd 4 (mC (.int 1)))
    (sSet 3 (mTup (mLcons (mOp gIx (mP (mLst (mLcons (mV (mC (.str "star"))) (mLcons (mV (mC (.str "plus"))) (mLcons (mV (mC (.str "maybe"))) mLnil))))) (mP (mCall m_law_draw (mAn 0 (mAe (mV (mC (.int 3))) mAnil))))) (mLcons (mOpN gIx 3 (mN 6)) mLnil))) (mN 6)))
    (sIf (mTb (mOp gGt (mP (mUn gLen (mW 3))) (mC (.int 1))))
    (sSeq (sAsg (mCall m_law_draw (mAn 0 (mAe (mOp gSub (mP (mUn gLen (mW 3))) (mC (.int 1))) mAnil))) (gN 6))
    (sSeq (sAsg (mCall m_law_pick (mAn 0 (mAe (mLst (mLcons (mV (mC (.str "then"))) (mLcons (mV (mC (.str "then"))) (mLcons (mV (mC (.str "either"))) mLnil)))) mAnil))) (gN 8))
    (sSetSl 3 (mLst (mLcons (mTup (mLcons (mV (mN 8)) (mLcons (mOpN gIx 3 (mN 6)) (mLcons (mOpN gIx 3 (mP (mOp gAdd (mN 6) (mC (.int 1))))) mLnil)))) mLnil)) (mOp1 (mN 6)) (mOp1 (mP (mOp gAdd (mN 6) (mC (.int 2))))))))
    sNil))
    (sIf (mAndT (mTb (mOp gEq (mP (mUn gLen (mW 3))) (mC (.int 1)))) (mTb (mOp gGt (mP (mCall m_law_draw (mAn 0 (mAe (mV (mC (.int 3))) mAnil)))) (mC (.int 0)))))
    sBrk
    sNil)))))
    (sSeq (whileL (mTb (mOp gGt (mP (mUn gLen (mW 3))) (mC (.int 1))))
    (sSetSl 3 (mLst (mLcons (mTup (mLcons (mV (mC (.str "then"))) (mLcons (mOpN gIx 3 (mC (.int 0))) (mLcons (mOpN gIx 3 (mC (.int 1))) mLnil)))) mLnil)) (mOp1 (mC (.int 0))) (mOp1 (mC (.int 2)))) fuel)
    (sRet (mOpN gIx 3 (mC (.int 0)))))))))
def m_law_expression : Gf := fnM 3 10 bm_law_expression
def bm_law_letters (self : Gf) : MS := (sSeq (sIf (mTb (mOp gEq (mP (mOpN gIx 0 (mC (.int 0)))) (mC (.str "stay"))))
    (sRet (mV (mP (mLst mLnil))))
    sNil)
    (sSeq (sIf (mTb (mOp gEq (mP (mOpN gIx 0 (mC (.int 0)))) (mC (.str "step"))))
    (sRet (mV (mP (mLst (mLcons (mTup (mLcons (mOpN gIx 0 (mC (.int 1))) (mLcons (mOpN gIx 0 (mC (.int 2))) mLnil))) mLnil)))))
    sNil)
    (sSeq (sAsg (mLst mLnil) (gN 1))
    (sSeq (sFor (mSeq (mSlN 0 (mOp1 (mC (.int 1))) mOno)) (gN 2)
    (sAsg (mOp gAdd (mN 1) (mP (mCall self (mAn 2 mAnil)))) (gN 1)))
    (sRet (mV (mN 1)))))))
def m_law_letters : Nat → Gf
  | 0 => fun _ => none
  | n + 1 => fnM 1 3 (bm_law_letters (m_law_letters n))
def bm_law_pairs : MS := (sSeq (sAsg (mLst mLnil) (gN 2))
    (sSeq (sForN 0 (gN 3)
    (sAsg (mOp gAdd (mN 2) (mP (mComp (mSeq (mV (mN 1))) (gN 4) mYes (mTup (mLcons (mV (mN 3)) (mLcons (mV (mN 4)) mLnil))) [4]))) (gN 2)))
    (sRet (mV (mN 2)))))
def m_law_pairs : Gf := fnM 2 5 bm_law_pairs
def bm_law_facts (self : Gf) : MS := (sSeq (sAsg (mOpN gIx 0 (mC (.int 0))) (gN 1))
    (sSeq (sIf (mTb (mOp gEq (mN 1) (mC (.str "stay"))))
    (sRet (mV (mP (mLst (mLcons (mV (mC (.bl true))) (mLcons (mV (mP (mLst mLnil))) (mLcons (mV (mP (mLst mLnil))) (mLcons (mV (mP (mLst mLnil))) mLnil))))))))
    sNil)
    (sSeq (sIf (mTb (mOp gEq (mN 1) (mC (.str "step"))))
    (sRet (mV (mP (mLst (mLcons (mV (mC (.bl false))) (mLcons (mV (mP (mLst (mLcons (mOpN gIx 0 (mC (.int 1))) mLnil)))) (mLcons (mV (mP (mLst mLnil))) (mLcons (mV (mP (mLst (mLcons (mOpN gIx 0 (mC (.int 1))) mLnil)))) mLnil))))))))
    sNil)
    (sSeq (sAsg (mCall self (mAe (mOpN gIx 0 (mC (.int 1))) mAnil)) (gN 2))
    (sSeq (sIf (mTb (mOp gEq (mN 1) (mC (.str "maybe"))))
    (sRet (mV (mP (mLst (mLcons (mV (mC (.bl true))) (mLcons (mOpN gIx 2 (mC (.int 1))) (mLcons (mOpN gIx 2 (mC (.int 2))) (mLcons (mOpN gIx 2 (mC (.int 3))) mLnil))))))))
    sNil)
    (sSeq (sIf (mTb (mOp gIn (mN 1) (mP (mTup (mLcons (mV (mC (.str "star"))) (mLcons (mV (mC (.str "plus"))) mLnil))))))
    (sRet (mV (mP (mLst (mLcons (mOrV (mOpN gIx 2 (mC (.int 0))) (mOp gEq (mN 1) (mC (.str "star")))) (mLcons (mOpN gIx 2 (mC (.int 1))) (mLcons (mV (mP (mOp gAdd (mP (mOpN gIx 2 (mC (.int 2)))) (mP (mCall m_law_pairs (mAe (mOpN gIx 2 (mC (.int 3))) (mAe (mOpN gIx 2 (mC (.int 1))) mAnil))))))) (mLcons (mOpN gIx 2 (mC (.int 3))) mLnil))))))))
    sNil)
    (sSeq (sAsg (mCall self (mAe (mOpN gIx 0 (mC (.int 2))) mAnil)) (gN 3))
    (sSeq (sIf (mTb (mOp gEq (mN 1) (mC (.str "either"))))
    (sRet (mV (mP (mLst (mLcons (mOrV (mOpN gIx 2 (mC (.int 0))) (mOpN gIx 3 (mC (.int 0)))) (mLcons (mV (mP (mOp gAdd (mP (mOpN gIx 2 (mC (.int 1)))) (mP (mOpN gIx 3 (mC (.int 1))))))) (mLcons (mV (mP (mOp gAdd (mP (mOpN gIx 2 (mC (.int 2)))) (mP (mOpN gIx 3 (mC (.int 2))))))) (mLcons (mV (mP (mOp gAdd (mP (mOpN gIx 2 (mC (.int 3)))) (mP (mOpN gIx 3 (mC (.int 3))))))) mLnil))))))))
    sNil)
    (sSeq (sAsg (mUn gListOf (mP (mOpN gIx 2 (mC (.int 1))))) (gN 4))
    (sSeq (sAsg (mUn gListOf (mP (mOpN gIx 3 (mC (.int 3))))) (gN 5))
    (sSeq (sIf (mTb (mOpN gIx 2 (mC (.int 0))))
    (sAsg (mOp gAdd (mN 4) (mP (mOpN gIx 3 (mC (.int 1))))) (gN 4))
    sNil)
    (sSeq (sIf (mTb (mOpN gIx 3 (mC (.int 0))))
    (sAsg (mOp gAdd (mN 5) (mP (mOpN gIx 2 (mC (.int 3))))) (gN 5))
    sNil)
    (sRet (mV (mP (mLst (mLcons (mAndV (mOpN gIx 2 (mC (.int 0))) (mOpN gIx 3 (mC (.int 0)))) (mLcons (mV (mN 4)) (mLcons (mV (mP (mOp gAdd (mP (mOp gAdd (mP (mOpN gIx 2 (mC (.int 2)))) (mP (mOpN gIx 3 (mC (.int 2)))))) (mP (mCall m_law_pairs (mAe (mOpN gIx 2 (mC (.int 3))) (mAe (mOpN gIx 3 (mC (.int 1))) mAnil))))))) (mLcons (mV (mN 5)) mLnil))))))))))))))))))))
def m_law_facts : Nat → Gf
  | 0 => fun _ => none
  | n + 1 => fnM 1 6 (bm_law_facts (m_law_facts n))
def bm_law_up : MS := (sRet (mUn gTupOf (mP (mUn gUp5 (mW 0)))))
def m_law_up : Gf := fnM 1 1 bm_law_up
def bm_law_book : MS := (sSeq (sAsg (mCall (m_law_facts 70) (mAn 0 mAnil)) (gN 1))
    (sSeq (sAsg (mCall m_law_up (mAe (mCall (m_law_letters 70) (mAn 0 mAnil)) mAnil)) (gN 2))
    (sRet (mTup (mLcons (mV (mC (.str "book"))) (mLcons (mUn gInt (mP (mOpN gIx 1 (mC (.int 0))))) (mLcons (mV (mN 2)) (mLcons (mCall m_law_up (mAe (mOpN gIx 1 (mC (.int 1))) mAnil)) (mLcons (mCall m_law_up (mAe (mOpN gIx 1 (mC (.int 2))) mAnil)) (mLcons (mCall m_law_up (mAe (mOpN gIx 1 (mC (.int 3))) mAnil)) mLnil))))))))))
def m_law_book : Gf := fnM 1 3 bm_law_book
def bm_law_back : MS := (sSeq (sAsg mDNewK (gN 1))
    (sSeq (sFor (mSeq (mOpN gIx 0 (mC (.int 2)))) (gT (gsCons (gN 2) (gsCons (gN 3) gsNil)))
    (sDPut 1 (mV (mN 3)) (mKk (mN 2))))
    (sRet (mV (mN 1)))))
def m_law_back : Gf := fnM 1 4 bm_law_back
def bm_law_walk : MS := (sRet (mIfE (mTb (mOp gEq (mN 0) (mC (.int 1)))) (mTup (mLcons (mOpN gIx 1 (mC (.int 2))) (mLcons (mOpN gIx 1 (mC (.int 0))) mLnil))) (mTup (mLcons (mOpN gIx 1 (mC (.int 0))) (mLcons (mOpN gIx 1 (mC (.int 2))) mLnil)))))
def m_law_walk : Gf := fnM 2 2 bm_law_walk
def bm_law_gates : MS := (sSeq (sAsg mDNewT (gN 3))
    (sSeq (sFor (mSeq (mOpN gIx 0 (mC (.int 3)))) (gN 4)
    (sDPut 3 (mV (mC (.bl true))) (mKt (mLcons (mV (mN 1)) (mLcons (mV (mN 4)) mLnil)))))
    (sSeq (sForL 2 (gT (gsCons (gN 5) (gsCons (gN 4) gsNil)))
    (sFor (mSeq (mOpN gIx 0 (mC (.int 4)))) (gT (gsCons (gN 6) (gsCons (gN 7) gsNil)))
    (sIf (mTb (mOp gEq (mN 6) (mW 4)))
    (sDPut 3 (mV (mC (.bl true))) (mKt (mLcons (mV (mN 5)) (mLcons (mV (mN 7)) mLnil))))
    sNil)))
    (sRet (mV (mN 3))))))
def m_law_gates : Gf := fnM 3 8 bm_law_gates
def bm_law_states : MS := (sSeq (sAsg (mCall m_law_back (mAn 1 mAnil)) (gN 3))
    (sSeq (sAsg mDNewT (gN 4))
    (sSeq (sFor (mRng1 (mP (mOp gAdd (mP (mOp gMul (mC (.int 24)) (mC (.int 12)))) (mC (.int 2))))) (gN 5)
    (sSeq (sAsg (mCall m_law_gates (mAn 1 (mAn 2 (mAn 4 mAnil)))) (gN 6))
    (sSeq (sAsg (mLst mLnil) (gN 7))
    (sSeq (sForN 0 (gN 8)
    (sIf (mTb (mDIn false 3 (mKk (mP (mOpN gIx 8 (mC (.int 1)))))))
    (sSeq (sAsg (mCall m_law_walk (mAe (mDSub 3 (mKk (mP (mOpN gIx 8 (mC (.int 1)))))) (mAn 8 mAnil))) (gN 9))
    (sIf (mAndT (mTb (mDIn false 6 (mKt (mLcons (mOpN gIx 9 (mC (.int 0))) (mLcons (mOpN gIx 8 (mC (.int 1))) mLnil))))) (mTb (mDIn true 4 (mKt (mLcons (mOpN gIx 9 (mC (.int 1))) (mLcons (mOpN gIx 8 (mC (.int 1))) mLnil))))))
    (sDrop (mMu hApp 7 (mLcons (mTup (mLcons (mOpN gIx 9 (mC (.int 1))) (mLcons (mOpN gIx 8 (mC (.int 1))) mLnil))) mLnil)))
    sNil))
    sNil))
    (sSeq (sIf (mTb (mOp gEq (mP (mUn gLen (mW 7))) (mC (.int 0))))
    sBrk
    sNil)
    (sForN 7 (gN 10)
    (sDPut 4 (mV (mC (.bl true))) (mKv (mN 10)))))))))
    (sRet (mV (mN 4))))))
def m_law_states : Gf := fnM 3 11 bm_law_states
def bm_law_ends_there : MS := (sSeq (sIf (mAndT (mTb (mOp gEq (mP (mOpN gIx 0 (mC (.int 1)))) (mC (.int 1)))) (mTb (mOp gEq (mN 1) (mW 2))))
    (sRet (mV (mC (.bl true))))
    sNil)
    (sRet (mOp gGt (mP (mUn gLen (mP (mComp (mSeq (mOpN gIx 0 (mC (.int 5)))) (gN 4) (mAltB (mTb (mDIn false 3 (mKt (mLcons (mV (mN 2)) (mLcons (mV (mN 4)) mLnil))))) (mTb (mOp gIn (mP (mTup (mLcons (mV (mN 2)) (mLcons (mV (mN 4)) mLnil)))) (mW 3)))) (mV (mN 4)) [4])))) (mC (.int 0)))))
def m_law_ends_there : Gf := fnM 4 5 bm_law_ends_there
def bm_law_same (self : Gf) : MS := (sSeq (sIf (mTb (mUn (gIsi "tuple") (mW 1)))
    (sSeq (sIf (mOrT (mNot (mTb (mUn (gIsi "tuple") (mW 0)))) (mTb (mOp gNe (mP (mUn gLen (mW 0))) (mP (mUn gLen (mW 1))))))
    (sRet (mV (mC (.bl false))))
    sNil)
    (sRet (mUn gAll (mP (mComp (mRng1 (mP (mUn gLen (mW 1)))) (gN 2) mYes (mCall self (mAe (mOpN gIx 0 (mN 2)) (mAe (mOpN gIx 1 (mN 2)) mAnil))) [2])))))
    sNil)
    (sSeq (sIf (mTb (mUn (gIsi "str") (mW 1)))
    (sRet (mAndV (mUn (gIsi "str") (mW 0)) (mOp gEq (mN 0) (mW 1))))
    sNil)
    (sRet (mAndV (mCall m_law_is_int (mAn 0 mAnil)) (mOp gEq (mN 0) (mW 1))))))
def m_law_same : Nat → Gf
  | 0 => fun _ => none
  | n + 1 => fnM 2 3 (bm_law_same (m_law_same n))
def bm_law_chained : MS := (sSeq (sAsg (mCall m_law_schema (mAn 0 (mAn 1 (mAn 2 (mAn 3 mAnil))))) (gN 4))
    (sSeq (sAsg (mLst mLnil) (gN 5))
    (sSeq (sAsg (mCall m_law_draw (mAn 0 (mAn 1 mAnil))) (gN 6))
    (sSeq (sFor (mSeq (mOpN gIx 4 (mC (.int 2)))) (gN 7)
    (sSeq (sPar 8 9 (mLcons (mOpN gIx 7 (mC (.int 1))) (mLcons (mOpN gIx 7 (mC (.int 2))) mLnil)))
    (sSeq (sIf (mTb (mOp gGt (mP (mCall m_law_draw (mAn 0 (mAe (mV (mC (.int 4))) mAnil)))) (mC (.int 0))))
    (sSeq (sAsg (mV (mN 6)) (gN 8))
    (sIf (mTb (mOp gEq (mP (mOpN gIx 7 (mC (.int 4)))) (mC (.str "mark"))))
    (sAsg (mV (mN 6)) (gN 9))
    sNil))
    sNil)
    (sSeq (sDrop (mMu hApp 5 (mLcons (mTup (mLcons (mOpN gIx 7 (mC (.int 0))) (mLcons (mV (mN 8)) (mLcons (mV (mN 9)) (mLcons (mOpN gIx 7 (mC (.int 3))) (mLcons (mOpN gIx 7 (mC (.int 4))) mLnil)))))) mLnil)))
    (sAsg (mV (mN 9)) (gN 6))))))
    (sSeq (sAsg (mUn gListOf (mP (mOpN gIx 4 (mC (.int 1))))) (gN 10))
    (sSeq (sIf (mAndT (mTb (mOp gGt (mN 1) (mC (.int 1)))) (mTb (mCall m_law_rare (mAn 0 (mAe (mV (mC (.int 9))) mAnil)))))
    (sSeq (sAsg (mCall m_law_draw (mAn 0 (mAn 1 mAnil))) (gN 11))
    (sSet 10 (mTup (mLcons (mOp gIx (mP (mOpN gIx 10 (mN 11))) (mC (.int 0))) (mLcons (mV (mC (.int 0))) mLnil))) (mN 11)))
    sNil)
    (sRet (mTup (mLcons (mV (mC (.str "schema"))) (mLcons (mUn gTupOf (mW 10)) (mLcons (mUn gTupOf (mW 5)) mLnil)))))))))))
def m_law_chained : Gf := fnM 4 12 bm_law_chained
def bm_law_joins : MS := (sSeq (sIf (mAndT (mTb (mOp gGt (mP (mUn gLen (mW 2))) (mC (.int 1)))) (mTb (mOp gGt (mP (mCall m_law_draw (mAn 0 (mAe (mV (mC (.int 4))) mAnil)))) (mC (.int 0)))))
    (sSeq (sAsg (mOp gAdd (mC (.int 1)) (mP (mCall m_law_draw (mAn 0 (mAe (mOp gSub (mP (mUn gLen (mW 2))) (mC (.int 1))) mAnil))))) (gN 3))
    (sSeq (sAsg (mCall m_law_expression (mAn 0 (mAn 1 (mAe (mSlN 2 mOno (mOp1 (mN 3))) mAnil)))) (gN 4))
    (sRet (mTup (mLcons (mV (mC (.str "then"))) (mLcons (mV (mN 4)) (mLcons (mCall m_law_expression (mAn 0 (mAn 1 (mAe (mSlN 2 (mOp1 (mN 3)) mOno) mAnil)))) mLnil)))))))
    sNil)
    (sRet (mCall m_law_expression (mAn 0 (mAn 1 (mAn 2 mAnil))))))
def m_law_joins : Gf := fnM 3 5 bm_law_joins
def bm_law_index : MS := (sSeq (sAsg (mCall m_law_book (mAn 2 mAnil)) (gN 5))
    (sSeq (sAsg (mLst mLnil) (gN 6))
    (sSeq (sFor (mSeq (mCall m_law_nodes (mAn 0 (mAn 3 mAnil)))) (gN 7)
    (sSeq (sAsg (mCall m_law_states (mAn 1 (mAn 5 (mAn 7 mAnil)))) (gN 8))
    (sAsg (mOp gAdd (mN 6) (mP (mComp (mSeq (mCall m_law_nodes (mAn 0 (mAn 4 mAnil)))) (gN 9) (mTb (mCall m_law_ends_there (mAn 5 (mAn 7 (mAn 9 (mAn 8 mAnil)))))) (mTup (mLcons (mV (mN 7)) (mLcons (mV (mN 9)) mLnil))) [9]))) (gN 6))))
    (sRet (mTup (mLcons (mV (mC (.str "index"))) (mLcons (mV (mN 2)) (mLcons (mV (mN 3)) (mLcons (mV (mN 4)) (mLcons (mUn gTupOf (mW 6)) mLnil))))))))))
def m_law_index : Gf := fnM 5 10 bm_law_index
def bm_law : MS := (sSeq (sAsg (mCall m_law_begin (mAn 0 mAnil)) (gN 1))
    (sSeq (sAsg (mOp gAdd (mC (.int 1)) (mP (mCall m_law_draw (mAn 1 (mAe (mV (mC (.int 3))) mAnil))))) (gN 2))
    (sSeq (sPar3 3 4 5 (mLcons (mV (mP (mOp gAdd (mC (.int 1)) (mP (mCall m_law_draw (mAn 1 (mAe (mV (mC (.int 5))) mAnil))))))) (mLcons (mOp gSub (mP (mOp gSub (mC (.int 7)) (mN 2))) (mP (mOp gFdiv (mN 2) (mC (.int 2))))) (mLcons (mV (mC (.int 12))) mLnil))))
    (sSeq (sIf (mTb (mCall m_law_rare (mAn 1 (mAe (mV (mC (.int 21))) mAnil))))
    (sPar3 3 4 5 (mLcons (mV (mC (.int 8))) (mLcons (mOp gFdiv (mC (.int 12)) (mN 2)) (mLcons (mV (mC (.int 20))) mLnil))))
    sNil)
    (sSeq (sAsg (mCall m_law_chained (mAn 1 (mAn 2 (mAn 3 (mAn 4 mAnil))))) (gN 6))
    (sSeq (sAsg (mCall m_law_graph (mAn 1 (mAn 6 (mAe (mCall m_law_draw (mAn 1 (mAe (mOp gAdd (mN 5) (mC (.int 1))) mAnil))) mAnil)))) (gN 7))
    (sSeq (sAsg (mCall m_law_graph (mAn 1 (mAn 6 (mAe (mCall m_law_draw (mAn 1 (mAe (mOp gAdd (mN 5) (mC (.int 1))) mAnil))) mAnil)))) (gN 8))
    (sSeq (sAsg (mUn gLRng (mN 3)) (gN 9))
    (sSeq (sIf (mTb (mOp gEq (mP (mCall m_law_draw (mAn 1 (mAe (mV (mC (.int 3))) mAnil)))) (mC (.int 1))))
    (sAsg (mCall m_law_shuffled (mAn 1 (mAn 9 mAnil))) (gN 9))
    sNil)
    (sSeq (sAsg (mCall m_law_joins (mAn 1 (mAn 6 (mAe (mSlN 9 mOno (mOp1 (mP (mCall m_law_draw (mAn 1 (mAe (mOp gAdd (mN 3) (mC (.int 1))) mAnil)))))) mAnil)))) (gN 10))
    (sSeq (sAsg (mLst mLnil) (gN 11))
    (sSeq (sFor (mRng1 (mN 2)) (gN 12)
    (sAsg (mOp gAdd (mN 11) (mP (mComp (mRng1 (mN 2)) (gN 15) mYes (mTup (mLcons (mV (mN 7)) (mLcons (mV (mN 12)) (mLcons (mV (mN 15)) mLnil)))) [15]))) (gN 11)))
    (sSeq (sAsg (mTup (mLcons (mCall m_law_draw (mAn 1 (mAn 2 mAnil))) (mLcons (mCall m_law_draw (mAn 1 (mAn 2 mAnil))) mLnil))) (gN 13))
    (sSeq (sAsg (mOp gAdd (mN 11) (mP (mComp (mSeq (mTup (mLcons (mV (mN 8)) (mLcons (mTup mLnil) (mLcons (mV (mN 7)) mLnil))))) (gN 14) mYes (mV (mP (mOp gAdd (mP (mTup (mLcons (mV (mN 14)) mLnil))) (mN 13)))) [14]))) (gN 11))
    (sSeq (sForN 11 (gT (gsCons (gN 14) (gsCons (gN 12) (gsCons (gN 15) gsNil))))
    (sSeq (sAsg (mCall m_law_index (mAn 6 (mAn 14 (mAn 10 (mAn 12 (mAn 15 mAnil)))))) (gN 16))
    (sIf (mNot (mTb (mCall (m_law_same 70) (mAe (mCall m_index_of (mAn 6 (mAn 14 (mAn 10 (mAn 12 (mAn 15 mAnil)))))) (mAn 16 mAnil)))))
    (sRet (mV (mC (.bl false))))
    sNil)))
    (sRet (mV (mC (.bl true)))))))))))))))))))
def m_law : Gf := fnM 1 17 bm_law
def topS (i : Nat) : Stmt := PySem.Challenge.pw_edgesaway_k54_indexes.main.body.getD i (.Pass ⟨0, 0, 0, 0⟩)
structure Bl (mg : Str → Option Value) : Prop where
  b_abs : mg "abs" = none
  b_all : mg "all" = none
  b_bool : mg "bool" = none
  b_int : mg "int" = none
  b_isinstance : mg "isinstance" = none
  b_len : mg "len" = none
  b_list : mg "list" = none
  b_range : mg "range" = none
  b_set : mg "set" = none
  b_sorted : mg "sorted" = none
  b_str : mg "str" = none
  b_sum : mg "sum" = none
  b_tuple : mg "tuple" = none
section
variable {Pg : Program} {w : World} {K : PySem.W.Frag} {mg : Str → Option Value} {base : Heap}
abbrev sm_first_node : Stmt := topS 7
theorem scm_first_node : FnScope ["schema", "kind", "row"] ["schema", "kind"] (defScope sm_first_node) := ⟨rfl, rfl, rfl, by decide +kernel, rfl, by decide +kernel, by decide +kernel⟩
theorem hm_first_node {f : Addr} {fd : FuncData} (T : Bl mg) (F : Fun K "first_node" "first_node" sm_first_node f fd) (hm : mg "first_node" = some (.ref f)) (hb : Binds K fd ["schema", "kind"] [])  : Has Pg w K mg base "first_node" 1 ["schema", "kind"] m_first_node := by
  have nd := (scm_first_node).nd
  refine ⟨⟨f, fd, fn_ok (k := 0) F scm_first_node rfl rfl fun cdv A outer s H E hr => ?_, hm, F.kp, hb⟩⟩
  have hu : (A.deeper (envOfC "first_node" (defScope sm_first_node) s.heap.objs.size f cdv)).units + 65 < cLine := hu_room hr
  exact ex_of (K := K) (m := bm_first_node) (by unfold bm_first_node; exact (qss_one (qs_ret (q_b1 (call_K rfl (cr_sum rfl)) sc_sum T.b_sum (QP.B (QE.P (q_comp (cs := _) [("row", 2)] nd rfl (qi_seq (q_sl (QE.P (q_ixN 0 qc_int)) qo_none (qo_some (qn 1)))) (blkOk_by (N := ["schema", "kind", "row"]) (sc := (defScope sm_first_node)) (by decide +kernel)) (fun _ _ _ _ _ => (qg_n 2 nd)) (fun _ _ _ _ _ => qts_nil) (fun _ _ _ _ _ => (q_ixN 2 qc_int)))))))))
abbrev sm_nodes_of : Stmt := topS 8
theorem scm_nodes_of : FnScope ["schema", "kind", "first", "k"] ["schema", "kind"] (defScope sm_nodes_of) := ⟨rfl, rfl, rfl, by decide +kernel, rfl, by decide +kernel, by decide +kernel⟩
theorem hm_nodes_of {f : Addr} {fd : FuncData} (T : Bl mg) (F : Fun K "nodes_of" "nodes_of" sm_nodes_of f fd) (hm : mg "nodes_of" = some (.ref f)) (hb : Binds K fd ["schema", "kind"] []) (Hfirst_node : Has Pg w K mg base "first_node" 1 ["schema", "kind"] m_first_node) : Has Pg w K mg base "nodes_of" 2 ["schema", "kind"] m_nodes_of := by
  have nd := (scm_nodes_of).nd
  refine ⟨⟨f, fd, fn_ok (k := 1) F scm_nodes_of rfl rfl fun cdv A outer s H E hr => ?_, hm, F.kp, hb⟩⟩
  have hu : (A.deeper (envOfC "nodes_of" (defScope sm_nodes_of) s.heap.objs.size f cdv)).units + 65 < cLine := hu_room hr
  exact ex_of (K := K) (m := bm_nodes_of) (by unfold bm_nodes_of; exact (qss_cons (qs_set 2 nd (q_call Hfirst_node hr (by omega) (qa_n 0 (qa_n 1 qa_nil))))
    (qss_one (qs_ret (q_ty1 (call_K rfl call_tupZ) sc_tupZ T.b_tuple (QP.B (QE.P (q_comp (cs := _) [("k", 3)] nd rfl (qi_rng1 T.b_range (QE.P (q_ix (QE.P (q_ix (QE.P (q_ixN 0 qc_int)) (qn 1))) qc_int))) (blkOk_by (N := ["schema", "kind", "first", "k"]) (sc := (defScope sm_nodes_of)) (by decide +kernel)) (fun _ _ _ _ _ => (qg_n 3 nd)) (fun _ _ _ _ _ => qts_nil) (fun _ _ _ _ _ => (QP.E (QE.P (q_add (qn 2) (qn 3)))))))))))))
abbrev sm_has_node : Stmt := topS 9
theorem scm_has_node : FnScope ["schema", "kind", "node", "first"] ["schema", "kind", "node"] (defScope sm_has_node) := ⟨rfl, rfl, rfl, by decide +kernel, rfl, by decide +kernel, by decide +kernel⟩
theorem hm_has_node {f : Addr} {fd : FuncData} (T : Bl mg) (F : Fun K "has_node" "has_node" sm_has_node f fd) (hm : mg "has_node" = some (.ref f)) (hb : Binds K fd ["schema", "kind", "node"] []) (Hfirst_node : Has Pg w K mg base "first_node" 1 ["schema", "kind"] m_first_node) : Has Pg w K mg base "has_node" 2 ["schema", "kind", "node"] m_has_node := by
  have nd := (scm_has_node).nd
  refine ⟨⟨f, fd, fn_ok (k := 1) F scm_has_node rfl rfl fun cdv A outer s H E hr => ?_, hm, F.kp, hb⟩⟩
  have hu : (A.deeper (envOfC "has_node" (defScope sm_has_node) s.heap.objs.size f cdv)).units + 65 < cLine := hu_room hr
  exact ex_of (K := K) (m := bm_has_node) (by unfold bm_has_node; exact (qss_cons (qs_set 3 nd (q_call Hfirst_node hr (by omega) (qa_n 0 (qa_n 1 qa_nil))))
    (qss_one (qs_ret (q_chain op_le sr_le (o_ltO hu) sr_lt (qn 3) (qn 2) (QP.B (QE.P (q_add (qn 3) (QE.P (q_ix (QE.P (q_ix (QE.P (q_ixN 0 qc_int)) (qn 1))) qc_int))))))))))
abbrev sm_walk_ends : Stmt := topS 11
theorem scm_walk_ends : FnScope ["letter", "edge"] ["letter", "edge"] (defScope sm_walk_ends) := ⟨rfl, rfl, rfl, by decide +kernel, rfl, by decide +kernel, by decide +kernel⟩
theorem hm_walk_ends {f : Addr} {fd : FuncData} (T : Bl mg) (F : Fun K "walk_ends" "walk_ends" sm_walk_ends f fd) (hm : mg "walk_ends" = some (.ref f)) (hb : Binds K fd ["letter", "edge"] [])  : Has Pg w K mg base "walk_ends" 1 ["letter", "edge"] m_walk_ends := by
  have nd := (scm_walk_ends).nd
  refine ⟨⟨f, fd, fn_ok (k := 0) F scm_walk_ends rfl rfl fun cdv A outer s H E hr => ?_, hm, F.kp, hb⟩⟩
  have hu : (A.deeper (envOfC "walk_ends" (defScope sm_walk_ends) s.heap.objs.size f cdv)).units + 65 < cLine := hu_room hr
  exact ex_of (K := K) (m := bm_walk_ends) (by unfold bm_walk_ends; exact (qss_cons (qs_if (qt_eq hu (QE.P (q_ixN 0 qc_int)) (QP.B qc_int))
    (qss_one (qs_ret (q_tup (ql_cons (q_ixN 1 qc_int) (ql_cons (q_ixN 1 qc_int) ql_nil)))))
    qss_nil)
    (qss_one (qs_ret (q_tup (ql_cons (q_ixN 1 qc_int) (ql_cons (q_ixN 1 qc_int) ql_nil)))))))
abbrev sm_letters_by_label : Stmt := topS 12
theorem scm_letters_by_label : FnScope ["book", "found", "letter"] ["book"] (defScope sm_letters_by_label) := ⟨rfl, rfl, rfl, by decide +kernel, rfl, by decide +kernel, by decide +kernel⟩
theorem hm_letters_by_label {f : Addr} {fd : FuncData} (T : Bl mg) (F : Fun K "letters_by_label" "letters_by_label" sm_letters_by_label f fd) (hm : mg "letters_by_label" = some (.ref f)) (hb : Binds K fd ["book"] [])  : Has Pg w K mg base "letters_by_label" 1 ["book"] m_letters_by_label := by
  have nd := (scm_letters_by_label).nd
  refine ⟨⟨f, fd, fn_ok (k := 0) F scm_letters_by_label rfl rfl fun cdv A outer s H E hr => ?_, hm, F.kp, hb⟩⟩
  have hu : (A.deeper (envOfC "letters_by_label" (defScope sm_letters_by_label) s.heap.objs.size f cdv)).units + 65 < cLine := hu_room hr
  exact ex_of (K := K) (m := bm_letters_by_label) (by unfold bm_letters_by_label; exact (qss_cons (qs_set 1 nd q_dnewK)
    (qss_cons (qs_for PassesOwn.never rfl (qi_seq (q_ixN 0 qc_int)) (qg_n 2 nd)
    (qss_one (qs_dput 1 hu (QP.E (qn 2)) (qk_k (QE.P (q_ixN 2 qc_int))))))
    (qss_one (qs_ret (QP.E (qn 1)))))))
abbrev sm_labels_of : Stmt := topS 15
theorem scm_labels_of : FnScope ["expression", "found", "part"] ["expression"] (defScope sm_labels_of) := ⟨rfl, rfl, rfl, by decide +kernel, rfl, by decide +kernel, by decide +kernel⟩
theorem hm_labels_of {f : Addr} {fd : FuncData} (T : Bl mg) (F : Fun K "labels_of" "labels_of" sm_labels_of f fd) (hm : mg "labels_of" = some (.ref f)) (hb : Binds K fd ["expression"] [])  : ∀ n : Nat, Has Pg w K mg base "labels_of" (0 + n) ["expression"] (m_labels_of n) := by
  intro n
  induction n with
  | zero => exact has_zero F hm hb rfl
  | succ n ih =>
    have nd := (scm_labels_of).nd
    refine ⟨⟨f, fd, fn_ok (k := 0 + n) F scm_labels_of rfl rfl fun cdv A outer s H E hr => ?_, hm, F.kp, hb⟩⟩
    have hu : (A.deeper (envOfC "labels_of" (defScope sm_labels_of) s.heap.objs.size f cdv)).units + 65 < cLine := hu_room hr
    have Hlabels_of := ih
    exact ex_of (K := K) (m := bm_labels_of (m_labels_of n)) (by unfold bm_labels_of; exact (qss_cons (qs_if (qt_eq hu (QE.P (q_ixN 0 qc_int)) (QP.B qc_str))
    (qss_one (qs_ret (q_tup ql_nil)))
    qss_nil)
    (qss_cons (qs_if (qt_eq hu (QE.P (q_ixN 0 qc_int)) (QP.B qc_str))
    (qss_one (qs_ret (q_tup (ql_cons (q_ixN 0 qc_int) ql_nil))))
    qss_nil)
    (qss_cons (qs_set 1 nd (q_tup ql_nil))
    (qss_cons (qs_for PassesOwn.never rfl (qi_seq (q_slN 0 (qo_some qc_int) qo_none)) (qg_n 2 nd)
    (qss_one (qs_set 1 nd (q_add (qn 1) (QE.P (q_call Hlabels_of hr (by omega) (qa_n 2 qa_nil)))))))
    (qss_one (qs_ret (QP.E (qn 1)))))))))
abbrev sm_letters_in : Stmt := topS 16
theorem scm_letters_in : FnScope ["expression", "found", "part"] ["expression"] (defScope sm_letters_in) := ⟨rfl, rfl, rfl, by decide +kernel, rfl, by decide +kernel, by decide +kernel⟩
theorem hm_letters_in {f : Addr} {fd : FuncData} (T : Bl mg) (F : Fun K "letters_in" "letters_in" sm_letters_in f fd) (hm : mg "letters_in" = some (.ref f)) (hb : Binds K fd ["expression"] [])  : ∀ n : Nat, Has Pg w K mg base "letters_in" (0 + n) ["expression"] (m_letters_in n) := by
  intro n
  induction n with
  | zero => exact has_zero F hm hb rfl
  | succ n ih =>
    have nd := (scm_letters_in).nd
    refine ⟨⟨f, fd, fn_ok (k := 0 + n) F scm_letters_in rfl rfl fun cdv A outer s H E hr => ?_, hm, F.kp, hb⟩⟩
    have hu : (A.deeper (envOfC "letters_in" (defScope sm_letters_in) s.heap.objs.size f cdv)).units + 65 < cLine := hu_room hr
    have Hletters_in := ih
    exact ex_of (K := K) (m := bm_letters_in (m_letters_in n)) (by unfold bm_letters_in; exact (qss_cons (qs_if (qt_eq hu (QE.P (q_ixN 0 qc_int)) (QP.B qc_str))
    (qss_one (qs_ret (QP.E (QE.P (q_lst ql_nil)))))
    qss_nil)
    (qss_cons (qs_if (qt_eq hu (QE.P (q_ixN 0 qc_int)) (QP.B qc_str))
    (qss_one (qs_ret (QP.E (QE.P (q_lst (ql_cons (q_tup (ql_cons (q_ixN 0 qc_int) (ql_cons (q_ixN 0 qc_int) ql_nil))) ql_nil))))))
    qss_nil)
    (qss_cons (qs_set 1 nd (q_lst ql_nil))
    (qss_cons (qs_for PassesOwn.never rfl (qi_seq (q_slN 0 (qo_some qc_int) qo_none)) (qg_n 2 nd)
    (qss_one (qs_set 1 nd (q_add (qn 1) (QE.P (q_call Hletters_in hr (by omega) (qa_n 2 qa_nil)))))))
    (qss_one (qs_ret (QP.E (qn 1)))))))))
abbrev sm_pairs_between : Stmt := topS 17
theorem scm_pairs_between : FnScope ["lasts", "firsts", "last", "first"] ["lasts", "firsts"] (defScope sm_pairs_between) := ⟨rfl, rfl, rfl, by decide +kernel, rfl, by decide +kernel, by decide +kernel⟩
theorem hm_pairs_between {f : Addr} {fd : FuncData} (T : Bl mg) (F : Fun K "pairs_between" "pairs_between" sm_pairs_between f fd) (hm : mg "pairs_between" = some (.ref f)) (hb : Binds K fd ["lasts", "firsts"] [])  : Has Pg w K mg base "pairs_between" 1 ["lasts", "firsts"] m_pairs_between := by
  have nd := (scm_pairs_between).nd
  refine ⟨⟨f, fd, fn_ok (k := 0) F scm_pairs_between rfl rfl fun cdv A outer s H E hr => ?_, hm, F.kp, hb⟩⟩
  have hu : (A.deeper (envOfC "pairs_between" (defScope sm_pairs_between) s.heap.objs.size f cdv)).units + 65 < cLine := hu_room hr
  exact ex_of (K := K) (m := bm_pairs_between) (by unfold bm_pairs_between; exact (qss_one (qs_ret (QP.E (QE.P (q_comp2 (cs := _) (cs1 := _) [("last", 2), ("first", 3)] [3] nd rfl (qi_seq (QP.E (qn 0))) (blkOk_by (N := ["lasts", "firsts", "last", "first"]) (sc := (defScope sm_pairs_between)) (by decide +kernel)) (fun _ _ _ _ _ => (qg_n 2 nd)) (fun _ _ _ _ _ => qts_nil) (fun _ _ _ _ _ => (qi_seq (QP.E (qn 1)))) (fun _ _ _ _ _ => (qg_n 3 nd)) (fun _ _ _ _ _ => qts_nil) (fun _ _ _ _ _ => (q_tup (ql_cons (QP.E (qn 2)) (ql_cons (QP.E (qn 3)) ql_nil))))))))))
abbrev sm_then_facts : Stmt := topS 18
theorem scm_then_facts : FnScope ["left", "right", "firsts", "lasts"] ["left", "right"] (defScope sm_then_facts) := ⟨rfl, rfl, rfl, by decide +kernel, rfl, by decide +kernel, by decide +kernel⟩
theorem hm_then_facts {f : Addr} {fd : FuncData} (T : Bl mg) (F : Fun K "then_facts" "then_facts" sm_then_facts f fd) (hm : mg "then_facts" = some (.ref f)) (hb : Binds K fd ["left", "right"] []) (Hpairs_between : Has Pg w K mg base "pairs_between" 1 ["lasts", "firsts"] m_pairs_between) : Has Pg w K mg base "then_facts" 2 ["left", "right"] m_then_facts := by
  have nd := (scm_then_facts).nd
  refine ⟨⟨f, fd, fn_ok (k := 1) F scm_then_facts rfl rfl fun cdv A outer s H E hr => ?_, hm, F.kp, hb⟩⟩
  have hu : (A.deeper (envOfC "then_facts" (defScope sm_then_facts) s.heap.objs.size f cdv)).units + 65 < cLine := hu_room hr
  exact ex_of (K := K) (m := bm_then_facts) (by unfold bm_then_facts; exact (qss_cons (qs_set 2 nd (q_add (QE.P (q_ixN 0 qc_int)) (QE.P (q_ifE (QE.T (q_ixN 0 qc_int)) (q_ixN 1 qc_int) (q_lst ql_nil)))))
    (qss_cons (qs_set 3 nd (q_add (QE.P (q_ixN 1 qc_int)) (QE.P (q_ifE (QE.T (q_ixN 1 qc_int)) (q_ixN 0 qc_int) (q_lst ql_nil)))))
    (qss_one (qs_ret (QP.E (QE.P (q_tup (ql_cons (q_andV (q_ixN 0 qc_int) (q_one (q_ixN 1 qc_int))) (ql_cons (QP.E (qn 2)) (ql_cons (QP.E (QE.P (q_add (QE.P (q_add (QE.P (q_ixN 0 qc_int)) (QE.P (q_ixN 1 qc_int)))) (QE.P (q_call Hpairs_between hr (by omega) (qa_e (q_ixN 0 qc_int) (qa_e (q_ixN 1 qc_int) qa_nil))))))) (ql_cons (QP.E (qn 3)) ql_nil))))))))))))
abbrev sm_facts_of : Stmt := topS 19
theorem scm_facts_of : FnScope ["expression", "op", "part", "other"] ["expression"] (defScope sm_facts_of) := ⟨rfl, rfl, rfl, by decide +kernel, rfl, by decide +kernel, by decide +kernel⟩
theorem hm_facts_of {f : Addr} {fd : FuncData} (T : Bl mg) (F : Fun K "facts_of" "facts_of" sm_facts_of f fd) (hm : mg "facts_of" = some (.ref f)) (hb : Binds K fd ["expression"] []) (Hpairs_between : Has Pg w K mg base "pairs_between" 1 ["lasts", "firsts"] m_pairs_between) (Hthen_facts : Has Pg w K mg base "then_facts" 2 ["left", "right"] m_then_facts) : ∀ n : Nat, Has Pg w K mg base "facts_of" (2 + n) ["expression"] (m_facts_of n) := by
  intro n
  induction n with
  | zero => exact has_zero F hm hb rfl
  | succ n ih =>
    have nd := (scm_facts_of).nd
    refine ⟨⟨f, fd, fn_ok (k := 2 + n) F scm_facts_of rfl rfl fun cdv A outer s H E hr => ?_, hm, F.kp, hb⟩⟩
    have hu : (A.deeper (envOfC "facts_of" (defScope sm_facts_of) s.heap.objs.size f cdv)).units + 65 < cLine := hu_room hr
    have Hfacts_of := ih
    exact ex_of (K := K) (m := bm_facts_of (m_facts_of n)) (by unfold bm_facts_of; exact (qss_cons (qs_set 1 nd (q_ixN 0 qc_int))
    (qss_cons (qs_if (qt_eq hu (qn 1) (QP.B qc_str))
    (qss_one (qs_ret (QP.E (QE.P (q_tup (ql_cons (QP.E qc_bl) (ql_cons (QP.E (QE.P (q_lst ql_nil))) (ql_cons (QP.E (QE.P (q_lst ql_nil))) (ql_cons (QP.E (QE.P (q_lst ql_nil))) ql_nil)))))))))
    qss_nil)
    (qss_cons (qs_if (qt_eq hu (qn 1) (QP.B qc_str))
    (qss_one (qs_ret (QP.E (QE.P (q_tup (ql_cons (QP.E qc_bl) (ql_cons (QP.E (QE.P (q_lst (ql_cons (q_ixN 0 qc_int) ql_nil)))) (ql_cons (QP.E (QE.P (q_lst ql_nil))) (ql_cons (QP.E (QE.P (q_lst (ql_cons (q_ixN 0 qc_int) ql_nil)))) ql_nil)))))))))
    qss_nil)
    (qss_cons (qs_set 2 nd (q_call Hfacts_of hr (by omega) (qa_e (q_ixN 0 qc_int) qa_nil)))
    (qss_cons (qs_if (qt_eq hu (qn 1) (QP.B qc_str))
    (qss_one (qs_ret (q_call Hthen_facts hr (by omega) (qa_n 2 (qa_e (q_call Hfacts_of hr (by omega) (qa_e (q_ixN 0 qc_int) qa_nil)) qa_nil)))))
    qss_nil)
    (qss_cons (qs_if (qt_eq hu (qn 1) (QP.B qc_str))
    (qss_cons (qs_set 3 nd (q_call Hfacts_of hr (by omega) (qa_e (q_ixN 0 qc_int) qa_nil)))
    (qss_one (qs_ret (QP.E (QE.P (q_tup (ql_cons (q_orV (q_ixN 2 qc_int) (q_one (q_ixN 3 qc_int))) (ql_cons (QP.E (QE.P (q_add (QE.P (q_ixN 2 qc_int)) (QE.P (q_ixN 3 qc_int))))) (ql_cons (QP.E (QE.P (q_add (QE.P (q_ixN 2 qc_int)) (QE.P (q_ixN 3 qc_int))))) (ql_cons (QP.E (QE.P (q_add (QE.P (q_ixN 2 qc_int)) (QE.P (q_ixN 3 qc_int))))) ql_nil))))))))))
    qss_nil)
    (qss_cons (qs_if (qt_eq hu (qn 1) (QP.B qc_str))
    (qss_one (qs_ret (q_tup (ql_cons (QP.E qc_bl) (ql_cons (q_ixN 2 qc_int) (ql_cons (q_ixN 2 qc_int) (ql_cons (q_ixN 2 qc_int) ql_nil)))))))
    qss_nil)
    (qss_one (qs_ret (QP.E (QE.P (q_tup (ql_cons (q_orV (q_ixN 2 qc_int) (q_one (q_eq hu (qn 1) (QP.B qc_str)))) (ql_cons (q_ixN 2 qc_int) (ql_cons (QP.E (QE.P (q_add (QE.P (q_ixN 2 qc_int)) (QE.P (q_call Hpairs_between hr (by omega) (qa_e (q_ixN 2 qc_int) (qa_e (q_ixN 2 qc_int) qa_nil))))))) (ql_cons (q_ixN 2 qc_int) ql_nil)))))))))))))))))
abbrev sm_ascending : Stmt := topS 20
theorem scm_ascending : FnScope ["things"] ["things"] (defScope sm_ascending) := ⟨rfl, rfl, rfl, by decide +kernel, rfl, by decide +kernel, by decide +kernel⟩
theorem hm_ascending {f : Addr} {fd : FuncData} (T : Bl mg) (F : Fun K "ascending" "ascending" sm_ascending f fd) (hm : mg "ascending" = some (.ref f)) (hb : Binds K fd ["things"] [])  : Has Pg w K mg base "ascending" 1 ["things"] m_ascending := by
  have nd := (scm_ascending).nd
  refine ⟨⟨f, fd, fn_ok (k := 0) F scm_ascending rfl rfl fun cdv A outer s H E hr => ?_, hm, F.kp, hb⟩⟩
  have hu : (A.deeper (envOfC "ascending" (defScope sm_ascending) s.heap.objs.size f cdv)).units + 65 < cLine := hu_room hr
  exact ex_of (K := K) (m := bm_ascending) (by unfold bm_ascending; exact (qss_one (qs_ret (q_ty1 (call_K rfl call_tupZ) sc_tupZ T.b_tuple (QP.B (QE.P (q_upset5 hu T.b_sorted T.b_set (qw 0))))))))
abbrev sm_check_labels_once : Stmt := topS 21
theorem scm_check_labels_once : FnScope ["schema", "labels", "seen", "label"] ["schema", "labels"] (defScope sm_check_labels_once) := ⟨rfl, rfl, rfl, by decide +kernel, rfl, by decide +kernel, by decide +kernel⟩
theorem hm_check_labels_once {f : Addr} {fd : FuncData} (T : Bl mg) (F : Fun K "check_labels_once" "check_labels_once" sm_check_labels_once f fd) (hm : mg "check_labels_once" = some (.ref f)) (hb : Binds K fd ["schema", "labels"] [])  : Has Pg w K mg base "check_labels_once" 1 ["schema", "labels"] m_check_labels_once := by
  have nd := (scm_check_labels_once).nd
  refine ⟨⟨f, fd, fn_ok (k := 0) F scm_check_labels_once rfl rfl fun cdv A outer s H E hr => ?_, hm, F.kp, hb⟩⟩
  have hu : (A.deeper (envOfC "check_labels_once" (defScope sm_check_labels_once) s.heap.objs.size f cdv)).units + 65 < cLine := hu_room hr
  exact ex_of (K := K) (m := bm_check_labels_once) (by unfold bm_check_labels_once; exact (qss_cons (qs_set 2 nd q_dnewK)
    (qss_one (qs_forN 1 PassesOwn.never rfl (qn 1) (qg_n 3 nd)
    (qss_cons (qs_if (qt_din 2 hu (qk_k (qn 3)))
    (qss_one qs_raise)
    qss_nil)
    (qss_one (qs_dput 2 hu (QP.E qc_bl) (qk_k (qn 3)))))))))
abbrev sm_book_of : Stmt := topS 22
theorem scm_book_of : FnScope ["schema", "expression", "labels", "facts", "letters"] ["schema", "expression"] (defScope sm_book_of) := ⟨rfl, rfl, rfl, by decide +kernel, rfl, by decide +kernel, by decide +kernel⟩
theorem hm_book_of {f : Addr} {fd : FuncData} (T : Bl mg) (F : Fun K "book_of" "book_of" sm_book_of f fd) (hm : mg "book_of" = some (.ref f)) (hb : Binds K fd ["schema", "expression"] []) (Hascending : Has Pg w K mg base "ascending" 1 ["things"] m_ascending) (Hcheck_labels_once : Has Pg w K mg base "check_labels_once" 1 ["schema", "labels"] m_check_labels_once) (Hfacts_of : Has Pg w K mg base "facts_of" 72 ["expression"] (m_facts_of 70)) (Hlabels_of : Has Pg w K mg base "labels_of" 70 ["expression"] (m_labels_of 70)) (Hletters_in : Has Pg w K mg base "letters_in" 70 ["expression"] (m_letters_in 70)) (C_MOST_STEPS : ∃ t, mg "MOST_STEPS" = some (.int 8 t)) : Has Pg w K mg base "book_of" 73 ["schema", "expression"] m_book_of := by
  have nd := (scm_book_of).nd
  refine ⟨⟨f, fd, fn_ok (k := 72) F scm_book_of rfl rfl fun cdv A outer s H E hr => ?_, hm, F.kp, hb⟩⟩
  have hu : (A.deeper (envOfC "book_of" (defScope sm_book_of) s.heap.objs.size f cdv)).units + 65 < cLine := hu_room hr
  exact ex_of (K := K) (m := bm_book_of) (by unfold bm_book_of; exact (qss_cons (qs_set 2 nd (q_call Hlabels_of hr (by omega) (qa_n 1 qa_nil)))
    (qss_cons (qs_if (qt_gt (QE.P (q_b1 (call_K rfl cr_lenZ) sc_len T.b_len (qw 2))) (QP.B (qc_glob (v := .int 8) rfl C_MOST_STEPS.choose_spec ⟨_, rfl⟩ (fun _ => rfl))))
    (qss_one qs_raise)
    qss_nil)
    (qss_cons (qs_expr (q_call Hcheck_labels_once hr (by omega) (qa_n 0 (qa_n 2 qa_nil))))
    (qss_cons (qs_set 3 nd (q_call Hfacts_of hr (by omega) (qa_n 1 qa_nil)))
    (qss_cons (qs_set 4 nd (q_ty1 (call_K rfl call_tupZ) sc_tupZ T.b_tuple (QP.B (QE.P (q_b1 (call_K rfl cr_sortZ) sc_sorted T.b_sorted (QP.B (QE.P (q_call Hletters_in hr (by omega) (qa_n 1 qa_nil)))))))))
    (qss_one (qs_ret (q_tup (ql_cons (QP.E qc_str) (ql_cons (q_ty1 call_int1 sc_int T.b_int (QP.B (QE.P (q_ixN 3 qc_int)))) (ql_cons (QP.E (qn 4)) (ql_cons (q_call Hascending hr (by omega) (qa_e (q_ixN 3 qc_int) qa_nil)) (ql_cons (q_call Hascending hr (by omega) (qa_e (q_ixN 3 qc_int) qa_nil)) (ql_cons (q_call Hascending hr (by omega) (qa_e (q_ixN 3 qc_int) qa_nil)) ql_nil)))))))))))))))
abbrev sm_steps_of : Stmt := topS 24
theorem scm_steps_of : FnScope ["book", "graph", "letters", "found", "edge", "ends"] ["book", "graph"] (defScope sm_steps_of) := ⟨rfl, rfl, rfl, by decide +kernel, rfl, by decide +kernel, by decide +kernel⟩
theorem hm_steps_of {f : Addr} {fd : FuncData} (T : Bl mg) (F : Fun K "steps_of" "steps_of" sm_steps_of f fd) (hm : mg "steps_of" = some (.ref f)) (hb : Binds K fd ["book", "graph"] []) (Hletters_by_label : Has Pg w K mg base "letters_by_label" 1 ["book"] m_letters_by_label) (Hwalk_ends : Has Pg w K mg base "walk_ends" 1 ["letter", "edge"] m_walk_ends) : Has Pg w K mg base "steps_of" 2 ["book", "graph"] m_steps_of := by
  have nd := (scm_steps_of).nd
  refine ⟨⟨f, fd, fn_ok (k := 1) F scm_steps_of rfl rfl fun cdv A outer s H E hr => ?_, hm, F.kp, hb⟩⟩
  have hu : (A.deeper (envOfC "steps_of" (defScope sm_steps_of) s.heap.objs.size f cdv)).units + 65 < cLine := hu_room hr
  exact ex_of (K := K) (m := bm_steps_of) (by unfold bm_steps_of; exact (qss_cons (qs_set 2 nd (q_call Hletters_by_label hr (by omega) (qa_n 0 qa_nil)))
    (qss_cons (qs_set 3 nd q_dnewT)
    (qss_cons (qs_forN 1 PassesOwn.never rfl (qn 1) (qg_n 4 nd)
    (qss_one (qs_if (qt_din 2 hu (qk_k (QE.P (q_ixN 4 qc_int))))
    (qss_cons (qs_set 5 nd (q_call Hwalk_ends hr (by omega) (qa_e (q_dsub 2 hu (qk_k (QE.P (q_ixN 4 qc_int)))) (qa_n 4 qa_nil))))
    (qss_one (qs_expr (q_sda 3 hu (qk_t (ql_cons (q_ixN 5 qc_int) (ql_cons (q_ixN 4 qc_int) ql_nil))) (q_lst ql_nil) (ql_cons (q_tup (ql_cons (q_tup (ql_cons (q_ixN 5 qc_int) (ql_cons (q_ixN 4 qc_int) ql_nil))) (ql_cons (QP.E (qn 4)) ql_nil))) ql_nil)))))
    qss_nil)))
    (qss_one (qs_ret (QP.E (qn 3))))))))
abbrev sm_next_labels : Stmt := topS 25
theorem scm_next_labels : FnScope ["book", "found", "first", "second"] ["book"] (defScope sm_next_labels) := ⟨rfl, rfl, rfl, by decide +kernel, rfl, by decide +kernel, by decide +kernel⟩
theorem hm_next_labels {f : Addr} {fd : FuncData} (T : Bl mg) (F : Fun K "next_labels" "next_labels" sm_next_labels f fd) (hm : mg "next_labels" = some (.ref f)) (hb : Binds K fd ["book"] [])  : Has Pg w K mg base "next_labels" 1 ["book"] m_next_labels := by
  have nd := (scm_next_labels).nd
  refine ⟨⟨f, fd, fn_ok (k := 0) F scm_next_labels rfl rfl fun cdv A outer s H E hr => ?_, hm, F.kp, hb⟩⟩
  have hu : (A.deeper (envOfC "next_labels" (defScope sm_next_labels) s.heap.objs.size f cdv)).units + 65 < cLine := hu_room hr
  exact ex_of (K := K) (m := bm_next_labels) (by unfold bm_next_labels; exact (qss_cons (qs_set 1 nd q_dnewK)
    (qss_cons (qs_for PassesOwn.never rfl (qi_seq (q_ixN 0 qc_int)) (qg_tup rfl (qgs_cons (qg_n 2 nd) (qgs_cons (qg_n 3 nd) qgs_nil)))
    (qss_one (qs_expr (q_sda 1 hu (qk_k (qn 2)) (q_lst ql_nil) (ql_cons (QP.E (qn 3)) ql_nil)))))
    (qss_one (qs_ret (QP.E (qn 1)))))))
abbrev sm_first_gates : Stmt := topS 26
theorem scm_first_gates : FnScope ["book", "x", "label"] ["book", "x"] (defScope sm_first_gates) := ⟨rfl, rfl, rfl, by decide +kernel, rfl, by decide +kernel, by decide +kernel⟩
theorem hm_first_gates {f : Addr} {fd : FuncData} (T : Bl mg) (F : Fun K "first_gates" "first_gates" sm_first_gates f fd) (hm : mg "first_gates" = some (.ref f)) (hb : Binds K fd ["book", "x"] [])  : Has Pg w K mg base "first_gates" 1 ["book", "x"] m_first_gates := by
  have nd := (scm_first_gates).nd
  refine ⟨⟨f, fd, fn_ok (k := 0) F scm_first_gates rfl rfl fun cdv A outer s H E hr => ?_, hm, F.kp, hb⟩⟩
  have hu : (A.deeper (envOfC "first_gates" (defScope sm_first_gates) s.heap.objs.size f cdv)).units + 65 < cLine := hu_room hr
  exact ex_of (K := K) (m := bm_first_gates) (by unfold bm_first_gates; exact (qss_one (qs_ret (q_comp (cs := _) [("label", 2)] nd rfl (qi_seq (q_ixN 0 qc_int)) (blkOk_by (N := ["book", "x", "label"]) (sc := (defScope sm_first_gates)) (by decide +kernel)) (fun _ _ _ _ _ => (qg_n 2 nd)) (fun _ _ _ _ _ => qts_nil) (fun _ _ _ _ _ => (q_tup (ql_cons (QP.E (qn 1)) (ql_cons (QP.E (qn 2)) ql_nil))))))))
abbrev sm_gates_behind : Stmt := topS 27
theorem scm_gates_behind : FnScope ["nexts", "state", "label"] ["nexts", "state"] (defScope sm_gates_behind) := ⟨rfl, rfl, rfl, by decide +kernel, rfl, by decide +kernel, by decide +kernel⟩
theorem hm_gates_behind {f : Addr} {fd : FuncData} (T : Bl mg) (F : Fun K "gates_behind" "gates_behind" sm_gates_behind f fd) (hm : mg "gates_behind" = some (.ref f)) (hb : Binds K fd ["nexts", "state"] [])  : Has Pg w K mg base "gates_behind" 1 ["nexts", "state"] m_gates_behind := by
  have nd := (scm_gates_behind).nd
  refine ⟨⟨f, fd, fn_ok (k := 0) F scm_gates_behind rfl rfl fun cdv A outer s H E hr => ?_, hm, F.kp, hb⟩⟩
  have hu : (A.deeper (envOfC "gates_behind" (defScope sm_gates_behind) s.heap.objs.size f cdv)).units + 65 < cLine := hu_room hr
  exact ex_of (K := K) (m := bm_gates_behind) (by unfold bm_gates_behind; exact (qss_one (qs_ret (QP.E (QE.P (q_comp (cs := _) [("label", 2)] nd rfl (qi_seq (q_dget2 0 hu (qk_k (QE.P (q_ixN 1 qc_int))) (QE.P (q_lst ql_nil)))) (blkOk_by (N := ["nexts", "state", "label"]) (sc := (defScope sm_gates_behind)) (by decide +kernel)) (fun _ _ _ _ _ => (qg_n 2 nd)) (fun _ _ _ _ _ => qts_nil) (fun _ _ _ _ _ => (q_tup (ql_cons (q_ixN 1 qc_int) (ql_cons (QP.E (qn 2)) ql_nil))))))))))
abbrev sm_explored : Stmt := topS 29
theorem scm_explored : FnScope ["book", "steps", "x", "nexts", "gates", "states", "touched", "waiting", "gate", "state", "edge"] ["book", "steps", "x"] (defScope sm_explored) := ⟨rfl, rfl, rfl, by decide +kernel, rfl, by decide +kernel, by decide +kernel⟩
theorem hm_explored {f : Addr} {fd : FuncData} (T : Bl mg) (F : Fun K "explored" "explored" sm_explored f fd) (hm : mg "explored" = some (.ref f)) (hb : Binds K fd ["book", "steps", "x"] []) (Hfirst_gates : Has Pg w K mg base "first_gates" 1 ["book", "x"] m_first_gates) (Hgates_behind : Has Pg w K mg base "gates_behind" 1 ["nexts", "state"] m_gates_behind) (Hnext_labels : Has Pg w K mg base "next_labels" 1 ["book"] m_next_labels) : Has Pg w K mg base "explored" 2 ["book", "steps", "x"] m_explored := by
  have nd := (scm_explored).nd
  refine ⟨⟨f, fd, fn_ok (k := 1) F scm_explored rfl rfl fun cdv A outer s H E hr => ?_, hm, F.kp, hb⟩⟩
  have hu : (A.deeper (envOfC "explored" (defScope sm_explored) s.heap.objs.size f cdv)).units + 65 < cLine := hu_room hr
  exact ex_of (K := K) (m := bm_explored) (by unfold bm_explored; exact (qss_cons (qs_set 3 nd (q_call Hnext_labels hr (by omega) (qa_n 0 qa_nil)))
    (qss_cons (qs_set 4 nd q_dnewT)
    (qss_cons (qs_set 5 nd q_dnewT)
    (qss_cons (qs_set 6 nd (q_lst ql_nil))
    (qss_cons (qs_set 7 nd (q_call Hfirst_gates hr (by omega) (qa_n 0 (qa_n 2 qa_nil))))
    (qss_cons (qs_while fuel PassesOwn.never (qt_gt (QE.P (q_b1 (call_K rfl cr_lenZ) sc_len T.b_len (qw 7))) (QP.B qc_int))
    (qss_cons (qs_set 8 nd (q_mu0 7 PySem.F.slot_list_pop PySem.F.type_list_pop mt_pop smu_pop))
    (qss_cons (qs_if (qt_din 4 hu (qk_v (qn 8)))
    (qss_one qs_con)
    qss_nil)
    (qss_cons (qs_dput 4 hu (QP.E qc_bl) (qk_v (qn 8)))
    (qss_one (qs_for PassesOwn.never rfl (qi_seq (q_dget2 1 hu (qk_v (qn 8)) (QE.P (q_lst ql_nil)))) (qg_tup rfl (qgs_cons (qg_n 9 nd) (qgs_cons (qg_n 10 nd) qgs_nil)))
    (qss_cons (qs_expr (q_mu 6 PySem.F.slot_list_append PySem.F.type_list_append mt_append smu_app (ql_cons (QP.E (qn 10)) ql_nil)))
    (qss_one (qs_if (qt_dnotin 5 hu (qk_v (qn 9)))
    (qss_cons (qs_dput 5 hu (QP.E qc_bl) (qk_v (qn 9)))
    (qss_one (qs_expr (q_mu 7 PySem.F.slot_list_extend PySem.F.type_list_extend mt_extZ smu_ext (ql_cons (q_call Hgates_behind hr (by omega) (qa_n 3 (qa_n 9 qa_nil))) ql_nil)))))
    qss_nil)))))))))
    (qss_one (qs_ret (q_tup (ql_cons (QP.E (qn 4)) (ql_cons (QP.E (qn 5)) (ql_cons (QP.E (qn 6)) ql_nil)))))))))))))
abbrev sm_ends_of : Stmt := topS 30
theorem scm_ends_of : FnScope ["book", "x", "states", "found", "state"] ["book", "x", "states"] (defScope sm_ends_of) := ⟨rfl, rfl, rfl, by decide +kernel, rfl, by decide +kernel, by decide +kernel⟩
theorem hm_ends_of {f : Addr} {fd : FuncData} (T : Bl mg) (F : Fun K "ends_of" "ends_of" sm_ends_of f fd) (hm : mg "ends_of" = some (.ref f)) (hb : Binds K fd ["book", "x", "states"] [])  : Has Pg w K mg base "ends_of" 1 ["book", "x", "states"] m_ends_of := by
  have nd := (scm_ends_of).nd
  refine ⟨⟨f, fd, fn_ok (k := 0) F scm_ends_of rfl rfl fun cdv A outer s H E hr => ?_, hm, F.kp, hb⟩⟩
  have hu : (A.deeper (envOfC "ends_of" (defScope sm_ends_of) s.heap.objs.size f cdv)).units + 65 < cLine := hu_room hr
  exact ex_of (K := K) (m := bm_ends_of) (by unfold bm_ends_of; exact (qss_cons (qs_set 3 nd q_dnewK)
    (qss_cons (qs_if (qt_eq hu (QE.P (q_ixN 0 qc_int)) (QP.B qc_int))
    (qss_one (qs_dput 3 hu (QP.E qc_bl) (qk_k (qn 1))))
    qss_nil)
    (qss_cons (qs_forR 2 PassesOwn.never rfl (qn 2) (qg_n 4 nd)
    (qss_one (qs_if (qt_in hu (QE.P (q_ixN 4 qc_int)) (QP.B (QE.P (q_ixN 0 qc_int))))
    (qss_one (qs_dput 3 hu (QP.E qc_bl) (qk_k (QE.P (q_ixN 4 qc_int)))))
    qss_nil)))
    (qss_one (qs_ret (q_ty1 (call_K rfl call_tupZ) sc_tupZ T.b_tuple (QP.B (QE.P (q_sortedD T.b_sorted (qw 3)))))))))))
abbrev sm_pairs_joined : Stmt := topS 31
theorem scm_pairs_joined : FnScope ["graph", "book", "sources", "steps", "found", "x", "y"] ["graph", "book", "sources"] (defScope sm_pairs_joined) := ⟨rfl, rfl, rfl, by decide +kernel, rfl, by decide +kernel, by decide +kernel⟩
theorem hm_pairs_joined {f : Addr} {fd : FuncData} (T : Bl mg) (F : Fun K "pairs_joined" "pairs_joined" sm_pairs_joined f fd) (hm : mg "pairs_joined" = some (.ref f)) (hb : Binds K fd ["graph", "book", "sources"] []) (Hends_of : Has Pg w K mg base "ends_of" 1 ["book", "x", "states"] m_ends_of) (Hexplored : Has Pg w K mg base "explored" 2 ["book", "steps", "x"] m_explored) (Hsteps_of : Has Pg w K mg base "steps_of" 2 ["book", "graph"] m_steps_of) : Has Pg w K mg base "pairs_joined" 3 ["graph", "book", "sources"] m_pairs_joined := by
  have nd := (scm_pairs_joined).nd
  refine ⟨⟨f, fd, fn_ok (k := 2) F scm_pairs_joined rfl rfl fun cdv A outer s H E hr => ?_, hm, F.kp, hb⟩⟩
  have hu : (A.deeper (envOfC "pairs_joined" (defScope sm_pairs_joined) s.heap.objs.size f cdv)).units + 65 < cLine := hu_room hr
  exact ex_of (K := K) (m := bm_pairs_joined) (by unfold bm_pairs_joined; exact (qss_cons (qs_set 3 nd (q_call Hsteps_of hr (by omega) (qa_n 1 (qa_n 0 qa_nil))))
    (qss_cons (qs_set 4 nd (q_lst ql_nil))
    (qss_cons (qs_forN 2 PassesOwn.never rfl (qn 2) (qg_n 5 nd)
    (qss_one (qs_expr (q_mu 4 PySem.F.slot_list_extend PySem.F.type_list_extend mt_extZ smu_ext (ql_cons (QP.E (QE.P (q_comp (cs := _) [("y", 6)] nd rfl (qi_seq (q_call Hends_of hr (by omega) (qa_n 1 (qa_n 5 (qa_e (q_ix (QE.P (q_call Hexplored hr (by omega) (qa_n 1 (qa_n 3 (qa_n 5 qa_nil))))) qc_int) qa_nil))))) (blkOk_by (N := ["graph", "book", "sources", "steps", "found", "x", "y"]) (sc := (defScope sm_pairs_joined)) (by decide +kernel)) (fun _ _ _ _ _ => (qg_n 6 nd)) (fun _ _ _ _ _ => qts_nil) (fun _ _ _ _ _ => (q_tup (ql_cons (QP.E (qn 5)) (ql_cons (QP.E (qn 6)) ql_nil))))))) ql_nil)))))
    (qss_one (qs_ret (q_ty1 (call_K rfl call_tupZ) sc_tupZ T.b_tuple (qw 4))))))))
abbrev sm_index_of : Stmt := topS 33
theorem scm_index_of : FnScope ["schema", "graph", "expression", "start", "end", "pairs", "fitting", "pair"] ["schema", "graph", "expression", "start", "end"] (defScope sm_index_of) := ⟨rfl, rfl, rfl, by decide +kernel, rfl, by decide +kernel, by decide +kernel⟩
theorem hm_index_of {f : Addr} {fd : FuncData} (T : Bl mg) (F : Fun K "index_of" "index_of" sm_index_of f fd) (hm : mg "index_of" = some (.ref f)) (hb : Binds K fd ["schema", "graph", "expression", "start", "end"] []) (Hbook_of : Has Pg w K mg base "book_of" 73 ["schema", "expression"] m_book_of) (Hhas_node : Has Pg w K mg base "has_node" 2 ["schema", "kind", "node"] m_has_node) (Hnodes_of : Has Pg w K mg base "nodes_of" 2 ["schema", "kind"] m_nodes_of) (Hpairs_joined : Has Pg w K mg base "pairs_joined" 3 ["graph", "book", "sources"] m_pairs_joined) : Has Pg w K mg base "index_of" 74 ["schema", "graph", "expression", "start", "end"] m_index_of := by
  have nd := (scm_index_of).nd
  refine ⟨⟨f, fd, fn_ok (k := 73) F scm_index_of rfl rfl fun cdv A outer s H E hr => ?_, hm, F.kp, hb⟩⟩
  have hu : (A.deeper (envOfC "index_of" (defScope sm_index_of) s.heap.objs.size f cdv)).units + 65 < cLine := hu_room hr
  exact ex_of (K := K) (m := bm_index_of) (by unfold bm_index_of; exact (qss_cons (qs_set 5 nd (q_call Hpairs_joined hr (by omega) (qa_n 1 (qa_e (q_call Hbook_of hr (by omega) (qa_n 0 (qa_n 2 qa_nil))) (qa_e (q_call Hnodes_of hr (by omega) (qa_n 0 (qa_n 3 qa_nil))) qa_nil)))))
    (qss_cons (qs_set 6 nd (q_ty1 (call_K rfl call_tupZ) sc_tupZ T.b_tuple (QP.B (QE.P (q_comp (cs := _) [("pair", 7)] nd rfl (qi_seq (QP.E (qn 5))) (blkOk_by (N := ["schema", "graph", "expression", "start", "end", "pairs", "fitting", "pair"]) (sc := (defScope sm_index_of)) (by decide +kernel)) (fun _ _ _ _ _ => (qg_n 7 nd)) (fun _ _ _ _ _ => (qts_one (QE.T (q_call Hhas_node hr (by omega) (qa_n 0 (qa_n 4 (qa_e (q_ixN 7 qc_int) qa_nil))))))) (fun _ _ _ _ _ => (QP.E (qn 7))))))))
    (qss_one (qs_ret (q_tup (ql_cons (QP.E qc_str) (ql_cons (QP.E (qn 2)) (ql_cons (QP.E (qn 3)) (ql_cons (QP.E (qn 4)) (ql_cons (QP.E (qn 6)) ql_nil)))))))))))
abbrev sm_law_begin : Stmt := topS 35
theorem scm_law_begin : FnScope ["_law_script", "_law_cell"] ["_law_script"] (defScope sm_law_begin) := ⟨rfl, rfl, rfl, by decide +kernel, rfl, by decide +kernel, by decide +kernel⟩
theorem hm_law_begin {f : Addr} {fd : FuncData} (T : Bl mg) (F : Fun K "_law_begin" "_law_begin" sm_law_begin f fd) (hm : mg "_law_begin" = some (.ref f)) (hb : Binds K fd ["_law_script"] [])  : Has Pg w K mg base "_law_begin" 1 ["_law_script"] m_law_begin := by
  have nd := (scm_law_begin).nd
  refine ⟨⟨f, fd, fn_ok (k := 0) F scm_law_begin rfl rfl fun cdv A outer s H E hr => ?_, hm, F.kp, hb⟩⟩
  have hu : (A.deeper (envOfC "_law_begin" (defScope sm_law_begin) s.heap.objs.size f cdv)).units + 65 < cLine := hu_room hr
  exact ex_of (K := K) (m := bm_law_begin) (by unfold bm_law_begin; exact (qss_one (qs_ret (q_lst (ql_cons (QP.E (QE.P (q_comp (cs := _) [("_law_cell", 1)] nd rfl (qi_seq (QP.E (qn 0))) (blkOk_by (N := ["_law_script", "_law_cell"]) (sc := (defScope sm_law_begin)) (by decide +kernel)) (fun _ _ _ _ _ => (qg_n 1 nd)) (fun _ _ _ _ _ => qts_nil) (fun _ _ _ _ _ => (q_ty1 call_int1 sc_int T.b_int (qw 1)))))) (ql_cons (QP.E qc_int) (ql_cons (QP.E qc_int) (ql_cons (QP.E qc_int) ql_nil))))))))
abbrev sm_law_draw : Stmt := topS 36
theorem scm_law_draw : FnScope ["_law_d", "_law_many", "_law_found", "_law_size", "_law_cell"] ["_law_d", "_law_many"] (defScope sm_law_draw) := ⟨rfl, rfl, rfl, by decide +kernel, rfl, by decide +kernel, by decide +kernel⟩
theorem hm_law_draw {f : Addr} {fd : FuncData} (T : Bl mg) (F : Fun K "_law_draw" "_law_draw" sm_law_draw f fd) (hm : mg "_law_draw" = some (.ref f)) (hb : Binds K fd ["_law_d", "_law_many"] [])  : Has Pg w K mg base "_law_draw" 1 ["_law_d", "_law_many"] m_law_draw := by
  have nd := (scm_law_draw).nd
  refine ⟨⟨f, fd, fn_ok (k := 0) F scm_law_draw rfl rfl fun cdv A outer s H E hr => ?_, hm, F.kp, hb⟩⟩
  have hu : (A.deeper (envOfC "_law_draw" (defScope sm_law_draw) s.heap.objs.size f cdv)).units + 65 < cLine := hu_room hr
  exact ex_of (K := K) (m := bm_law_draw) (by unfold bm_law_draw; exact (qss_cons (qs_if (qt_gt (QE.P (q_ixN 0 qc_int)) (QP.B qc_int))
    (qss_cons (qs_set 2 nd (q_ixN 0 qc_int))
    (qss_cons (qs_put 0 (q_fdiv (qn 2) (qn 1)) qc_int)
    (qss_one (qs_ret (q_mod (QE.P (q_ty1 call_int1 sc_int T.b_int (qw 2))) (qn 1))))))
    qss_nil)
    (qss_cons (qs_set 3 nd (QP.E qc_int))
    (qss_cons (qs_if (qt_lt hu (QE.P (q_ixN 0 qc_int)) (QP.B (QE.P (q_b1 (call_K rfl cr_lenZ) sc_len T.b_len (QP.B (QE.P (q_ixN 0 qc_int)))))))
    (qss_cons (qs_set 4 nd (q_ix (QE.P (q_ixN 0 qc_int)) (QE.P (q_ixN 0 qc_int))))
    (qss_one (qs_set 3 nd (q_add (QE.P (q_mul qc_int (QE.P (q_b1 call_abs sc_abs T.b_abs (qw 4))))) (QE.P (q_ty1 call_int1 sc_int T.b_int (QP.B (QE.P (q_lt hu (qn 4) (QP.B qc_int))))))))))
    qss_nil)
    (qss_cons (qs_augS 0 op_iadd sr_iadd qc_int qc_int)
    (qss_cons (qs_if (qt_ge (qn 3) (QP.B (QE.P (q_mul qc_int (QE.P (q_pow qc_int qc_int))))))
    (qss_cons (qs_set 2 nd (q_mod (QE.P (q_ty1 call_int1 sc_int T.b_int (QP.B (QE.P (q_fdiv (qn 3) qc_int))))) (QE.P (q_shl qc_int qc_int))))
    (qss_cons (qs_put 0 (q_fdiv (qn 2) (qn 1)) qc_int)
    (qss_one (qs_ret (q_mod (QE.P (q_ty1 call_int1 sc_int T.b_int (qw 2))) (qn 1))))))
    qss_nil)
    (qss_cons (qs_put 0 (q_mod (QE.P (q_ty1 call_int1 sc_int T.b_int (QP.B (QE.P (q_add (QE.P (q_add (QE.P (q_add (QE.P (q_mul (QE.P (q_ixN 0 qc_int)) qc_int)) (QE.P (q_mul (QE.P (q_mod (QE.P (q_ty1 call_int1 sc_int T.b_int (qw 3))) qc_int)) qc_int)))) (QE.P (q_mul (QE.P (q_ixN 0 qc_int)) qc_int)))) qc_int))))) qc_int) qc_int)
    (qss_one (qs_ret (q_mod (QE.P (q_ty1 call_int1 sc_int T.b_int (QP.B (QE.P (q_fdiv (QE.P (q_ixN 0 qc_int)) qc_int))))) (qn 1)))))))))))
abbrev sm_law_pick : Stmt := topS 37
theorem scm_law_pick : FnScope ["_law_d", "_law_row"] ["_law_d", "_law_row"] (defScope sm_law_pick) := ⟨rfl, rfl, rfl, by decide +kernel, rfl, by decide +kernel, by decide +kernel⟩
theorem hm_law_pick {f : Addr} {fd : FuncData} (T : Bl mg) (F : Fun K "_law_pick" "_law_pick" sm_law_pick f fd) (hm : mg "_law_pick" = some (.ref f)) (hb : Binds K fd ["_law_d", "_law_row"] []) (H_law_draw : Has Pg w K mg base "_law_draw" 1 ["_law_d", "_law_many"] m_law_draw) : Has Pg w K mg base "_law_pick" 2 ["_law_d", "_law_row"] m_law_pick := by
  have nd := (scm_law_pick).nd
  refine ⟨⟨f, fd, fn_ok (k := 1) F scm_law_pick rfl rfl fun cdv A outer s H E hr => ?_, hm, F.kp, hb⟩⟩
  have hu : (A.deeper (envOfC "_law_pick" (defScope sm_law_pick) s.heap.objs.size f cdv)).units + 65 < cLine := hu_room hr
  exact ex_of (K := K) (m := bm_law_pick) (by unfold bm_law_pick; exact (qss_one (qs_ret (q_ixN 1 (QE.P (q_call H_law_draw hr (by omega) (qa_n 0 (qa_e (q_b1 (call_K rfl cr_lenZ) sc_len T.b_len (qw 1)) qa_nil))))))))
abbrev sm_law_pop : Stmt := topS 38
theorem scm_law_pop : FnScope ["_law_d", "_law_row"] ["_law_d", "_law_row"] (defScope sm_law_pop) := ⟨rfl, rfl, rfl, by decide +kernel, rfl, by decide +kernel, by decide +kernel⟩
theorem hm_law_pop {f : Addr} {fd : FuncData} (T : Bl mg) (F : Fun K "_law_pop" "_law_pop" sm_law_pop f fd) (hm : mg "_law_pop" = some (.ref f)) (hb : Binds K fd ["_law_d", "_law_row"] []) (H_law_draw : Has Pg w K mg base "_law_draw" 1 ["_law_d", "_law_many"] m_law_draw) : Has Pg w K mg base "_law_pop" 2 ["_law_d", "_law_row"] m_law_pop := by
  have nd := (scm_law_pop).nd
  refine ⟨⟨f, fd, fn_ok (k := 1) F scm_law_pop rfl rfl fun cdv A outer s H E hr => ?_, hm, F.kp, hb⟩⟩
  have hu : (A.deeper (envOfC "_law_pop" (defScope sm_law_pop) s.heap.objs.size f cdv)).units + 65 < cLine := hu_room hr
  exact ex_of (K := K) (m := bm_law_pop) (by unfold bm_law_pop; exact (qss_one (qs_ret (QP.E (QE.P (q_mu 1 PySem.F.slot_list_pop PySem.F.type_list_pop mt_popAt smu_popAt (ql_cons (q_call H_law_draw hr (by omega) (qa_n 0 (qa_e (q_b1 (call_K rfl cr_lenZ) sc_len T.b_len (qw 1)) qa_nil))) ql_nil)))))))
abbrev sm_law_rare : Stmt := topS 39
theorem scm_law_rare : FnScope ["_law_d", "_law_many"] ["_law_d", "_law_many"] (defScope sm_law_rare) := ⟨rfl, rfl, rfl, by decide +kernel, rfl, by decide +kernel, by decide +kernel⟩
theorem hm_law_rare {f : Addr} {fd : FuncData} (T : Bl mg) (F : Fun K "_law_rare" "_law_rare" sm_law_rare f fd) (hm : mg "_law_rare" = some (.ref f)) (hb : Binds K fd ["_law_d", "_law_many"] []) (H_law_draw : Has Pg w K mg base "_law_draw" 1 ["_law_d", "_law_many"] m_law_draw) : Has Pg w K mg base "_law_rare" 2 ["_law_d", "_law_many"] m_law_rare := by
  have nd := (scm_law_rare).nd
  refine ⟨⟨f, fd, fn_ok (k := 1) F scm_law_rare rfl rfl fun cdv A outer s H E hr => ?_, hm, F.kp, hb⟩⟩
  have hu : (A.deeper (envOfC "_law_rare" (defScope sm_law_rare) s.heap.objs.size f cdv)).units + 65 < cLine := hu_room hr
  exact ex_of (K := K) (m := bm_law_rare) (by unfold bm_law_rare; exact (qss_one (qs_ret (q_eq hu (QE.P (q_call H_law_draw hr (by omega) (qa_n 0 (qa_n 1 qa_nil)))) (QP.B (QE.P (q_fdiv (qn 1) qc_int)))))))
abbrev sm_law_shuffled : Stmt := topS 40
theorem scm_law_shuffled : FnScope ["_law_d", "_law_row", "_law_left", "_law_found", "_law_k"] ["_law_d", "_law_row"] (defScope sm_law_shuffled) := ⟨rfl, rfl, rfl, by decide +kernel, rfl, by decide +kernel, by decide +kernel⟩
theorem hm_law_shuffled {f : Addr} {fd : FuncData} (T : Bl mg) (F : Fun K "_law_shuffled" "_law_shuffled" sm_law_shuffled f fd) (hm : mg "_law_shuffled" = some (.ref f)) (hb : Binds K fd ["_law_d", "_law_row"] []) (H_law_draw : Has Pg w K mg base "_law_draw" 1 ["_law_d", "_law_many"] m_law_draw) : Has Pg w K mg base "_law_shuffled" 2 ["_law_d", "_law_row"] m_law_shuffled := by
  have nd := (scm_law_shuffled).nd
  refine ⟨⟨f, fd, fn_ok (k := 1) F scm_law_shuffled rfl rfl fun cdv A outer s H E hr => ?_, hm, F.kp, hb⟩⟩
  have hu : (A.deeper (envOfC "_law_shuffled" (defScope sm_law_shuffled) s.heap.objs.size f cdv)).units + 65 < cLine := hu_room hr
  exact ex_of (K := K) (m := bm_law_shuffled) (by unfold bm_law_shuffled; exact (qss_cons (qs_set 2 nd (q_ty1 (call_K rfl call_listZ) sc_listZ T.b_list (qw 1)))
    (qss_cons (qs_set 3 nd (q_lst ql_nil))
    (qss_cons (qs_for PassesOwn.never rfl (qi_rng1 T.b_range (QE.P (q_b1 (call_K rfl cr_lenZ) sc_len T.b_len (qw 2)))) (qg_n 4 nd)
    (qss_one (qs_expr (q_mu 3 PySem.F.slot_list_append PySem.F.type_list_append mt_append smu_app (ql_cons (QP.E (QE.P (q_mu 2 PySem.F.slot_list_pop PySem.F.type_list_pop mt_popAt smu_popAt (ql_cons (q_call H_law_draw hr (by omega) (qa_n 0 (qa_e (q_b1 (call_K rfl cr_lenZ) sc_len T.b_len (qw 2)) qa_nil))) ql_nil)))) ql_nil)))))
    (qss_one (qs_ret (QP.E (qn 3))))))))
abbrev sm_law_pool : Stmt := topS 41
theorem scm_law_pool : FnScope ["_law_text"] [] (defScope sm_law_pool) := ⟨rfl, rfl, rfl, by decide +kernel, rfl, by decide +kernel, by decide +kernel⟩
theorem hm_law_pool {f : Addr} {fd : FuncData} (T : Bl mg) (F : Fun K "_law_pool" "_law_pool" sm_law_pool f fd) (hm : mg "_law_pool" = some (.ref f)) (hb : Binds K fd [] [])  : Has Pg w K mg base "_law_pool" 1 [] m_law_pool := by
  have nd := (scm_law_pool).nd
  refine ⟨⟨f, fd, fn_ok (k := 0) F scm_law_pool rfl rfl fun cdv A outer s H E hr => ?_, hm, F.kp, hb⟩⟩
  have hu : (A.deeper (envOfC "_law_pool" (defScope sm_law_pool) s.heap.objs.size f cdv)).units + 65 < cLine := hu_room hr
  exact ex_of (K := K) (m := bm_law_pool) (by unfold bm_law_pool; exact (qss_cons (qs_set 0 nd (QP.E qc_str))
    (qss_cons (qs_set 0 nd (q_add (qn 0) qc_str))
    (qss_one (qs_ret (q_split (qn 0) qc_str))))))
abbrev sm_law_is_int : Stmt := topS 42
theorem scm_law_is_int : FnScope ["_law_thing"] ["_law_thing"] (defScope sm_law_is_int) := ⟨rfl, rfl, rfl, by decide +kernel, rfl, by decide +kernel, by decide +kernel⟩
theorem hm_law_is_int {f : Addr} {fd : FuncData} (T : Bl mg) (F : Fun K "_law_is_int" "_law_is_int" sm_law_is_int f fd) (hm : mg "_law_is_int" = some (.ref f)) (hb : Binds K fd ["_law_thing"] [])  : Has Pg w K mg base "_law_is_int" 1 ["_law_thing"] m_law_is_int := by
  have nd := (scm_law_is_int).nd
  refine ⟨⟨f, fd, fn_ok (k := 0) F scm_law_is_int rfl rfl fun cdv A outer s H E hr => ?_, hm, F.kp, hb⟩⟩
  have hu : (A.deeper (envOfC "_law_is_int" (defScope sm_law_is_int) s.heap.objs.size f cdv)).units + 65 < cLine := hu_room hr
  exact ex_of (K := K) (m := bm_law_is_int) (by unfold bm_law_is_int; exact (qss_one (qs_ret (q_andV (q_isi "int" T.b_isinstance T.b_int (qw 0)) (q_one (q_notV (q_isi "bool" T.b_isinstance T.b_bool (qw 0))))))))
abbrev sm_law_first : Stmt := topS 43
theorem scm_law_first : FnScope ["_law_schema_here", "_law_kind", "_law_row"] ["_law_schema_here", "_law_kind"] (defScope sm_law_first) := ⟨rfl, rfl, rfl, by decide +kernel, rfl, by decide +kernel, by decide +kernel⟩
theorem hm_law_first {f : Addr} {fd : FuncData} (T : Bl mg) (F : Fun K "_law_first" "_law_first" sm_law_first f fd) (hm : mg "_law_first" = some (.ref f)) (hb : Binds K fd ["_law_schema_here", "_law_kind"] [])  : Has Pg w K mg base "_law_first" 1 ["_law_schema_here", "_law_kind"] m_law_first := by
  have nd := (scm_law_first).nd
  refine ⟨⟨f, fd, fn_ok (k := 0) F scm_law_first rfl rfl fun cdv A outer s H E hr => ?_, hm, F.kp, hb⟩⟩
  have hu : (A.deeper (envOfC "_law_first" (defScope sm_law_first) s.heap.objs.size f cdv)).units + 65 < cLine := hu_room hr
  exact ex_of (K := K) (m := bm_law_first) (by unfold bm_law_first; exact (qss_one (qs_ret (q_b1 (call_K rfl (cr_sum rfl)) sc_sum T.b_sum (QP.B (QE.P (q_comp (cs := _) [("_law_row", 2)] nd rfl (qi_seq (q_sl (QE.P (q_ixN 0 qc_int)) qo_none (qo_some (qn 1)))) (blkOk_by (N := ["_law_schema_here", "_law_kind", "_law_row"]) (sc := (defScope sm_law_first)) (by decide +kernel)) (fun _ _ _ _ _ => (qg_n 2 nd)) (fun _ _ _ _ _ => qts_nil) (fun _ _ _ _ _ => (q_ixN 2 qc_int)))))))))
abbrev sm_law_nodes : Stmt := topS 44
theorem scm_law_nodes : FnScope ["_law_schema_here", "_law_kind", "_law_first_here", "_law_k"] ["_law_schema_here", "_law_kind"] (defScope sm_law_nodes) := ⟨rfl, rfl, rfl, by decide +kernel, rfl, by decide +kernel, by decide +kernel⟩
theorem hm_law_nodes {f : Addr} {fd : FuncData} (T : Bl mg) (F : Fun K "_law_nodes" "_law_nodes" sm_law_nodes f fd) (hm : mg "_law_nodes" = some (.ref f)) (hb : Binds K fd ["_law_schema_here", "_law_kind"] []) (H_law_first : Has Pg w K mg base "_law_first" 1 ["_law_schema_here", "_law_kind"] m_law_first) : Has Pg w K mg base "_law_nodes" 2 ["_law_schema_here", "_law_kind"] m_law_nodes := by
  have nd := (scm_law_nodes).nd
  refine ⟨⟨f, fd, fn_ok (k := 1) F scm_law_nodes rfl rfl fun cdv A outer s H E hr => ?_, hm, F.kp, hb⟩⟩
  have hu : (A.deeper (envOfC "_law_nodes" (defScope sm_law_nodes) s.heap.objs.size f cdv)).units + 65 < cLine := hu_room hr
  exact ex_of (K := K) (m := bm_law_nodes) (by unfold bm_law_nodes; exact (qss_cons (qs_set 2 nd (q_call H_law_first hr (by omega) (qa_n 0 (qa_n 1 qa_nil))))
    (qss_one (qs_ret (QP.E (QE.P (q_comp (cs := _) [("_law_k", 3)] nd rfl (qi_rng1 T.b_range (QE.P (q_ix (QE.P (q_ix (QE.P (q_ixN 0 qc_int)) (qn 1))) qc_int))) (blkOk_by (N := ["_law_schema_here", "_law_kind", "_law_first_here", "_law_k"]) (sc := (defScope sm_law_nodes)) (by decide +kernel)) (fun _ _ _ _ _ => (qg_n 3 nd)) (fun _ _ _ _ _ => qts_nil) (fun _ _ _ _ _ => (QP.E (QE.P (q_add (qn 2) (qn 3))))))))))))
abbrev sm_law_let : Stmt := topS 45
theorem scm_law_let : FnScope ["_law_schema_here", "_law_label", "_law_row", "_law_found", "_law_source", "_law_target"] ["_law_schema_here", "_law_label"] (defScope sm_law_let) := ⟨rfl, rfl, rfl, by decide +kernel, rfl, by decide +kernel, by decide +kernel⟩
theorem hm_law_let {f : Addr} {fd : FuncData} (T : Bl mg) (F : Fun K "_law_let" "_law_let" sm_law_let f fd) (hm : mg "_law_let" = some (.ref f)) (hb : Binds K fd ["_law_schema_here", "_law_label"] []) (H_law_nodes : Has Pg w K mg base "_law_nodes" 2 ["_law_schema_here", "_law_kind"] m_law_nodes) : Has Pg w K mg base "_law_let" 3 ["_law_schema_here", "_law_label"] m_law_let := by
  have nd := (scm_law_let).nd
  refine ⟨⟨f, fd, fn_ok (k := 2) F scm_law_let rfl rfl fun cdv A outer s H E hr => ?_, hm, F.kp, hb⟩⟩
  have hu : (A.deeper (envOfC "_law_let" (defScope sm_law_let) s.heap.objs.size f cdv)).units + 65 < cLine := hu_room hr
  exact ex_of (K := K) (m := bm_law_let) (by unfold bm_law_let; exact (qss_cons (qs_set 2 nd (q_ix (QE.P (q_ixN 0 qc_int)) (qn 1)))
    (qss_cons (qs_set 3 nd (q_lst ql_nil))
    (qss_cons (qs_for PassesOwn.never rfl (qi_seq (q_call H_law_nodes hr (by omega) (qa_n 0 (qa_e (q_ixN 2 qc_int) qa_nil)))) (qg_n 4 nd)
    (qss_one (qs_for PassesOwn.never rfl (qi_seq (q_call H_law_nodes hr (by omega) (qa_n 0 (qa_e (q_ixN 2 qc_int) qa_nil)))) (qg_n 5 nd)
    (qss_one (qs_if (QW.T (qw_or (qt_ne hu (QE.P (q_ixN 2 qc_int)) (QP.B qc_str)) (qw_or1 (qt_eq hu (qn 4) (qw 5)))))
    (qss_one (qs_expr (q_mu 3 PySem.F.slot_list_append PySem.F.type_list_append mt_append smu_app (ql_cons (q_tup (ql_cons (QP.E (qn 4)) (ql_cons (QP.E (qn 1)) (ql_cons (QP.E (qn 5)) ql_nil)))) ql_nil))))
    qss_nil)))))
    (qss_one (qs_ret (QP.E (qn 3))))))))
abbrev sm_law_schema : Stmt := topS 46
theorem scm_law_schema : FnScope ["_law_d", "_law_kinds", "_law_labels", "_law_most", "_law_names", "_law_rows", "_law_k", "_law_told", "_law_source", "_law_target", "_law_way", "_law_rule", "_law_price"] ["_law_d", "_law_kinds", "_law_labels", "_law_most"] (defScope sm_law_schema) := ⟨rfl, rfl, rfl, by decide +kernel, rfl, by decide +kernel, by decide +kernel⟩
theorem hm_law_schema {f : Addr} {fd : FuncData} (T : Bl mg) (F : Fun K "_law_schema" "_law_schema" sm_law_schema f fd) (hm : mg "_law_schema" = some (.ref f)) (hb : Binds K fd ["_law_d", "_law_kinds", "_law_labels", "_law_most"] []) (H_law_draw : Has Pg w K mg base "_law_draw" 1 ["_law_d", "_law_many"] m_law_draw) (H_law_pool : Has Pg w K mg base "_law_pool" 1 [] m_law_pool) (H_law_pop : Has Pg w K mg base "_law_pop" 2 ["_law_d", "_law_row"] m_law_pop) (H_law_rare : Has Pg w K mg base "_law_rare" 2 ["_law_d", "_law_many"] m_law_rare) : Has Pg w K mg base "_law_schema" 3 ["_law_d", "_law_kinds", "_law_labels", "_law_most"] m_law_schema := by
  have nd := (scm_law_schema).nd
  refine ⟨⟨f, fd, fn_ok (k := 2) F scm_law_schema rfl rfl fun cdv A outer s H E hr => ?_, hm, F.kp, hb⟩⟩
  have hu : (A.deeper (envOfC "_law_schema" (defScope sm_law_schema) s.heap.objs.size f cdv)).units + 65 < cLine := hu_room hr
  exact ex_of (K := K) (m := bm_law_schema) (by unfold bm_law_schema; exact (qss_cons (qs_set 4 nd (q_call0 H_law_pool hr (by decide)))
    (qss_cons (qs_set 5 nd (q_lst ql_nil))
    (qss_cons (qs_for PassesOwn.never rfl (qi_rng1 T.b_range (qn 1)) (qg_n 6 nd)
    (qss_one (qs_expr (q_mu 5 PySem.F.slot_list_append PySem.F.type_list_append mt_append smu_app (ql_cons (QP.E (QE.P (q_tup (ql_cons (q_call H_law_pop hr (by omega) (qa_n 0 (qa_n 4 qa_nil))) (ql_cons (QP.E (QE.P (q_add qc_int (QE.P (q_call H_law_draw hr (by omega) (qa_n 0 (qa_n 3 qa_nil))))))) ql_nil))))) ql_nil)))))
    (qss_cons (qs_set 7 nd (q_lst ql_nil))
    (qss_cons (qs_for PassesOwn.never rfl (qi_rng1 T.b_range (qn 2)) (qg_n 6 nd)
    (qss_cons (qs_set 8 nd (q_call H_law_draw hr (by omega) (qa_n 0 (qa_n 1 qa_nil))))
    (qss_cons (qs_set 9 nd (q_call H_law_draw hr (by omega) (qa_n 0 (qa_n 1 qa_nil))))
    (qss_cons (qs_set 10 nd (q_call H_law_draw hr (by omega) (qa_n 0 (qa_e (QP.E qc_int) qa_nil))))
    (qss_cons (qs_set 11 nd (QP.E qc_str))
    (qss_cons (qs_if (qt_in hu (qn 10) (QP.B (QE.P (q_tup (ql_cons (QP.E qc_int) (ql_cons (QP.E qc_int) ql_nil))))))
    (qss_one (qs_set 11 nd (QP.E qc_str)))
    qss_nil)
    (qss_cons (qs_if (qt_eq hu (qn 10) (QP.B qc_int))
    (qss_cons (qs_set 11 nd (QP.E qc_str))
    (qss_one (qs_set 9 nd (QP.E (qn 8)))))
    qss_nil)
    (qss_cons (qs_set 12 nd (q_add qc_int (QE.P (q_call H_law_draw hr (by omega) (qa_n 0 (qa_e (QP.E qc_int) qa_nil))))))
    (qss_cons (qs_if (qt_eq hu (QE.P (q_call H_law_draw hr (by omega) (qa_n 0 (qa_e (QP.E qc_int) qa_nil)))) (QP.B qc_int))
    (qss_one (qs_set 12 nd (QP.E qc_int)))
    qss_nil)
    (qss_cons (qs_if (QE.T (q_call H_law_rare hr (by omega) (qa_n 0 (qa_e (QP.E qc_int) qa_nil))))
    (qss_one (qs_set 12 nd (QP.E qc_int)))
    qss_nil)
    (qss_one (qs_expr (q_mu 7 PySem.F.slot_list_append PySem.F.type_list_append mt_append smu_app (ql_cons (q_tup (ql_cons (q_call H_law_pop hr (by omega) (qa_n 0 (qa_n 4 qa_nil))) (ql_cons (QP.E (qn 8)) (ql_cons (QP.E (qn 9)) (ql_cons (QP.E (qn 12)) (ql_cons (QP.E (qn 11)) ql_nil)))))) ql_nil))))))))))))))
    (qss_one (qs_ret (q_tup (ql_cons (QP.E qc_str) (ql_cons (q_ty1 (call_K rfl call_tupZ) sc_tupZ T.b_tuple (qw 5)) (ql_cons (q_ty1 (call_K rfl call_tupZ) sc_tupZ T.b_tuple (qw 7)) ql_nil))))))))))))
abbrev sm_law_held_by : Stmt := topS 47
theorem scm_law_held_by : FnScope ["_law_schema_here", "_law_graph_here", "_law_edge", "_law_other"] ["_law_schema_here", "_law_graph_here", "_law_edge"] (defScope sm_law_held_by) := ⟨rfl, rfl, rfl, by decide +kernel, rfl, by decide +kernel, by decide +kernel⟩
theorem hm_law_held_by {f : Addr} {fd : FuncData} (T : Bl mg) (F : Fun K "_law_held_by" "_law_held_by" sm_law_held_by f fd) (hm : mg "_law_held_by" = some (.ref f)) (hb : Binds K fd ["_law_schema_here", "_law_graph_here", "_law_edge"] [])  : Has Pg w K mg base "_law_held_by" 1 ["_law_schema_here", "_law_graph_here", "_law_edge"] m_law_held_by := by
  have nd := (scm_law_held_by).nd
  refine ⟨⟨f, fd, fn_ok (k := 0) F scm_law_held_by rfl rfl fun cdv A outer s H E hr => ?_, hm, F.kp, hb⟩⟩
  have hu : (A.deeper (envOfC "_law_held_by" (defScope sm_law_held_by) s.heap.objs.size f cdv)).units + 65 < cLine := hu_room hr
  exact ex_of (K := K) (m := bm_law_held_by) (by unfold bm_law_held_by; exact (qss_cons (qs_if (qt_eq hu (QE.P (q_ix (QE.P (q_ix (QE.P (q_ixN 0 qc_int)) (QE.P (q_ixN 2 qc_int)))) qc_int)) (QP.B qc_str))
    (qss_one (qs_forN 1 PassesOwn.never rfl (qn 1) (qg_n 3 nd)
    (qss_one (qs_if (QW.T (qw_and (qt_eq hu (QE.P (q_ixN 3 qc_int)) (QP.B (QE.P (q_ixN 2 qc_int)))) (qw_and (qt_eq hu (QE.P (q_ixN 3 qc_int)) (QP.B (QE.P (q_ixN 2 qc_int)))) (qw_and1 (qt_ne hu (qn 3) (qw 2))))))
    (qss_one (qs_ret (QP.E (qn 3))))
    qss_nil))))
    qss_nil)
    (qss_one (qs_ret (QP.E qc_non)))))
abbrev sm_law_graph : Stmt := topS 48
theorem scm_law_graph : FnScope ["_law_d", "_law_schema_here", "_law_most", "_law_found", "_law_k", "_law_edges", "_law_edge"] ["_law_d", "_law_schema_here", "_law_most"] (defScope sm_law_graph) := ⟨rfl, rfl, rfl, by decide +kernel, rfl, by decide +kernel, by decide +kernel⟩
theorem hm_law_graph {f : Addr} {fd : FuncData} (T : Bl mg) (F : Fun K "_law_graph" "_law_graph" sm_law_graph f fd) (hm : mg "_law_graph" = some (.ref f)) (hb : Binds K fd ["_law_d", "_law_schema_here", "_law_most"] []) (H_law_draw : Has Pg w K mg base "_law_draw" 1 ["_law_d", "_law_many"] m_law_draw) (H_law_held_by : Has Pg w K mg base "_law_held_by" 1 ["_law_schema_here", "_law_graph_here", "_law_edge"] m_law_held_by) (H_law_let : Has Pg w K mg base "_law_let" 3 ["_law_schema_here", "_law_label"] m_law_let) (H_law_pick : Has Pg w K mg base "_law_pick" 2 ["_law_d", "_law_row"] m_law_pick) : Has Pg w K mg base "_law_graph" 4 ["_law_d", "_law_schema_here", "_law_most"] m_law_graph := by
  have nd := (scm_law_graph).nd
  refine ⟨⟨f, fd, fn_ok (k := 3) F scm_law_graph rfl rfl fun cdv A outer s H E hr => ?_, hm, F.kp, hb⟩⟩
  have hu : (A.deeper (envOfC "_law_graph" (defScope sm_law_graph) s.heap.objs.size f cdv)).units + 65 < cLine := hu_room hr
  exact ex_of (K := K) (m := bm_law_graph) (by unfold bm_law_graph; exact (qss_cons (qs_set 3 nd (q_lst ql_nil))
    (qss_cons (qs_for PassesOwn.never rfl (qi_rng1 T.b_range (qn 2)) (qg_n 4 nd)
    (qss_cons (qs_set 5 nd (q_call H_law_let hr (by omega) (qa_n 1 (qa_e (q_call H_law_draw hr (by omega) (qa_n 0 (qa_e (q_b1 (call_K rfl cr_lenZ) sc_len T.b_len (QP.B (QE.P (q_ixN 1 qc_int)))) qa_nil))) qa_nil))))
    (qss_one (qs_if (qt_gt (QE.P (q_b1 (call_K rfl cr_lenZ) sc_len T.b_len (qw 5))) (QP.B qc_int))
    (qss_cons (qs_set 6 nd (q_call H_law_pick hr (by omega) (qa_n 0 (qa_n 5 qa_nil))))
    (qss_one (qs_if (QW.T (qw_and (qt_notIn hu (qn 6) (qw 3)) (qw_and1 (qt_isN (QP.B (QE.P (q_call H_law_held_by hr (by omega) (qa_n 1 (qa_n 3 (qa_n 6 qa_nil))))))))))
    (qss_one (qs_expr (q_mu 3 PySem.F.slot_list_append PySem.F.type_list_append mt_append smu_app (ql_cons (QP.E (qn 6)) ql_nil))))
    qss_nil)))
    qss_nil))))
    (qss_one (qs_ret (q_ty1 (call_K rfl call_tupZ) sc_tupZ T.b_tuple (QP.B (QE.P (q_b1 (call_K rfl cr_sortZ) sc_sorted T.b_sorted (qw 3))))))))))
abbrev sm_law_step : Stmt := topS 49
theorem scm_law_step : FnScope ["_law_d", "_law_schema_here", "_law_label", "_law_back_here"] ["_law_d", "_law_schema_here", "_law_label"] (defScope sm_law_step) := ⟨rfl, rfl, rfl, by decide +kernel, rfl, by decide +kernel, by decide +kernel⟩
theorem hm_law_step {f : Addr} {fd : FuncData} (T : Bl mg) (F : Fun K "_law_step" "_law_step" sm_law_step f fd) (hm : mg "_law_step" = some (.ref f)) (hb : Binds K fd ["_law_d", "_law_schema_here", "_law_label"] []) (H_law_draw : Has Pg w K mg base "_law_draw" 1 ["_law_d", "_law_many"] m_law_draw) : Has Pg w K mg base "_law_step" 2 ["_law_d", "_law_schema_here", "_law_label"] m_law_step := by
  have nd := (scm_law_step).nd
  refine ⟨⟨f, fd, fn_ok (k := 1) F scm_law_step rfl rfl fun cdv A outer s H E hr => ?_, hm, F.kp, hb⟩⟩
  have hu : (A.deeper (envOfC "_law_step" (defScope sm_law_step) s.heap.objs.size f cdv)).units + 65 < cLine := hu_room hr
  exact ex_of (K := K) (m := bm_law_step) (by unfold bm_law_step; exact (qss_cons (qs_set 3 nd (QP.E qc_int))
    (qss_cons (qs_if (QW.T (qw_and (qt_ne hu (QE.P (q_ix (QE.P (q_ix (QE.P (q_ixN 1 qc_int)) (qn 2))) qc_int)) (QP.B qc_str)) (qw_and1 (qt_eq hu (QE.P (q_call H_law_draw hr (by omega) (qa_n 0 (qa_e (QP.E qc_int) qa_nil)))) (QP.B qc_int)))))
    (qss_one (qs_set 3 nd (QP.E qc_int)))
    qss_nil)
    (qss_one (qs_ret (q_tup (ql_cons (QP.E qc_str) (ql_cons (QP.E (qn 2)) (ql_cons (QP.E (qn 3)) ql_nil)))))))))
abbrev sm_law_expression : Stmt := topS 50
theorem scm_law_expression : FnScope ["_law_d", "_law_schema_here", "_law_labels", "_law_items", "_law_wraps", "_law_turn", "_law_at", "_law_way", "_law_word", "_law_label"] ["_law_d", "_law_schema_here", "_law_labels"] (defScope sm_law_expression) := ⟨rfl, rfl, rfl, by decide +kernel, rfl, by decide +kernel, by decide +kernel⟩
theorem hm_law_expression {f : Addr} {fd : FuncData} (T : Bl mg) (F : Fun K "_law_expression" "_law_expression" sm_law_expression f fd) (hm : mg "_law_expression" = some (.ref f)) (hb : Binds K fd ["_law_d", "_law_schema_here", "_law_labels"] []) (H_law_draw : Has Pg w K mg base "_law_draw" 1 ["_law_d", "_law_many"] m_law_draw) (H_law_pick : Has Pg w K mg base "_law_pick" 2 ["_law_d", "_law_row"] m_law_pick) (H_law_step : Has Pg w K mg base "_law_step" 2 ["_law_d", "_law_schema_here", "_law_label"] m_law_step) : Has Pg w K mg base "_law_expression" 3 ["_law_d", "_law_schema_here", "_law_labels"] m_law_expression := by
  have nd := (scm_law_expression).nd
  refine ⟨⟨f, fd, fn_ok (k := 2) F scm_law_expression rfl rfl fun cdv A outer s H E hr => ?_, hm, F.kp, hb⟩⟩
  have hu : (A.deeper (envOfC "_law_expression" (defScope sm_law_expression) s.heap.objs.size f cdv)).units + 65 < cLine := hu_room hr
  exact ex_of (K := K) (m := bm_law_expression) (by unfold bm_law_expression; exact (qss_cons (qs_setLc (cs := _) 3 [("_law_label", 9)] nd rfl (sw_true rfl rfl rfl (by decide +kernel)) (qi_seq (QP.E (qn 2))) (blkOk_by (N := ["_law_d", "_law_schema_here", "_law_labels", "_law_items", "_law_wraps", "_law_turn", "_law_at", "_law_way", "_law_word", "_law_label"]) (sc := (defScope sm_law_expression)) (by decide +kernel)) (fun _ _ _ _ _ => (qg_n 9 nd)) (fun _ _ _ _ _ => qts_nil) (fun _ _ _ _ _ => (q_call H_law_step hr (by omega) (qa_n 0 (qa_n 1 (qa_n 9 qa_nil))))))
    (qss_cons (qs_if (QW.T (qw_or (qt_eq hu (QE.P (q_b1 (call_K rfl cr_lenZ) sc_len T.b_len (qw 3))) (QP.B qc_int)) (qw_or1 (qt_eq hu (QE.P (q_call H_law_draw hr (by omega) (qa_n 0 (qa_e (QP.E qc_int) qa_nil)))) (QP.B qc_int)))))
    (qss_one (qs_expr (q_mu 3 PySem.F.slot_list_insert PySem.F.type_list_insert mt_insert smu_insert (ql_cons (q_call H_law_draw hr (by omega) (qa_n 0 (qa_e (q_add (QE.P (q_b1 (call_K rfl cr_lenZ) sc_len T.b_len (qw 3))) qc_int) qa_nil))) (ql_cons (q_tup (ql_cons (QP.E qc_str) ql_nil)) ql_nil)))))
    qss_nil)
    (qss_cons (qs_set 4 nd (QP.E qc_int))
    (qss_cons (qs_for PassesOwn.never rfl (qi_rng1 T.b_range (QE.P (q_add (QE.P (q_mul qc_int (QE.P (q_b1 (call_K rfl cr_lenZ) sc_len T.b_len (qw 3))))) qc_int))) (qg_n 5 nd)
    (qss_cons (qs_set 6 nd (q_call H_law_draw hr (by omega) (qa_n 0 (qa_e (q_b1 (call_K rfl cr_lenZ) sc_len T.b_len (qw 3)) qa_nil))))
    (qss_cons (qs_set 7 nd (q_call H_law_draw hr (by omega) (qa_n 0 (qa_e (QP.E qc_int) qa_nil))))
    (qss_cons (qs_if (QW.T (qw_and (qt_in hu (qn 7) (QP.B (QE.P (q_tup (ql_cons (QP.E qc_int) (ql_cons (QP.E qc_int) (ql_cons (QP.E qc_int) ql_nil))))))) (qw_and1 (qt_lt hu (qn 4) (QP.B qc_int)))))
    (qss_cons (qs_aug 4 nd op_iadd sr_iadd qc_int)
    (qss_one (qs_put 3 (q_tup (ql_cons (q_ix (QE.P (q_lst (ql_cons (QP.E qc_str) (ql_cons (QP.E qc_str) (ql_cons (QP.E qc_str) ql_nil))))) (QE.P (q_call H_law_draw hr (by omega) (qa_n 0 (qa_e (QP.E qc_int) qa_nil))))) (ql_cons (q_ixN 3 (qn 6)) ql_nil))) (qn 6))))
    (qss_one (qs_if (qt_gt (QE.P (q_b1 (call_K rfl cr_lenZ) sc_len T.b_len (qw 3))) (QP.B qc_int))
    (qss_cons (qs_set 6 nd (q_call H_law_draw hr (by omega) (qa_n 0 (qa_e (q_sub (QE.P (q_b1 (call_K rfl cr_lenZ) sc_len T.b_len (qw 3))) qc_int) qa_nil))))
    (qss_cons (qs_set 8 nd (q_call H_law_pick hr (by omega) (qa_n 0 (qa_e (q_lst (ql_cons (QP.E qc_str) (ql_cons (QP.E qc_str) (ql_cons (QP.E qc_str) ql_nil)))) qa_nil))))
    (qss_one (qs_setSl 3 (q_lst (ql_cons (q_tup (ql_cons (QP.E (qn 8)) (ql_cons (q_ixN 3 (qn 6)) (ql_cons (q_ixN 3 (QE.P (q_add (qn 6) qc_int))) ql_nil)))) ql_nil)) (qo_some (qn 6)) (qo_some (QE.P (q_add (qn 6) qc_int)))))))
    qss_nil)))
    (qss_one (qs_if (QW.T (qw_and (qt_eq hu (QE.P (q_b1 (call_K rfl cr_lenZ) sc_len T.b_len (qw 3))) (QP.B qc_int)) (qw_and1 (qt_gt (QE.P (q_call H_law_draw hr (by omega) (qa_n 0 (qa_e (QP.E qc_int) qa_nil)))) (QP.B qc_int)))))
    (qss_one qs_brk)
    qss_nil))))))
    (qss_cons (qs_while fuel PassesOwn.never (qt_gt (QE.P (q_b1 (call_K rfl cr_lenZ) sc_len T.b_len (qw 3))) (QP.B qc_int))
    (qss_one (qs_setSl 3 (q_lst (ql_cons (q_tup (ql_cons (QP.E qc_str) (ql_cons (q_ixN 3 qc_int) (ql_cons (q_ixN 3 qc_int) ql_nil)))) ql_nil)) (qo_some qc_int) (qo_some qc_int))))
    (qss_one (qs_ret (q_ixN 3 qc_int)))))))))
abbrev sm_law_letters : Stmt := topS 51
theorem scm_law_letters : FnScope ["_law_expression_here", "_law_found", "_law_part"] ["_law_expression_here"] (defScope sm_law_letters) := ⟨rfl, rfl, rfl, by decide +kernel, rfl, by decide +kernel, by decide +kernel⟩
theorem hm_law_letters {f : Addr} {fd : FuncData} (T : Bl mg) (F : Fun K "_law_letters" "_law_letters" sm_law_letters f fd) (hm : mg "_law_letters" = some (.ref f)) (hb : Binds K fd ["_law_expression_here"] [])  : ∀ n : Nat, Has Pg w K mg base "_law_letters" (0 + n) ["_law_expression_here"] (m_law_letters n) := by
  intro n
  induction n with
  | zero => exact has_zero F hm hb rfl
  | succ n ih =>
    have nd := (scm_law_letters).nd
    refine ⟨⟨f, fd, fn_ok (k := 0 + n) F scm_law_letters rfl rfl fun cdv A outer s H E hr => ?_, hm, F.kp, hb⟩⟩
    have hu : (A.deeper (envOfC "_law_letters" (defScope sm_law_letters) s.heap.objs.size f cdv)).units + 65 < cLine := hu_room hr
    have H_law_letters := ih
    exact ex_of (K := K) (m := bm_law_letters (m_law_letters n)) (by unfold bm_law_letters; exact (qss_cons (qs_if (qt_eq hu (QE.P (q_ixN 0 qc_int)) (QP.B qc_str))
    (qss_one (qs_ret (QP.E (QE.P (q_lst ql_nil)))))
    qss_nil)
    (qss_cons (qs_if (qt_eq hu (QE.P (q_ixN 0 qc_int)) (QP.B qc_str))
    (qss_one (qs_ret (QP.E (QE.P (q_lst (ql_cons (q_tup (ql_cons (q_ixN 0 qc_int) (ql_cons (q_ixN 0 qc_int) ql_nil))) ql_nil))))))
    qss_nil)
    (qss_cons (qs_set 1 nd (q_lst ql_nil))
    (qss_cons (qs_for PassesOwn.never rfl (qi_seq (q_slN 0 (qo_some qc_int) qo_none)) (qg_n 2 nd)
    (qss_one (qs_set 1 nd (q_add (qn 1) (QE.P (q_call H_law_letters hr (by omega) (qa_n 2 qa_nil)))))))
    (qss_one (qs_ret (QP.E (qn 1)))))))))
abbrev sm_law_pairs : Stmt := topS 53
theorem scm_law_pairs : FnScope ["_law_lasts", "_law_firsts", "_law_found", "_law_last", "_law_first_here"] ["_law_lasts", "_law_firsts"] (defScope sm_law_pairs) := ⟨rfl, rfl, rfl, by decide +kernel, rfl, by decide +kernel, by decide +kernel⟩
theorem hm_law_pairs {f : Addr} {fd : FuncData} (T : Bl mg) (F : Fun K "_law_pairs" "_law_pairs" sm_law_pairs f fd) (hm : mg "_law_pairs" = some (.ref f)) (hb : Binds K fd ["_law_lasts", "_law_firsts"] [])  : Has Pg w K mg base "_law_pairs" 1 ["_law_lasts", "_law_firsts"] m_law_pairs := by
  have nd := (scm_law_pairs).nd
  refine ⟨⟨f, fd, fn_ok (k := 0) F scm_law_pairs rfl rfl fun cdv A outer s H E hr => ?_, hm, F.kp, hb⟩⟩
  have hu : (A.deeper (envOfC "_law_pairs" (defScope sm_law_pairs) s.heap.objs.size f cdv)).units + 65 < cLine := hu_room hr
  exact ex_of (K := K) (m := bm_law_pairs) (by unfold bm_law_pairs; exact (qss_cons (qs_set 2 nd (q_lst ql_nil))
    (qss_cons (qs_forN 0 PassesOwn.never rfl (qn 0) (qg_n 3 nd)
    (qss_one (qs_set 2 nd (q_add (qn 2) (QE.P (q_comp (cs := _) [("_law_first_here", 4)] nd rfl (qi_seq (QP.E (qn 1))) (blkOk_by (N := ["_law_lasts", "_law_firsts", "_law_found", "_law_last", "_law_first_here"]) (sc := (defScope sm_law_pairs)) (by decide +kernel)) (fun _ _ _ _ _ => (qg_n 4 nd)) (fun _ _ _ _ _ => qts_nil) (fun _ _ _ _ _ => (q_tup (ql_cons (QP.E (qn 3)) (ql_cons (QP.E (qn 4)) ql_nil))))))))))
    (qss_one (qs_ret (QP.E (qn 2)))))))
abbrev sm_law_facts : Stmt := topS 52
theorem scm_law_facts : FnScope ["_law_expression_here", "_law_word", "_law_one", "_law_two", "_law_firsts", "_law_lasts"] ["_law_expression_here"] (defScope sm_law_facts) := ⟨rfl, rfl, rfl, by decide +kernel, rfl, by decide +kernel, by decide +kernel⟩
theorem hm_law_facts {f : Addr} {fd : FuncData} (T : Bl mg) (F : Fun K "_law_facts" "_law_facts" sm_law_facts f fd) (hm : mg "_law_facts" = some (.ref f)) (hb : Binds K fd ["_law_expression_here"] []) (H_law_pairs : Has Pg w K mg base "_law_pairs" 1 ["_law_lasts", "_law_firsts"] m_law_pairs) : ∀ n : Nat, Has Pg w K mg base "_law_facts" (1 + n) ["_law_expression_here"] (m_law_facts n) := by
  intro n
  induction n with
  | zero => exact has_zero F hm hb rfl
  | succ n ih =>
    have nd := (scm_law_facts).nd
    refine ⟨⟨f, fd, fn_ok (k := 1 + n) F scm_law_facts rfl rfl fun cdv A outer s H E hr => ?_, hm, F.kp, hb⟩⟩
    have hu : (A.deeper (envOfC "_law_facts" (defScope sm_law_facts) s.heap.objs.size f cdv)).units + 65 < cLine := hu_room hr
    have H_law_facts := ih
    exact ex_of (K := K) (m := bm_law_facts (m_law_facts n)) (by unfold bm_law_facts; exact (qss_cons (qs_set 1 nd (q_ixN 0 qc_int))
    (qss_cons (qs_if (qt_eq hu (qn 1) (QP.B qc_str))
    (qss_one (qs_ret (QP.E (QE.P (q_lst (ql_cons (QP.E qc_bl) (ql_cons (QP.E (QE.P (q_lst ql_nil))) (ql_cons (QP.E (QE.P (q_lst ql_nil))) (ql_cons (QP.E (QE.P (q_lst ql_nil))) ql_nil)))))))))
    qss_nil)
    (qss_cons (qs_if (qt_eq hu (qn 1) (QP.B qc_str))
    (qss_one (qs_ret (QP.E (QE.P (q_lst (ql_cons (QP.E qc_bl) (ql_cons (QP.E (QE.P (q_lst (ql_cons (q_ixN 0 qc_int) ql_nil)))) (ql_cons (QP.E (QE.P (q_lst ql_nil))) (ql_cons (QP.E (QE.P (q_lst (ql_cons (q_ixN 0 qc_int) ql_nil)))) ql_nil)))))))))
    qss_nil)
    (qss_cons (qs_set 2 nd (q_call H_law_facts hr (by omega) (qa_e (q_ixN 0 qc_int) qa_nil)))
    (qss_cons (qs_if (qt_eq hu (qn 1) (QP.B qc_str))
    (qss_one (qs_ret (QP.E (QE.P (q_lst (ql_cons (QP.E qc_bl) (ql_cons (q_ixN 2 qc_int) (ql_cons (q_ixN 2 qc_int) (ql_cons (q_ixN 2 qc_int) ql_nil)))))))))
    qss_nil)
    (qss_cons (qs_if (qt_in hu (qn 1) (QP.B (QE.P (q_tup (ql_cons (QP.E qc_str) (ql_cons (QP.E qc_str) ql_nil))))))
    (qss_one (qs_ret (QP.E (QE.P (q_lst (ql_cons (q_orV (q_ixN 2 qc_int) (q_one (q_eq hu (qn 1) (QP.B qc_str)))) (ql_cons (q_ixN 2 qc_int) (ql_cons (QP.E (QE.P (q_add (QE.P (q_ixN 2 qc_int)) (QE.P (q_call H_law_pairs hr (by omega) (qa_e (q_ixN 2 qc_int) (qa_e (q_ixN 2 qc_int) qa_nil))))))) (ql_cons (q_ixN 2 qc_int) ql_nil)))))))))
    qss_nil)
    (qss_cons (qs_set 3 nd (q_call H_law_facts hr (by omega) (qa_e (q_ixN 0 qc_int) qa_nil)))
    (qss_cons (qs_if (qt_eq hu (qn 1) (QP.B qc_str))
    (qss_one (qs_ret (QP.E (QE.P (q_lst (ql_cons (q_orV (q_ixN 2 qc_int) (q_one (q_ixN 3 qc_int))) (ql_cons (QP.E (QE.P (q_add (QE.P (q_ixN 2 qc_int)) (QE.P (q_ixN 3 qc_int))))) (ql_cons (QP.E (QE.P (q_add (QE.P (q_ixN 2 qc_int)) (QE.P (q_ixN 3 qc_int))))) (ql_cons (QP.E (QE.P (q_add (QE.P (q_ixN 2 qc_int)) (QE.P (q_ixN 3 qc_int))))) ql_nil)))))))))
    qss_nil)
    (qss_cons (qs_set 4 nd (q_ty1 (call_K rfl call_listZ) sc_listZ T.b_list (QP.B (QE.P (q_ixN 2 qc_int)))))
    (qss_cons (qs_set 5 nd (q_ty1 (call_K rfl call_listZ) sc_listZ T.b_list (QP.B (QE.P (q_ixN 3 qc_int)))))
    (qss_cons (qs_if (QE.T (q_ixN 2 qc_int))
    (qss_one (qs_set 4 nd (q_add (qn 4) (QE.P (q_ixN 3 qc_int)))))
    qss_nil)
    (qss_cons (qs_if (QE.T (q_ixN 3 qc_int))
    (qss_one (qs_set 5 nd (q_add (qn 5) (QE.P (q_ixN 2 qc_int)))))
    qss_nil)
    (qss_one (qs_ret (QP.E (QE.P (q_lst (ql_cons (q_andV (q_ixN 2 qc_int) (q_one (q_ixN 3 qc_int))) (ql_cons (QP.E (qn 4)) (ql_cons (QP.E (QE.P (q_add (QE.P (q_add (QE.P (q_ixN 2 qc_int)) (QE.P (q_ixN 3 qc_int)))) (QE.P (q_call H_law_pairs hr (by omega) (qa_e (q_ixN 2 qc_int) (qa_e (q_ixN 3 qc_int) qa_nil))))))) (ql_cons (QP.E (qn 5)) ql_nil))))))))))))))))))))))
abbrev sm_law_up : Stmt := topS 54
theorem scm_law_up : FnScope ["_law_things"] ["_law_things"] (defScope sm_law_up) := ⟨rfl, rfl, rfl, by decide +kernel, rfl, by decide +kernel, by decide +kernel⟩
theorem hm_law_up {f : Addr} {fd : FuncData} (T : Bl mg) (F : Fun K "_law_up" "_law_up" sm_law_up f fd) (hm : mg "_law_up" = some (.ref f)) (hb : Binds K fd ["_law_things"] [])  : Has Pg w K mg base "_law_up" 1 ["_law_things"] m_law_up := by
  have nd := (scm_law_up).nd
  refine ⟨⟨f, fd, fn_ok (k := 0) F scm_law_up rfl rfl fun cdv A outer s H E hr => ?_, hm, F.kp, hb⟩⟩
  have hu : (A.deeper (envOfC "_law_up" (defScope sm_law_up) s.heap.objs.size f cdv)).units + 65 < cLine := hu_room hr
  exact ex_of (K := K) (m := bm_law_up) (by unfold bm_law_up; exact (qss_one (qs_ret (q_ty1 (call_K rfl call_tupZ) sc_tupZ T.b_tuple (QP.B (QE.P (q_upset5 hu T.b_sorted T.b_set (qw 0))))))))
abbrev sm_law_book : Stmt := topS 55
theorem scm_law_book : FnScope ["_law_expression_here", "_law_facts_here", "_law_letters_here"] ["_law_expression_here"] (defScope sm_law_book) := ⟨rfl, rfl, rfl, by decide +kernel, rfl, by decide +kernel, by decide +kernel⟩
theorem hm_law_book {f : Addr} {fd : FuncData} (T : Bl mg) (F : Fun K "_law_book" "_law_book" sm_law_book f fd) (hm : mg "_law_book" = some (.ref f)) (hb : Binds K fd ["_law_expression_here"] []) (H_law_facts : Has Pg w K mg base "_law_facts" 71 ["_law_expression_here"] (m_law_facts 70)) (H_law_letters : Has Pg w K mg base "_law_letters" 70 ["_law_expression_here"] (m_law_letters 70)) (H_law_up : Has Pg w K mg base "_law_up" 1 ["_law_things"] m_law_up) : Has Pg w K mg base "_law_book" 72 ["_law_expression_here"] m_law_book := by
  have nd := (scm_law_book).nd
  refine ⟨⟨f, fd, fn_ok (k := 71) F scm_law_book rfl rfl fun cdv A outer s H E hr => ?_, hm, F.kp, hb⟩⟩
  have hu : (A.deeper (envOfC "_law_book" (defScope sm_law_book) s.heap.objs.size f cdv)).units + 65 < cLine := hu_room hr
  exact ex_of (K := K) (m := bm_law_book) (by unfold bm_law_book; exact (qss_cons (qs_set 1 nd (q_call H_law_facts hr (by omega) (qa_n 0 qa_nil)))
    (qss_cons (qs_set 2 nd (q_call H_law_up hr (by omega) (qa_e (q_call H_law_letters hr (by omega) (qa_n 0 qa_nil)) qa_nil)))
    (qss_one (qs_ret (q_tup (ql_cons (QP.E qc_str) (ql_cons (q_ty1 call_int1 sc_int T.b_int (QP.B (QE.P (q_ixN 1 qc_int)))) (ql_cons (QP.E (qn 2)) (ql_cons (q_call H_law_up hr (by omega) (qa_e (q_ixN 1 qc_int) qa_nil)) (ql_cons (q_call H_law_up hr (by omega) (qa_e (q_ixN 1 qc_int) qa_nil)) (ql_cons (q_call H_law_up hr (by omega) (qa_e (q_ixN 1 qc_int) qa_nil)) ql_nil))))))))))))
abbrev sm_law_back : Stmt := topS 56
theorem scm_law_back : FnScope ["_law_book_here", "_law_found", "_law_label", "_law_back_here"] ["_law_book_here"] (defScope sm_law_back) := ⟨rfl, rfl, rfl, by decide +kernel, rfl, by decide +kernel, by decide +kernel⟩
theorem hm_law_back {f : Addr} {fd : FuncData} (T : Bl mg) (F : Fun K "_law_back" "_law_back" sm_law_back f fd) (hm : mg "_law_back" = some (.ref f)) (hb : Binds K fd ["_law_book_here"] [])  : Has Pg w K mg base "_law_back" 1 ["_law_book_here"] m_law_back := by
  have nd := (scm_law_back).nd
  refine ⟨⟨f, fd, fn_ok (k := 0) F scm_law_back rfl rfl fun cdv A outer s H E hr => ?_, hm, F.kp, hb⟩⟩
  have hu : (A.deeper (envOfC "_law_back" (defScope sm_law_back) s.heap.objs.size f cdv)).units + 65 < cLine := hu_room hr
  exact ex_of (K := K) (m := bm_law_back) (by unfold bm_law_back; exact (qss_cons (qs_set 1 nd q_dnewK)
    (qss_cons (qs_for PassesOwn.never rfl (qi_seq (q_ixN 0 qc_int)) (qg_tup rfl (qgs_cons (qg_n 2 nd) (qgs_cons (qg_n 3 nd) qgs_nil)))
    (qss_one (qs_dput 1 hu (QP.E (qn 3)) (qk_k (qn 2)))))
    (qss_one (qs_ret (QP.E (qn 1)))))))
abbrev sm_law_walk : Stmt := topS 57
theorem scm_law_walk : FnScope ["_law_back_here", "_law_edge"] ["_law_back_here", "_law_edge"] (defScope sm_law_walk) := ⟨rfl, rfl, rfl, by decide +kernel, rfl, by decide +kernel, by decide +kernel⟩
theorem hm_law_walk {f : Addr} {fd : FuncData} (T : Bl mg) (F : Fun K "_law_walk" "_law_walk" sm_law_walk f fd) (hm : mg "_law_walk" = some (.ref f)) (hb : Binds K fd ["_law_back_here", "_law_edge"] [])  : Has Pg w K mg base "_law_walk" 1 ["_law_back_here", "_law_edge"] m_law_walk := by
  have nd := (scm_law_walk).nd
  refine ⟨⟨f, fd, fn_ok (k := 0) F scm_law_walk rfl rfl fun cdv A outer s H E hr => ?_, hm, F.kp, hb⟩⟩
  have hu : (A.deeper (envOfC "_law_walk" (defScope sm_law_walk) s.heap.objs.size f cdv)).units + 65 < cLine := hu_room hr
  exact ex_of (K := K) (m := bm_law_walk) (by unfold bm_law_walk; exact (qss_one (qs_ret (q_ifE (qt_eq hu (qn 0) (QP.B qc_int)) (q_tup (ql_cons (q_ixN 1 qc_int) (ql_cons (q_ixN 1 qc_int) ql_nil))) (q_tup (ql_cons (q_ixN 1 qc_int) (ql_cons (q_ixN 1 qc_int) ql_nil)))))))
abbrev sm_law_gates : Stmt := topS 58
theorem scm_law_gates : FnScope ["_law_book_here", "_law_x", "_law_states_here", "_law_found", "_law_label", "_law_node", "_law_first_here", "_law_second"] ["_law_book_here", "_law_x", "_law_states_here"] (defScope sm_law_gates) := ⟨rfl, rfl, rfl, by decide +kernel, rfl, by decide +kernel, by decide +kernel⟩
theorem hm_law_gates {f : Addr} {fd : FuncData} (T : Bl mg) (F : Fun K "_law_gates" "_law_gates" sm_law_gates f fd) (hm : mg "_law_gates" = some (.ref f)) (hb : Binds K fd ["_law_book_here", "_law_x", "_law_states_here"] [])  : Has Pg w K mg base "_law_gates" 1 ["_law_book_here", "_law_x", "_law_states_here"] m_law_gates := by
  have nd := (scm_law_gates).nd
  refine ⟨⟨f, fd, fn_ok (k := 0) F scm_law_gates rfl rfl fun cdv A outer s H E hr => ?_, hm, F.kp, hb⟩⟩
  have hu : (A.deeper (envOfC "_law_gates" (defScope sm_law_gates) s.heap.objs.size f cdv)).units + 65 < cLine := hu_room hr
  exact ex_of (K := K) (m := bm_law_gates) (by unfold bm_law_gates; exact (qss_cons (qs_set 3 nd q_dnewT)
    (qss_cons (qs_for PassesOwn.never rfl (qi_seq (q_ixN 0 qc_int)) (qg_n 4 nd)
    (qss_one (qs_dput 3 hu (QP.E qc_bl) (qk_t (ql_cons (QP.E (qn 1)) (ql_cons (QP.E (qn 4)) ql_nil))))))
    (qss_cons (qs_forL 2 PassesOwn.never rfl (qn 2) (qg_tup rfl (qgs_cons (qg_n 5 nd) (qgs_cons (qg_n 4 nd) qgs_nil)))
    (qss_one (qs_for PassesOwn.never rfl (qi_seq (q_ixN 0 qc_int)) (qg_tup rfl (qgs_cons (qg_n 6 nd) (qgs_cons (qg_n 7 nd) qgs_nil)))
    (qss_one (qs_if (qt_eq hu (qn 6) (qw 4))
    (qss_one (qs_dput 3 hu (QP.E qc_bl) (qk_t (ql_cons (QP.E (qn 5)) (ql_cons (QP.E (qn 7)) ql_nil)))))
    qss_nil)))))
    (qss_one (qs_ret (QP.E (qn 3))))))))
abbrev sm_law_states : Stmt := topS 59
theorem scm_law_states : FnScope ["_law_graph_here", "_law_book_here", "_law_x", "_law_back_here", "_law_found", "_law_turn", "_law_gates_here", "_law_fresh", "_law_edge", "_law_ends", "_law_state"] ["_law_graph_here", "_law_book_here", "_law_x"] (defScope sm_law_states) := ⟨rfl, rfl, rfl, by decide +kernel, rfl, by decide +kernel, by decide +kernel⟩
theorem hm_law_states {f : Addr} {fd : FuncData} (T : Bl mg) (F : Fun K "_law_states" "_law_states" sm_law_states f fd) (hm : mg "_law_states" = some (.ref f)) (hb : Binds K fd ["_law_graph_here", "_law_book_here", "_law_x"] []) (H_law_back : Has Pg w K mg base "_law_back" 1 ["_law_book_here"] m_law_back) (H_law_gates : Has Pg w K mg base "_law_gates" 1 ["_law_book_here", "_law_x", "_law_states_here"] m_law_gates) (H_law_walk : Has Pg w K mg base "_law_walk" 1 ["_law_back_here", "_law_edge"] m_law_walk) : Has Pg w K mg base "_law_states" 2 ["_law_graph_here", "_law_book_here", "_law_x"] m_law_states := by
  have nd := (scm_law_states).nd
  refine ⟨⟨f, fd, fn_ok (k := 1) F scm_law_states rfl rfl fun cdv A outer s H E hr => ?_, hm, F.kp, hb⟩⟩
  have hu : (A.deeper (envOfC "_law_states" (defScope sm_law_states) s.heap.objs.size f cdv)).units + 65 < cLine := hu_room hr
  exact ex_of (K := K) (m := bm_law_states) (by unfold bm_law_states; exact (qss_cons (qs_set 3 nd (q_call H_law_back hr (by omega) (qa_n 1 qa_nil)))
    (qss_cons (qs_set 4 nd q_dnewT)
    (qss_cons (qs_for PassesOwn.never rfl (qi_rng1 T.b_range (QE.P (q_add (QE.P (q_mul qc_int qc_int)) qc_int))) (qg_n 5 nd)
    (qss_cons (qs_set 6 nd (q_call H_law_gates hr (by omega) (qa_n 1 (qa_n 2 (qa_n 4 qa_nil)))))
    (qss_cons (qs_set 7 nd (q_lst ql_nil))
    (qss_cons (qs_forN 0 PassesOwn.never rfl (qn 0) (qg_n 8 nd)
    (qss_one (qs_if (qt_din 3 hu (qk_k (QE.P (q_ixN 8 qc_int))))
    (qss_cons (qs_set 9 nd (q_call H_law_walk hr (by omega) (qa_e (q_dsub 3 hu (qk_k (QE.P (q_ixN 8 qc_int)))) (qa_n 8 qa_nil))))
    (qss_one (qs_if (QW.T (qw_and (qt_din 6 hu (qk_t (ql_cons (q_ixN 9 qc_int) (ql_cons (q_ixN 8 qc_int) ql_nil)))) (qw_and1 (qt_dnotin 4 hu (qk_t (ql_cons (q_ixN 9 qc_int) (ql_cons (q_ixN 8 qc_int) ql_nil)))))))
    (qss_one (qs_expr (q_mu 7 PySem.F.slot_list_append PySem.F.type_list_append mt_append smu_app (ql_cons (q_tup (ql_cons (q_ixN 9 qc_int) (ql_cons (q_ixN 8 qc_int) ql_nil))) ql_nil))))
    qss_nil)))
    qss_nil)))
    (qss_cons (qs_if (qt_eq hu (QE.P (q_b1 (call_K rfl cr_lenZ) sc_len T.b_len (qw 7))) (QP.B qc_int))
    (qss_one qs_brk)
    qss_nil)
    (qss_one (qs_forN 7 PassesOwn.never rfl (qn 7) (qg_n 10 nd)
    (qss_one (qs_dput 4 hu (QP.E qc_bl) (qk_v (qn 10)))))))))))
    (qss_one (qs_ret (QP.E (qn 4))))))))
abbrev sm_law_ends_there : Stmt := topS 60
theorem scm_law_ends_there : FnScope ["_law_book_here", "_law_x", "_law_y", "_law_states_here", "_law_label"] ["_law_book_here", "_law_x", "_law_y", "_law_states_here"] (defScope sm_law_ends_there) := ⟨rfl, rfl, rfl, by decide +kernel, rfl, by decide +kernel, by decide +kernel⟩
theorem hm_law_ends_there {f : Addr} {fd : FuncData} (T : Bl mg) (F : Fun K "_law_ends_there" "_law_ends_there" sm_law_ends_there f fd) (hm : mg "_law_ends_there" = some (.ref f)) (hb : Binds K fd ["_law_book_here", "_law_x", "_law_y", "_law_states_here"] [])  : Has Pg w K mg base "_law_ends_there" 1 ["_law_book_here", "_law_x", "_law_y", "_law_states_here"] m_law_ends_there := by
  have nd := (scm_law_ends_there).nd
  refine ⟨⟨f, fd, fn_ok (k := 0) F scm_law_ends_there rfl rfl fun cdv A outer s H E hr => ?_, hm, F.kp, hb⟩⟩
  have hu : (A.deeper (envOfC "_law_ends_there" (defScope sm_law_ends_there) s.heap.objs.size f cdv)).units + 65 < cLine := hu_room hr
  exact ex_of (K := K) (m := bm_law_ends_there) (by unfold bm_law_ends_there; exact (qss_cons (qs_if (QW.T (qw_and (qt_eq hu (QE.P (q_ixN 0 qc_int)) (QP.B qc_int)) (qw_and1 (qt_eq hu (qn 1) (qw 2)))))
    (qss_one (qs_ret (QP.E qc_bl)))
    qss_nil)
    (qss_one (qs_ret (q_gt (QE.P (q_b1 (call_K rfl cr_lenZ) sc_len T.b_len (QP.B (QE.P (q_comp (cs := _) [("_law_label", 4)] nd rfl (qi_seq (q_ixN 0 qc_int)) (blkOk_by (N := ["_law_book_here", "_law_x", "_law_y", "_law_states_here", "_law_label"]) (sc := (defScope sm_law_ends_there)) (by decide +kernel)) (fun _ _ _ _ _ => (qg_n 4 nd)) (fun _ _ _ _ _ => (qts_one (qt_altB (qt_din 3 hu (qk_t (ql_cons (QP.E (qn 2)) (ql_cons (QP.E (qn 4)) ql_nil)))) (qt_in hu (QE.P (q_tup (ql_cons (QP.E (qn 2)) (ql_cons (QP.E (qn 4)) ql_nil)))) (qw 3))))) (fun _ _ _ _ _ => (QP.E (qn 4)))))))) (QP.B qc_int))))))
abbrev sm_law_same : Stmt := topS 61
theorem scm_law_same : FnScope ["_law_told", "_law_due", "_law_k"] ["_law_told", "_law_due"] (defScope sm_law_same) := ⟨rfl, rfl, rfl, by decide +kernel, rfl, by decide +kernel, by decide +kernel⟩
theorem hm_law_same {f : Addr} {fd : FuncData} (T : Bl mg) (F : Fun K "_law_same" "_law_same" sm_law_same f fd) (hm : mg "_law_same" = some (.ref f)) (hb : Binds K fd ["_law_told", "_law_due"] []) (H_law_is_int : Has Pg w K mg base "_law_is_int" 1 ["_law_thing"] m_law_is_int) : ∀ n : Nat, Has Pg w K mg base "_law_same" (1 + n) ["_law_told", "_law_due"] (m_law_same n) := by
  intro n
  induction n with
  | zero => exact has_zero F hm hb rfl
  | succ n ih =>
    have nd := (scm_law_same).nd
    refine ⟨⟨f, fd, fn_ok (k := 1 + n) F scm_law_same rfl rfl fun cdv A outer s H E hr => ?_, hm, F.kp, hb⟩⟩
    have hu : (A.deeper (envOfC "_law_same" (defScope sm_law_same) s.heap.objs.size f cdv)).units + 65 < cLine := hu_room hr
    have H_law_same := ih
    exact ex_of (K := K) (m := bm_law_same (m_law_same n)) (by unfold bm_law_same; exact (qss_cons (qs_if (QE.T (q_isi "tuple" T.b_isinstance T.b_tuple (qw 1)))
    (qss_cons (qs_if (QW.T (qw_or (qt_not (QE.T (q_isi "tuple" T.b_isinstance T.b_tuple (qw 0)))) (qw_or1 (qt_ne hu (QE.P (q_b1 (call_K rfl cr_lenZ) sc_len T.b_len (qw 0))) (QP.B (QE.P (q_b1 (call_K rfl cr_lenZ) sc_len T.b_len (qw 1))))))))
    (qss_one (qs_ret (QP.E qc_bl)))
    qss_nil)
    (qss_one (qs_ret (q_b1 (call_K rfl (cr_all rfl)) sc_all T.b_all (QP.B (QE.P (q_comp (cs := _) [("_law_k", 2)] nd rfl (qi_rng1 T.b_range (QE.P (q_b1 (call_K rfl cr_lenZ) sc_len T.b_len (qw 1)))) (blkOk_by (N := ["_law_told", "_law_due", "_law_k"]) (sc := (defScope sm_law_same)) (by decide +kernel)) (fun _ _ _ _ _ => (qg_n 2 nd)) (fun _ _ _ _ _ => qts_nil) (fun _ _ _ _ _ => (q_call H_law_same hr (by omega) (qa_e (q_ixN 0 (qn 2)) (qa_e (q_ixN 1 (qn 2)) qa_nil)))))))))))
    qss_nil)
    (qss_cons (qs_if (QE.T (q_isi "str" T.b_isinstance T.b_str (qw 1)))
    (qss_one (qs_ret (q_andV (q_isi "str" T.b_isinstance T.b_str (qw 0)) (q_one (q_eq hu (qn 0) (qw 1))))))
    qss_nil)
    (qss_one (qs_ret (q_andV (q_call H_law_is_int hr (by omega) (qa_n 0 qa_nil)) (q_one (q_eq hu (qn 0) (qw 1)))))))))
abbrev sm_law_chained : Stmt := topS 62
theorem scm_law_chained : FnScope ["_law_d", "_law_kinds", "_law_labels", "_law_most", "_law_schema_here", "_law_told", "_law_at", "_law_row", "_law_source", "_law_target", "_law_rows", "_law_k"] ["_law_d", "_law_kinds", "_law_labels", "_law_most"] (defScope sm_law_chained) := ⟨rfl, rfl, rfl, by decide +kernel, rfl, by decide +kernel, by decide +kernel⟩
theorem hm_law_chained {f : Addr} {fd : FuncData} (T : Bl mg) (F : Fun K "_law_chained" "_law_chained" sm_law_chained f fd) (hm : mg "_law_chained" = some (.ref f)) (hb : Binds K fd ["_law_d", "_law_kinds", "_law_labels", "_law_most"] []) (H_law_draw : Has Pg w K mg base "_law_draw" 1 ["_law_d", "_law_many"] m_law_draw) (H_law_rare : Has Pg w K mg base "_law_rare" 2 ["_law_d", "_law_many"] m_law_rare) (H_law_schema : Has Pg w K mg base "_law_schema" 3 ["_law_d", "_law_kinds", "_law_labels", "_law_most"] m_law_schema) : Has Pg w K mg base "_law_chained" 4 ["_law_d", "_law_kinds", "_law_labels", "_law_most"] m_law_chained := by
  have nd := (scm_law_chained).nd
  refine ⟨⟨f, fd, fn_ok (k := 3) F scm_law_chained rfl rfl fun cdv A outer s H E hr => ?_, hm, F.kp, hb⟩⟩
  have hu : (A.deeper (envOfC "_law_chained" (defScope sm_law_chained) s.heap.objs.size f cdv)).units + 65 < cLine := hu_room hr
  exact ex_of (K := K) (m := bm_law_chained) (by unfold bm_law_chained; exact (qss_cons (qs_set 4 nd (q_call H_law_schema hr (by omega) (qa_n 0 (qa_n 1 (qa_n 2 (qa_n 3 qa_nil))))))
    (qss_cons (qs_set 5 nd (q_lst ql_nil))
    (qss_cons (qs_set 6 nd (q_call H_law_draw hr (by omega) (qa_n 0 (qa_n 1 qa_nil))))
    (qss_cons (qs_for PassesOwn.never rfl (qi_seq (q_ixN 4 qc_int)) (qg_n 7 nd)
    (qss_cons (qs_par 8 9 nd (ql_cons (q_ixN 7 qc_int) (ql_cons (q_ixN 7 qc_int) ql_nil)))
    (qss_cons (qs_if (qt_gt (QE.P (q_call H_law_draw hr (by omega) (qa_n 0 (qa_e (QP.E qc_int) qa_nil)))) (QP.B qc_int))
    (qss_cons (qs_set 8 nd (QP.E (qn 6)))
    (qss_one (qs_if (qt_eq hu (QE.P (q_ixN 7 qc_int)) (QP.B qc_str))
    (qss_one (qs_set 9 nd (QP.E (qn 6))))
    qss_nil)))
    qss_nil)
    (qss_cons (qs_expr (q_mu 5 PySem.F.slot_list_append PySem.F.type_list_append mt_append smu_app (ql_cons (q_tup (ql_cons (q_ixN 7 qc_int) (ql_cons (QP.E (qn 8)) (ql_cons (QP.E (qn 9)) (ql_cons (q_ixN 7 qc_int) (ql_cons (q_ixN 7 qc_int) ql_nil)))))) ql_nil)))
    (qss_one (qs_set 6 nd (QP.E (qn 9))))))))
    (qss_cons (qs_set 10 nd (q_ty1 (call_K rfl call_listZ) sc_listZ T.b_list (QP.B (QE.P (q_ixN 4 qc_int)))))
    (qss_cons (qs_if (QW.T (qw_and (qt_gt (qn 1) (QP.B qc_int)) (qw_and1 (QE.T (q_call H_law_rare hr (by omega) (qa_n 0 (qa_e (QP.E qc_int) qa_nil)))))))
    (qss_cons (qs_set 11 nd (q_call H_law_draw hr (by omega) (qa_n 0 (qa_n 1 qa_nil))))
    (qss_one (qs_put 10 (q_tup (ql_cons (q_ix (QE.P (q_ixN 10 (qn 11))) qc_int) (ql_cons (QP.E qc_int) ql_nil))) (qn 11))))
    qss_nil)
    (qss_one (qs_ret (q_tup (ql_cons (QP.E qc_str) (ql_cons (q_ty1 (call_K rfl call_tupZ) sc_tupZ T.b_tuple (qw 10)) (ql_cons (q_ty1 (call_K rfl call_tupZ) sc_tupZ T.b_tuple (qw 5)) ql_nil)))))))))))))
abbrev sm_law_joins : Stmt := topS 63
theorem scm_law_joins : FnScope ["_law_d", "_law_schema_here", "_law_labels", "_law_at", "_law_left"] ["_law_d", "_law_schema_here", "_law_labels"] (defScope sm_law_joins) := ⟨rfl, rfl, rfl, by decide +kernel, rfl, by decide +kernel, by decide +kernel⟩
theorem hm_law_joins {f : Addr} {fd : FuncData} (T : Bl mg) (F : Fun K "_law_joins" "_law_joins" sm_law_joins f fd) (hm : mg "_law_joins" = some (.ref f)) (hb : Binds K fd ["_law_d", "_law_schema_here", "_law_labels"] []) (H_law_draw : Has Pg w K mg base "_law_draw" 1 ["_law_d", "_law_many"] m_law_draw) (H_law_expression : Has Pg w K mg base "_law_expression" 3 ["_law_d", "_law_schema_here", "_law_labels"] m_law_expression) : Has Pg w K mg base "_law_joins" 4 ["_law_d", "_law_schema_here", "_law_labels"] m_law_joins := by
  have nd := (scm_law_joins).nd
  refine ⟨⟨f, fd, fn_ok (k := 3) F scm_law_joins rfl rfl fun cdv A outer s H E hr => ?_, hm, F.kp, hb⟩⟩
  have hu : (A.deeper (envOfC "_law_joins" (defScope sm_law_joins) s.heap.objs.size f cdv)).units + 65 < cLine := hu_room hr
  exact ex_of (K := K) (m := bm_law_joins) (by unfold bm_law_joins; exact (qss_cons (qs_if (QW.T (qw_and (qt_gt (QE.P (q_b1 (call_K rfl cr_lenZ) sc_len T.b_len (qw 2))) (QP.B qc_int)) (qw_and1 (qt_gt (QE.P (q_call H_law_draw hr (by omega) (qa_n 0 (qa_e (QP.E qc_int) qa_nil)))) (QP.B qc_int)))))
    (qss_cons (qs_set 3 nd (q_add qc_int (QE.P (q_call H_law_draw hr (by omega) (qa_n 0 (qa_e (q_sub (QE.P (q_b1 (call_K rfl cr_lenZ) sc_len T.b_len (qw 2))) qc_int) qa_nil))))))
    (qss_cons (qs_set 4 nd (q_call H_law_expression hr (by omega) (qa_n 0 (qa_n 1 (qa_e (q_slN 2 qo_none (qo_some (qn 3))) qa_nil)))))
    (qss_one (qs_ret (q_tup (ql_cons (QP.E qc_str) (ql_cons (QP.E (qn 4)) (ql_cons (q_call H_law_expression hr (by omega) (qa_n 0 (qa_n 1 (qa_e (q_slN 2 (qo_some (qn 3)) qo_none) qa_nil)))) ql_nil))))))))
    qss_nil)
    (qss_one (qs_ret (q_call H_law_expression hr (by omega) (qa_n 0 (qa_n 1 (qa_n 2 qa_nil))))))))
abbrev sm_law_index : Stmt := topS 64
theorem scm_law_index : FnScope ["_law_schema_here", "_law_graph_here", "_law_told", "_law_start", "_law_end", "_law_book_here", "_law_pairs_here", "_law_x", "_law_states_here", "_law_y"] ["_law_schema_here", "_law_graph_here", "_law_told", "_law_start", "_law_end"] (defScope sm_law_index) := ⟨rfl, rfl, rfl, by decide +kernel, rfl, by decide +kernel, by decide +kernel⟩
theorem hm_law_index {f : Addr} {fd : FuncData} (T : Bl mg) (F : Fun K "_law_index" "_law_index" sm_law_index f fd) (hm : mg "_law_index" = some (.ref f)) (hb : Binds K fd ["_law_schema_here", "_law_graph_here", "_law_told", "_law_start", "_law_end"] []) (H_law_book : Has Pg w K mg base "_law_book" 72 ["_law_expression_here"] m_law_book) (H_law_ends_there : Has Pg w K mg base "_law_ends_there" 1 ["_law_book_here", "_law_x", "_law_y", "_law_states_here"] m_law_ends_there) (H_law_nodes : Has Pg w K mg base "_law_nodes" 2 ["_law_schema_here", "_law_kind"] m_law_nodes) (H_law_states : Has Pg w K mg base "_law_states" 2 ["_law_graph_here", "_law_book_here", "_law_x"] m_law_states) : Has Pg w K mg base "_law_index" 73 ["_law_schema_here", "_law_graph_here", "_law_told", "_law_start", "_law_end"] m_law_index := by
  have nd := (scm_law_index).nd
  refine ⟨⟨f, fd, fn_ok (k := 72) F scm_law_index rfl rfl fun cdv A outer s H E hr => ?_, hm, F.kp, hb⟩⟩
  have hu : (A.deeper (envOfC "_law_index" (defScope sm_law_index) s.heap.objs.size f cdv)).units + 65 < cLine := hu_room hr
  exact ex_of (K := K) (m := bm_law_index) (by unfold bm_law_index; exact (qss_cons (qs_set 5 nd (q_call H_law_book hr (by omega) (qa_n 2 qa_nil)))
    (qss_cons (qs_set 6 nd (q_lst ql_nil))
    (qss_cons (qs_for PassesOwn.never rfl (qi_seq (q_call H_law_nodes hr (by omega) (qa_n 0 (qa_n 3 qa_nil)))) (qg_n 7 nd)
    (qss_cons (qs_set 8 nd (q_call H_law_states hr (by omega) (qa_n 1 (qa_n 5 (qa_n 7 qa_nil)))))
    (qss_one (qs_set 6 nd (q_add (qn 6) (QE.P (q_comp (cs := _) [("_law_y", 9)] nd rfl (qi_seq (q_call H_law_nodes hr (by omega) (qa_n 0 (qa_n 4 qa_nil)))) (blkOk_by (N := ["_law_schema_here", "_law_graph_here", "_law_told", "_law_start", "_law_end", "_law_book_here", "_law_pairs_here", "_law_x", "_law_states_here", "_law_y"]) (sc := (defScope sm_law_index)) (by decide +kernel)) (fun _ _ _ _ _ => (qg_n 9 nd)) (fun _ _ _ _ _ => (qts_one (QE.T (q_call H_law_ends_there hr (by omega) (qa_n 5 (qa_n 7 (qa_n 9 (qa_n 8 qa_nil)))))))) (fun _ _ _ _ _ => (q_tup (ql_cons (QP.E (qn 7)) (ql_cons (QP.E (qn 9)) ql_nil)))))))))))
    (qss_one (qs_ret (q_tup (ql_cons (QP.E qc_str) (ql_cons (QP.E (qn 2)) (ql_cons (QP.E (qn 3)) (ql_cons (QP.E (qn 4)) (ql_cons (q_ty1 (call_K rfl call_tupZ) sc_tupZ T.b_tuple (qw 6)) ql_nil))))))))))))
abbrev sm_law : Stmt := topS 65
theorem scm_law : FnScope ["_law_script", "_law_d", "_law_kinds", "_law_labels", "_law_most", "_law_size", "_law_schema_here", "_law_graph_here", "_law_other", "_law_taken", "_law_told", "_law_asked", "_law_start", "_law_pair", "_law_one", "_law_end", "_law_due"] ["_law_script"] (defScope sm_law) := ⟨rfl, rfl, rfl, by decide +kernel, rfl, by decide +kernel, by decide +kernel⟩
theorem hm_law {f : Addr} {fd : FuncData} (T : Bl mg) (F : Fun K "law" "law" sm_law f fd) (H_law_begin : Has Pg w K mg base "_law_begin" 1 ["_law_script"] m_law_begin) (H_law_chained : Has Pg w K mg base "_law_chained" 4 ["_law_d", "_law_kinds", "_law_labels", "_law_most"] m_law_chained) (H_law_draw : Has Pg w K mg base "_law_draw" 1 ["_law_d", "_law_many"] m_law_draw) (H_law_graph : Has Pg w K mg base "_law_graph" 4 ["_law_d", "_law_schema_here", "_law_most"] m_law_graph) (H_law_index : Has Pg w K mg base "_law_index" 73 ["_law_schema_here", "_law_graph_here", "_law_told", "_law_start", "_law_end"] m_law_index) (H_law_joins : Has Pg w K mg base "_law_joins" 4 ["_law_d", "_law_schema_here", "_law_labels"] m_law_joins) (H_law_rare : Has Pg w K mg base "_law_rare" 2 ["_law_d", "_law_many"] m_law_rare) (H_law_same : Has Pg w K mg base "_law_same" 71 ["_law_told", "_law_due"] (m_law_same 70)) (H_law_shuffled : Has Pg w K mg base "_law_shuffled" 2 ["_law_d", "_law_row"] m_law_shuffled) (Hindex_of : Has Pg w K mg base "index_of" 74 ["schema", "graph", "expression", "start", "end"] m_index_of) : FnOk Pg w K mg base CX0 75 f fd ["_law_script"] (spF K m_law) := by
  have nd := (scm_law).nd
  refine fn_ok (k := 74) F scm_law rfl rfl fun cdv A outer s H E hr => ?_
  have hu : (A.deeper (envOfC "law" (defScope sm_law) s.heap.objs.size f cdv)).units + 65 < cLine := hu_room hr
  exact ex_of (K := K) (m := bm_law) (by unfold bm_law; exact (qss_cons (qs_set 1 nd (q_call H_law_begin hr (by omega) (qa_n 0 qa_nil)))
    (qss_cons (qs_set 2 nd (q_add qc_int (QE.P (q_call H_law_draw hr (by omega) (qa_n 1 (qa_e (QP.E qc_int) qa_nil))))))
    (qss_cons (qs_par3 3 4 5 nd (ql_cons (QP.E (QE.P (q_add qc_int (QE.P (q_call H_law_draw hr (by omega) (qa_n 1 (qa_e (QP.E qc_int) qa_nil))))))) (ql_cons (q_sub (QE.P (q_sub qc_int (qn 2))) (QE.P (q_fdiv (qn 2) qc_int))) (ql_cons (QP.E qc_int) ql_nil))))
    (qss_cons (qs_if (QE.T (q_call H_law_rare hr (by omega) (qa_n 1 (qa_e (QP.E qc_int) qa_nil))))
    (qss_one (qs_par3 3 4 5 nd (ql_cons (QP.E qc_int) (ql_cons (q_fdiv qc_int (qn 2)) (ql_cons (QP.E qc_int) ql_nil)))))
    qss_nil)
    (qss_cons (qs_set 6 nd (q_call H_law_chained hr (by omega) (qa_n 1 (qa_n 2 (qa_n 3 (qa_n 4 qa_nil))))))
    (qss_cons (qs_set 7 nd (q_call H_law_graph hr (by omega) (qa_n 1 (qa_n 6 (qa_e (q_call H_law_draw hr (by omega) (qa_n 1 (qa_e (q_add (qn 5) qc_int) qa_nil))) qa_nil)))))
    (qss_cons (qs_set 8 nd (q_call H_law_graph hr (by omega) (qa_n 1 (qa_n 6 (qa_e (q_call H_law_draw hr (by omega) (qa_n 1 (qa_e (q_add (qn 5) qc_int) qa_nil))) qa_nil)))))
    (qss_cons (qs_set 9 nd (q_lrng T.b_list T.b_range (qn 3)))
    (qss_cons (qs_if (qt_eq hu (QE.P (q_call H_law_draw hr (by omega) (qa_n 1 (qa_e (QP.E qc_int) qa_nil)))) (QP.B qc_int))
    (qss_one (qs_set 9 nd (q_call H_law_shuffled hr (by omega) (qa_n 1 (qa_n 9 qa_nil)))))
    qss_nil)
    (qss_cons (qs_set 10 nd (q_call H_law_joins hr (by omega) (qa_n 1 (qa_n 6 (qa_e (q_slN 9 qo_none (qo_some (QE.P (q_call H_law_draw hr (by omega) (qa_n 1 (qa_e (q_add (qn 3) qc_int) qa_nil)))))) qa_nil)))))
    (qss_cons (qs_set 11 nd (q_lst ql_nil))
    (qss_cons (qs_for PassesOwn.never rfl (qi_rng1 T.b_range (qn 2)) (qg_n 12 nd)
    (qss_one (qs_set 11 nd (q_add (qn 11) (QE.P (q_comp (cs := _) [("_law_end", 15)] nd rfl (qi_rng1 T.b_range (qn 2)) (blkOk_by (N := ["_law_script", "_law_d", "_law_kinds", "_law_labels", "_law_most", "_law_size", "_law_schema_here", "_law_graph_here", "_law_other", "_law_taken", "_law_told", "_law_asked", "_law_start", "_law_pair", "_law_one", "_law_end", "_law_due"]) (sc := (defScope sm_law)) (by decide +kernel)) (fun _ _ _ _ _ => (qg_n 15 nd)) (fun _ _ _ _ _ => qts_nil) (fun _ _ _ _ _ => (q_tup (ql_cons (QP.E (qn 7)) (ql_cons (QP.E (qn 12)) (ql_cons (QP.E (qn 15)) ql_nil)))))))))))
    (qss_cons (qs_set 13 nd (q_tup (ql_cons (q_call H_law_draw hr (by omega) (qa_n 1 (qa_n 2 qa_nil))) (ql_cons (q_call H_law_draw hr (by omega) (qa_n 1 (qa_n 2 qa_nil))) ql_nil))))
    (qss_cons (qs_set 11 nd (q_add (qn 11) (QE.P (q_comp (cs := _) [("_law_one", 14)] nd rfl (qi_seq (q_tup (ql_cons (QP.E (qn 8)) (ql_cons (q_tup ql_nil) (ql_cons (QP.E (qn 7)) ql_nil))))) (blkOk_by (N := ["_law_script", "_law_d", "_law_kinds", "_law_labels", "_law_most", "_law_size", "_law_schema_here", "_law_graph_here", "_law_other", "_law_taken", "_law_told", "_law_asked", "_law_start", "_law_pair", "_law_one", "_law_end", "_law_due"]) (sc := (defScope sm_law)) (by decide +kernel)) (fun _ _ _ _ _ => (qg_n 14 nd)) (fun _ _ _ _ _ => qts_nil) (fun _ _ _ _ _ => (QP.E (QE.P (q_add (QE.P (q_tup (ql_cons (QP.E (qn 14)) ql_nil))) (qn 13)))))))))
    (qss_cons (qs_forN 11 PassesOwn.never rfl (qn 11) (qg_tup rfl (qgs_cons (qg_n 14 nd) (qgs_cons (qg_n 12 nd) (qgs_cons (qg_n 15 nd) qgs_nil))))
    (qss_cons (qs_set 16 nd (q_call H_law_index hr (by omega) (qa_n 6 (qa_n 14 (qa_n 10 (qa_n 12 (qa_n 15 qa_nil)))))))
    (qss_one (qs_if (qt_not (QE.T (q_call H_law_same hr (by omega) (qa_e (q_call Hindex_of hr (by omega) (qa_n 6 (qa_n 14 (qa_n 10 (qa_n 12 (qa_n 15 qa_nil)))))) (qa_n 16 qa_nil)))))
    (qss_one (qs_ret (QP.E qc_bl)))
    qss_nil))))
    (qss_one (qs_ret (QP.E qc_bl)))))))))))))))))))
end
end ZL
namespace ZL
open PySem.Spec PyProof.Rows L2 Z PySem
local macro_rules | `(tactic| walk_at "z.at") => `(tactic| (focus ((repeat (first | with_reducible exact AtR.z _ _ | with_reducible exact SetR.z _ _ _ | with_reducible exact DatR.l _ _ | with_reducible exact DatR.p _ _ | with_reducible apply AtR.s | with_reducible apply SetR.s | with_reducible apply DatR.s)); done)))
local macro_rules | `(tactic| walk_at "z.vw") => `(tactic| (focus ((repeat (first | with_reducible exact vw_val _ | with_reducible exact view_map _ | with_reducible exact vw_nil | with_reducible apply vw_cons)); done)))
local macro_rules | `(tactic| walk_at "z.fz") => `(tactic| (focus ((repeat (first | with_reducible exact fz_val _ | with_reducible exact frz_map _ | with_reducible exact fz_nil | with_reducible exact dS_frz _ | with_reducible exact dL_frz _ _ | with_reducible exact dB_frz _ | with_reducible exact dMT_frz _ | with_reducible exact dMK_frz _ | with_reducible apply fz_cons | with_reducible apply fz_o1)); done)))
local macro_rules | `(tactic| walk_at "z.ok") => `(tactic| (first | exact .inl rfl | exact .inr (.inl ⟨_, rfl⟩) | exact .inr (.inr ⟨_, rfl⟩)))
local macro_rules | `(tactic| walk_at "z.st") => `(tactic| (simp only [List.map_cons, List.map_nil, List.replicate, List.cons_append, List.nil_append, Nat.reduceSub, List.length_cons, List.length_nil, Nat.zero_add, Nat.reduceAdd]))
local macro_rules | `(tactic| walk_at "z.cs") => `(tactic| (simp only [List.set_cons_succ, List.set_cons_zero]))
local macro_rules | `(tactic| injection "z.op") => `(tactic| ((with_reducible apply o_slt); (focus (first | assumption | rfl))))
local macro_rules | `(tactic| injection "z.op") => `(tactic| ((with_reducible apply o_ixt); (focus (first | assumption | rfl))))
local macro_rules | `(tactic| injection "z.op") => `(tactic| ((with_reducible apply o_ixl); (focus (first | assumption | rfl))))
local macro_rules | `(tactic| injection "z.op") => `(tactic| ((with_reducible apply o_sortTl); (focus (first | assumption | decide | omega))))
local macro_rules | `(tactic| injection "z.op") => `(tactic| ((with_reducible apply o_sortTt); (focus (first | assumption | decide | omega))))
local macro_rules | `(tactic| injection "z.op") => `(tactic| ((with_reducible apply o_app); (focus (first | assumption | decide | omega))))
local macro_rules | `(tactic| injection "z.op") => `(tactic| ((with_reducible apply o_addl); (focus (first | assumption | decide | omega))))
local macro_rules | `(tactic| injection "z.op") => `(tactic| ((with_reducible apply o_addt); (focus (first | assumption | decide | omega))))
local macro_rules | `(tactic| injection "z.op") => `(tactic| ((with_reducible apply o_shl); (focus (first | assumption | decide | omega))))
local macro_rules | `(tactic| injection "z.op") => `(tactic| ((with_reducible apply o_pow); (focus (first | assumption | decide | omega))))
local macro_rules | `(tactic| injection "z.op") => `(tactic| ((with_reducible apply o_mod); (focus (first | assumption | decide | omega))))
local macro_rules | `(tactic| injection "z.op") => `(tactic| ((with_reducible apply o_fdiv); (focus (first | assumption | decide | omega))))
local macro_rules | `(tactic| injection "z.op") => `(tactic| ((with_reducible apply o_mull); (focus (first | assumption | decide | omega))))
local macro_rules | `(tactic| injection "z.op") => `(tactic| ((with_reducible apply o_mulr); (focus (first | assumption | decide | omega))))
local macro_rules | `(tactic| injection "z.op") => `(tactic| with_reducible exact fB_at _ _)
local macro_rules | `(tactic| injection "z.op") => `(tactic| with_reducible exact dB_at _ _)
local macro_rules | `(tactic| injection "z.op") => `(tactic| with_reducible exact fS_at _ _ _)
local macro_rules | `(tactic| injection "z.op") => `(tactic| with_reducible exact dS_at _ _ _)
local macro_rules | `(tactic| injection "z.op") => `(tactic| with_reducible exact ky_t2 _ _)
local macro_rules | `(tactic| injection "z.op") => `(tactic| with_reducible exact ky_2 _ _)
local macro_rules | `(tactic| injection "z.op") => `(tactic| with_reducible exact ix_t2 _ _ _)
local macro_rules | `(tactic| injection "z.op") => `(tactic| with_reducible exact ix_t1 _ _ _)
local macro_rules | `(tactic| injection "z.op") => `(tactic| with_reducible exact ix_t0 _ _ _)
local macro_rules | `(tactic| injection "z.op") => `(tactic| with_reducible exact o_itS _ _)
local macro_rules | `(tactic| injection "z.op") => `(tactic| with_reducible exact dI_or _ _ _ _)
local macro_rules | `(tactic| injection "z.op") => `(tactic| with_reducible exact dI_get _ _ _)
local macro_rules | `(tactic| injection "z.op") => `(tactic| with_reducible exact da_t _ _ _)
local macro_rules | `(tactic| injection "z.op") => `(tactic| with_reducible exact da_k _ _ _)
local macro_rules | `(tactic| injection "z.op") => `(tactic| with_reducible exact kp_s _)
local macro_rules | `(tactic| injection "z.op") => `(tactic| with_reducible exact kp_i _)
local macro_rules | `(tactic| injection "z.op") => `(tactic| with_reducible exact o_slT _ _ _)
local macro_rules | `(tactic| injection "z.op") => `(tactic| with_reducible exact o_sum _)
local macro_rules | `(tactic| injection "z.op") => `(tactic| with_reducible exact o_niTl _ _)
local macro_rules | `(tactic| injection "z.op") => `(tactic| with_reducible exact o_niTt _ _)
local macro_rules | `(tactic| injection "z.op") => `(tactic| with_reducible exact o_inTl _ _)
local macro_rules | `(tactic| injection "z.op") => `(tactic| with_reducible exact o_inTt _ _)
local macro_rules | `(tactic| injection "z.op") => `(tactic| with_reducible exact o_neT _ _)
local macro_rules | `(tactic| injection "z.op") => `(tactic| with_reducible exact o_eqT _ _)
local macro_rules | `(tactic| injection "z.op") => `(tactic| with_reducible exact se_own _)
local macro_rules | `(tactic| injection "z.op") => `(tactic| with_reducible exact se_scr _)
local macro_rules | `(tactic| injection "z.op") => `(tactic| with_reducible exact se_tup _)
local macro_rules | `(tactic| injection "z.op") => `(tactic| with_reducible exact se_lst _)
local macro_rules | `(tactic| injection "z.op") => `(tactic| with_reducible exact o_tupt _)
local macro_rules | `(tactic| injection "z.op") => `(tactic| with_reducible exact o_tupl _)
local macro_rules | `(tactic| injection "z.op") => `(tactic| with_reducible exact o_listt _)
local macro_rules | `(tactic| injection "z.op") => `(tactic| with_reducible exact o_listl _)
local macro_rules | `(tactic| injection "z.op") => `(tactic| with_reducible exact o_lens _)
local macro_rules | `(tactic| injection "z.op") => `(tactic| with_reducible exact o_lent _)
local macro_rules | `(tactic| injection "z.op") => `(tactic| with_reducible exact o_lenl _)
local macro_rules | `(tactic| injection "z.op") => `(tactic| with_reducible exact o_intb _)
local macro_rules | `(tactic| injection "z.op") => `(tactic| with_reducible exact o_inti _)
local macro_rules | `(tactic| injection "z.op") => `(tactic| with_reducible exact o_abs _)
local macro_rules | `(tactic| injection "z.op") => `(tactic| with_reducible exact o_nes _ _)
local macro_rules | `(tactic| injection "z.op") => `(tactic| with_reducible exact o_eqs _ _)
local macro_rules | `(tactic| injection "z.op") => `(tactic| with_reducible exact o_nei _ _)
local macro_rules | `(tactic| injection "z.op") => `(tactic| with_reducible exact o_eqi _ _)
local macro_rules | `(tactic| injection "z.op") => `(tactic| with_reducible exact o_sub _ _)
local macro_rules | `(tactic| injection "z.op") => `(tactic| with_reducible exact o_addb _ _)
local macro_rules | `(tactic| injection "z.op") => `(tactic| with_reducible exact o_iadd _ _)
local macro_rules | `(tactic| injection "z.op") => `(tactic| with_reducible exact o_add _ _)
local macro_rules | `(tactic| injection "z.op") => `(tactic| with_reducible exact o_le _ _)
local macro_rules | `(tactic| injection "z.op") => `(tactic| with_reducible exact o_lt _ _)
local macro_rules | `(tactic| injection "z.op") => `(tactic| with_reducible exact o_ge _ _)
local macro_rules | `(tactic| injection "z.op") => `(tactic| with_reducible exact o_gt _ _)
local macro_rules | `(tactic| injection "z.op") => `(tactic| with_reducible assumption)
local macro_rules | `(tactic| fail "z.s") => `(tactic| ((with_reducible apply and_len); (focus (first | exact Nat.le_of_ble_eq_true rfl | assumption))))
local macro_rules | `(tactic| fail "z.s") => `(tactic| ((with_reducible apply ex_tup); (focus (first | exact Nat.le_of_ble_eq_true rfl | assumption)); (focus ((repeat (first | with_reducible exact mk_nil | with_reducible apply mk_cons)); done))))
local macro_rules | `(tactic| fail "z.s") => `(tactic| (with_reducible refine ⟨_, rfl, ?_⟩))
local macro_rules | `(tactic| fail "z.s") => `(tactic| ((with_reducible apply ex_kt); (focus (exact Nat.le_of_ble_eq_true rfl)); (focus rfl)))
local macro_rules | `(tactic| fail "z.s") => `(tactic| ((with_reducible apply w_mv); (focus (walk_at "z.at")); (focus rfl); (focus (walk_at "z.at"))))
local macro_rules | `(tactic| fail "z.s") => `(tactic| ((with_reducible apply ex_dpP); (focus (walk_at "z.at")); (focus (walk_at "z.at")); (focus (injection "z.op")); (focus (walk_at "z.at"))))
local macro_rules | `(tactic| fail "z.s") => `(tactic| ((with_reducible apply ex_dpL); (focus (walk_at "z.at")); (focus (walk_at "z.at")); (focus (injection "z.op")); (focus (walk_at "z.at"))))
local macro_rules | `(tactic| fail "z.s") => `(tactic| ((with_reducible apply ex_din); (focus (walk_at "z.at")); (focus (injection "z.op"))))
local macro_rules | `(tactic| fail "z.s") => `(tactic| ((with_reducible apply ex_dsub); (focus (walk_at "z.at")); (focus (injection "z.op"))))
local macro_rules | `(tactic| fail "z.s") => `(tactic| ((with_reducible apply ex_dg2); (focus (walk_at "z.at")); (focus (injection "z.op")); (focus (injection "z.op"))))
local macro_rules | `(tactic| fail "z.s") => `(tactic| ((with_reducible apply w_dget2); (focus (walk_at "z.at")); (focus rfl)))
local macro_rules | `(tactic| fail "z.s") => `(tactic| ((with_reducible apply w_dsub); (focus (walk_at "z.at"))))
local macro_rules | `(tactic| fail "z.s") => `(tactic| ((with_reducible apply ex2); (focus (injection "z.op"))))
local macro_rules | `(tactic| fail "z.s") => `(tactic| ((with_reducible apply ex2); (focus (walk_at "z.fz"))))
local macro_rules | `(tactic| fail "z.s") => `(tactic| ((with_reducible apply ex_muP); (focus (walk_at "z.at")); (focus (injection "z.op")); (focus (walk_at "z.at"))))
local macro_rules | `(tactic| fail "z.s") => `(tactic| ((with_reducible apply ex_muL); (focus (walk_at "z.at")); (focus (injection "z.op")); (focus (walk_at "z.at"))))
local macro_rules | `(tactic| fail "z.s") => `(tactic| ((with_reducible apply ex_viewL); (focus (walk_at "z.at")); (focus (walk_at "z.vw")); (focus (injection "z.op"))))
local macro_rules | `(tactic| fail "z.s") => `(tactic| ((with_reducible apply ex_view); (focus (walk_at "z.at")); (focus (walk_at "z.vw")); (focus (injection "z.op"))))
local macro_rules | `(tactic| fail "z.s") => `(tactic| ((with_reducible apply ex2); (with_reducible apply put_l); (focus (walk_at "z.at")); (focus (first | with_reducible assumption | exact (rfl : _ = some 0) | exact (rfl : _ = some 1) | exact (rfl : _ = some 2) | exact (rfl : _ = some 3))); (focus ((repeat (first | with_reducible exact SetL.z _ _ _ | with_reducible apply SetL.s)); done)); (focus (walk_at "z.at"))))
local macro_rules | `(tactic| fail "z.s") => `(tactic| ((with_reducible apply ex2); (with_reducible apply put_p); (focus (walk_at "z.at")); (focus (first | with_reducible assumption | exact (rfl : _ = some 0) | exact (rfl : _ = some 1) | exact (rfl : _ = some 2) | exact (rfl : _ = some 3))); (focus ((repeat (first | with_reducible exact SetL.z _ _ _ | with_reducible apply SetL.s)); done)); (focus (walk_at "z.at"))))
local macro_rules | `(tactic| fail "z.s") => `(tactic| ((with_reducible apply w_forNo); (focus (walk_at "z.at")); (focus rfl); (focus (walk_at "z.at"))))
local macro_rules | `(tactic| fail "z.s") => `(tactic| ((with_reducible apply w_forNv); (focus (walk_at "z.at")); (focus (first | with_reducible exact se_lst _ | with_reducible exact se_tup _ | with_reducible exact se_scr _))))
local macro_rules | `(tactic| fail "z.s") => `(tactic| ((with_reducible apply and_at); (focus (walk_at "z.at"))))
local macro_rules | `(tactic| fail "z.s") => `(tactic| ((with_reducible apply ex2); (focus (walk_at "z.at"))))
local macro_rules | `(tactic| fail "z.s") => `(tactic| ((with_reducible apply w_aug); (focus (walk_at "z.at"))))
local macro_rules | `(tactic| fail "z.s") => `(tactic| ((with_reducible apply w_augS); (focus (walk_at "z.at"))))
local macro_rules | `(tactic| fail "z.s") => `(tactic| ((with_reducible apply w_set); (focus (walk_at "z.at"))))
local macro_rules | `(tactic| fail "z.s") => `(tactic| ((with_reducible apply w_muP); (focus (walk_at "z.at"))))
local macro_rules | `(tactic| fail "z.s") => `(tactic| ((with_reducible apply w_muL); (focus (walk_at "z.at"))))
local macro_rules | `(tactic| fail "z.s") => `(tactic| ((with_reducible apply pt_p); (focus (walk_at "z.at"))))
local macro_rules | `(tactic| fail "z.s") => `(tactic| ((with_reducible apply pt_l); (focus (walk_at "z.at"))))
local macro_rules | `(tactic| fail "z.s") => `(tactic| ((with_reducible apply pt_un); (focus (walk_at "z.at")); (focus (walk_at "z.at"))))
local macro_rules | `(tactic| fail "z.s") => `(tactic| ((with_reducible apply pt_hol); (focus (walk_at "z.at")); (focus (walk_at "z.at"))))
local macro_rules | `(tactic| fail "z.s") => `(tactic| ((with_reducible apply tk_parS); (focus (walk_at "z.at")); (focus (walk_at "z.at"))))
local macro_rules | `(tactic| fail "z.s") => `(tactic| ((with_reducible apply tk_locS); (focus (walk_at "z.at")); (focus (walk_at "z.at"))))
local macro_rules | `(tactic| fail "z.s") => `(tactic| ((with_reducible apply tk_par); (focus (walk_at "z.at")); (focus (walk_at "z.at"))))
local macro_rules | `(tactic| fail "z.s") => `(tactic| ((with_reducible apply tk_loc); (focus (walk_at "z.at")); (focus (walk_at "z.at"))))
local macro_rules | `(tactic| fail "z.s") => `(tactic| ((with_reducible apply tk_val); (focus (walk_at "z.at"))))
local macro_rules | `(tactic| fail "z.s") => `(tactic| ((with_reducible apply w_slN); (focus (walk_at "z.at"))))
local macro_rules | `(tactic| fail "z.s") => `(tactic| ((with_reducible apply w_opN); (focus (walk_at "z.at"))))
local macro_rules | `(tactic| fail "z.s") => `(tactic| ((with_reducible apply w_opC); (focus (walk_at "z.at")); (focus (walk_at "z.vw")); (focus (injection "z.op"))))
local macro_rules | `(tactic| fail "z.s") => `(tactic| ((with_reducible apply w_w); (focus (walk_at "z.at")); (focus (walk_at "z.vw"))))
local macro_rules | `(tactic| fail "z.s") => `(tactic| ((with_reducible apply w_npo); (focus (walk_at "z.at")); (focus (walk_at "z.fz")); (focus (walk_at "z.at"))))
local macro_rules | `(tactic| fail "z.s") => `(tactic| ((with_reducible apply w_no); (focus (walk_at "z.at")); (focus (walk_at "z.fz")); (focus (walk_at "z.at"))))
local macro_rules | `(tactic| fail "z.s") => `(tactic| ((with_reducible apply w_np); (focus (walk_at "z.at"))))
local macro_rules | `(tactic| fail "z.s") => `(tactic| ((with_reducible apply w_nl); (focus (walk_at "z.at"))))
local macro_rules | `(tactic| fail "z.s") => `(tactic| ((with_reducible apply w_an); (focus (walk_at "z.at"))))
local macro_rules | `(tactic| fail "z.s") => `(tactic| (with_reducible apply br_f'))
local macro_rules | `(tactic| fail "z.s") => `(tactic| (with_reducible apply br_t'))
local macro_rules | `(tactic| fail "z.s") => `(tactic| (with_reducible apply br_f))
local macro_rules | `(tactic| fail "z.s") => `(tactic| (with_reducible apply br_t))
local macro_rules | `(tactic| fail "z.s") => `(tactic| (with_reducible apply sq_ct))
local macro_rules | `(tactic| fail "z.s") => `(tactic| (with_reducible apply sq_bk))
local macro_rules | `(tactic| fail "z.s") => `(tactic| (with_reducible apply w_setP))
local macro_rules | `(tactic| fail "z.s") => `(tactic| (with_reducible apply w_rvd))
local macro_rules | `(tactic| fail "z.s") => `(tactic| (with_reducible apply w_con))
local macro_rules | `(tactic| fail "z.s") => `(tactic| (with_reducible apply w_brk))
local macro_rules | `(tactic| fail "z.s") => `(tactic| (with_reducible apply w_chain))
local macro_rules | `(tactic| fail "z.s") => `(tactic| (with_reducible apply w_dput))
local macro_rules | `(tactic| fail "z.s") => `(tactic| (with_reducible apply w_din))
local macro_rules | `(tactic| fail "z.s") => `(tactic| (with_reducible apply w_dnewT))
local macro_rules | `(tactic| fail "z.s") => `(tactic| (with_reducible apply w_dnewK))
local macro_rules | `(tactic| fail "z.s") => `(tactic| (with_reducible apply w_kt))
local macro_rules | `(tactic| fail "z.s") => `(tactic| (with_reducible apply w_kk))
local macro_rules | `(tactic| fail "z.s") => `(tactic| (with_reducible apply w_kv))
local macro_rules | `(tactic| fail "z.s") => `(tactic| (with_reducible apply ex_str))
local macro_rules | `(tactic| fail "z.s") => `(tactic| (with_reducible apply ex_int))
local macro_rules | `(tactic| fail "z.s") => `(tactic| (with_reducible apply ex_bl))
local macro_rules | `(tactic| fail "z.s") => `(tactic| (with_reducible apply pt_v))
local macro_rules | `(tactic| fail "z.s") => `(tactic| (with_reducible apply pt_nil))
local macro_rules | `(tactic| fail "z.s") => `(tactic| (with_reducible apply tk_v))
local macro_rules | `(tactic| fail "z.s") => `(tactic| (with_reducible apply tk_nil))
local macro_rules | `(tactic| fail "z.s") => `(tactic| (with_reducible apply sq_ret))
local macro_rules | `(tactic| fail "z.s") => `(tactic| (with_reducible apply sq_nx))
local macro_rules | `(tactic| fail "z.s") => `(tactic| (with_reducible apply w_rng1))
local macro_rules | `(tactic| fail "z.s") => `(tactic| (with_reducible apply w_seqI))
local macro_rules | `(tactic| fail "z.s") => `(tactic| (with_reducible apply w_for))
local macro_rules | `(tactic| fail "z.s") => `(tactic| (with_reducible apply w_sl))
local macro_rules | `(tactic| fail "z.s") => `(tactic| (with_reducible apply w_op1))
local macro_rules | `(tactic| fail "z.s") => `(tactic| (with_reducible apply w_no1))
local macro_rules | `(tactic| fail "z.s") => `(tactic| (with_reducible apply w_andV))
local macro_rules | `(tactic| fail "z.s") => `(tactic| (with_reducible apply w_notV))
local macro_rules | `(tactic| fail "z.s") => `(tactic| (with_reducible apply w_yes))
local macro_rules | `(tactic| fail "z.s") => `(tactic| (with_reducible apply w_orT))
local macro_rules | `(tactic| fail "z.s") => `(tactic| (with_reducible apply w_andT))
local macro_rules | `(tactic| fail "z.s") => `(tactic| (with_reducible apply w_not))
local macro_rules | `(tactic| fail "z.s") => `(tactic| (with_reducible apply w_tb))
local macro_rules | `(tactic| fail "z.s") => `(tactic| (with_reducible apply w_lnil))
local macro_rules | `(tactic| fail "z.s") => `(tactic| (with_reducible apply w_lcons))
local macro_rules | `(tactic| fail "z.s") => `(tactic| (with_reducible apply w_lst))
local macro_rules | `(tactic| fail "z.s") => `(tactic| (with_reducible apply w_tup))
local macro_rules | `(tactic| fail "z.s") => `(tactic| (with_reducible apply w_notN))
local macro_rules | `(tactic| fail "z.s") => `(tactic| (with_reducible apply w_isN))
local macro_rules | `(tactic| fail "z.s") => `(tactic| (with_reducible apply w_un))
local macro_rules | `(tactic| fail "z.s") => `(tactic| (with_reducible apply w_op))
local macro_rules | `(tactic| fail "z.s") => `(tactic| (with_reducible apply w_asg))
local macro_rules | `(tactic| fail "z.s") => `(tactic| (with_reducible apply w_P))
local macro_rules | `(tactic| fail "z.s") => `(tactic| (with_reducible apply w_V))
local macro_rules | `(tactic| fail "z.s") => `(tactic| (with_reducible apply w_c))
local macro_rules | `(tactic| fail "z.s") => `(tactic| (with_reducible apply w_anil))
local macro_rules | `(tactic| fail "z.s") => `(tactic| (with_reducible apply w_ae))
local macro_rules | `(tactic| fail "z.s") => `(tactic| (with_reducible apply w_call))
local macro_rules | `(tactic| fail "z.s") => `(tactic| (with_reducible apply w_drop))
local macro_rules | `(tactic| fail "z.s") => `(tactic| (with_reducible apply w_ret))
local macro_rules | `(tactic| fail "z.s") => `(tactic| (with_reducible apply w_seq))
local macro_rules | `(tactic| fail "z.s") => `(tactic| (with_reducible apply w_nil))
local macro_rules | `(tactic| fail "z.s") => `(tactic| (with_reducible apply w_dsubE))
local macro_rules | `(tactic| walk_at "z.g") => `(tactic| (with_reducible apply w_ifE))
local macro_rules | `(tactic| walk_at "z.g") => `(tactic| (with_reducible apply w_if))
local macro_rules | `(tactic| walk_at "z.g") => `(tactic| fail "z.s")
local macro_rules | `(tactic| walk_at "z.go") => `(tactic| (repeat (walk_at "z.g")))
local macro_rules | `(tactic| walk_at "z.gi") => `(tactic| (repeat (fail "z.s")))
local macro_rules | `(tactic| exists "z.sa") => `(tactic| ((with_reducible apply and_len); (focus (first | exact Nat.le_of_ble_eq_true rfl | assumption))))
local macro_rules | `(tactic| exists "z.sa") => `(tactic| ((with_reducible apply ex_tup); (focus (first | exact Nat.le_of_ble_eq_true rfl | assumption)); (focus ((repeat (first | with_reducible exact mk_nil | with_reducible apply mk_cons)); done))))
local macro_rules | `(tactic| exists "z.sa") => `(tactic| (with_reducible refine ⟨_, rfl, ?_⟩))
local macro_rules | `(tactic| exists "z.sa") => `(tactic| ((with_reducible apply ex_kt); (focus (exact Nat.le_of_ble_eq_true rfl)); (focus rfl)))
local macro_rules | `(tactic| exists "z.sa") => `(tactic| ((with_reducible apply w_mv); (focus (walk_at "z.at")); (focus rfl); (focus (walk_at "z.at"))))
local macro_rules | `(tactic| exists "z.sa") => `(tactic| ((with_reducible apply ex_dpP); (focus (walk_at "z.at")); (focus (walk_at "z.at")); (focus (first | injection "z.op" | assumption)); (focus (walk_at "z.at"))))
local macro_rules | `(tactic| exists "z.sa") => `(tactic| ((with_reducible apply ex_dpL); (focus (walk_at "z.at")); (focus (walk_at "z.at")); (focus (first | injection "z.op" | assumption)); (focus (walk_at "z.at"))))
local macro_rules | `(tactic| exists "z.sa") => `(tactic| ((with_reducible apply ex_din); (focus (walk_at "z.at")); (focus (first | injection "z.op" | assumption))))
local macro_rules | `(tactic| exists "z.sa") => `(tactic| ((with_reducible apply ex_dsub); (focus (walk_at "z.at")); (focus (first | injection "z.op" | assumption))))
local macro_rules | `(tactic| exists "z.sa") => `(tactic| ((with_reducible apply ex_dg2); (focus (walk_at "z.at")); (focus (first | injection "z.op" | assumption)); (focus (first | injection "z.op" | assumption))))
local macro_rules | `(tactic| exists "z.sa") => `(tactic| ((with_reducible apply w_dget2); (focus (walk_at "z.at")); (focus rfl)))
local macro_rules | `(tactic| exists "z.sa") => `(tactic| ((with_reducible apply w_dsub); (focus (walk_at "z.at"))))
local macro_rules | `(tactic| exists "z.sa") => `(tactic| ((with_reducible apply ex2); (focus (first | injection "z.op" | assumption))))
local macro_rules | `(tactic| exists "z.sa") => `(tactic| ((with_reducible apply ex2); (focus (walk_at "z.fz"))))
local macro_rules | `(tactic| exists "z.sa") => `(tactic| ((with_reducible apply ex_muP); (focus (walk_at "z.at")); (focus (first | injection "z.op" | assumption)); (focus (walk_at "z.at"))))
local macro_rules | `(tactic| exists "z.sa") => `(tactic| ((with_reducible apply ex_muL); (focus (walk_at "z.at")); (focus (first | injection "z.op" | assumption)); (focus (walk_at "z.at"))))
local macro_rules | `(tactic| exists "z.sa") => `(tactic| ((with_reducible apply ex_viewL); (focus (walk_at "z.at")); (focus (walk_at "z.vw")); (focus (first | injection "z.op" | assumption))))
local macro_rules | `(tactic| exists "z.sa") => `(tactic| ((with_reducible apply ex_view); (focus (walk_at "z.at")); (focus (walk_at "z.vw")); (focus (first | injection "z.op" | assumption))))
local macro_rules | `(tactic| exists "z.sa") => `(tactic| ((with_reducible apply ex2); (with_reducible apply put_l); (focus (walk_at "z.at")); (focus (first | with_reducible assumption | exact (rfl : _ = some 0) | exact (rfl : _ = some 1) | exact (rfl : _ = some 2) | exact (rfl : _ = some 3))); (focus ((repeat (first | with_reducible exact SetL.z _ _ _ | with_reducible apply SetL.s)); done)); (focus (walk_at "z.at"))))
local macro_rules | `(tactic| exists "z.sa") => `(tactic| ((with_reducible apply ex2); (with_reducible apply put_p); (focus (walk_at "z.at")); (focus (first | with_reducible assumption | exact (rfl : _ = some 0) | exact (rfl : _ = some 1) | exact (rfl : _ = some 2) | exact (rfl : _ = some 3))); (focus ((repeat (first | with_reducible exact SetL.z _ _ _ | with_reducible apply SetL.s)); done)); (focus (walk_at "z.at"))))
local macro_rules | `(tactic| exists "z.sa") => `(tactic| ((with_reducible apply w_forNo); (focus (walk_at "z.at")); (focus rfl); (focus (walk_at "z.at"))))
local macro_rules | `(tactic| exists "z.sa") => `(tactic| ((with_reducible apply w_forNv); (focus (walk_at "z.at")); (focus (first | with_reducible exact se_lst _ | with_reducible exact se_tup _ | with_reducible exact se_scr _))))
local macro_rules | `(tactic| exists "z.sa") => `(tactic| ((with_reducible apply and_at); (focus (walk_at "z.at"))))
local macro_rules | `(tactic| exists "z.sa") => `(tactic| ((with_reducible apply ex2); (focus (walk_at "z.at"))))
local macro_rules | `(tactic| exists "z.sa") => `(tactic| ((with_reducible apply w_aug); (focus (walk_at "z.at"))))
local macro_rules | `(tactic| exists "z.sa") => `(tactic| ((with_reducible apply w_augS); (focus (walk_at "z.at"))))
local macro_rules | `(tactic| exists "z.sa") => `(tactic| ((with_reducible apply w_set); (focus (walk_at "z.at"))))
local macro_rules | `(tactic| exists "z.sa") => `(tactic| ((with_reducible apply w_muP); (focus (walk_at "z.at"))))
local macro_rules | `(tactic| exists "z.sa") => `(tactic| ((with_reducible apply w_muL); (focus (walk_at "z.at"))))
local macro_rules | `(tactic| exists "z.sa") => `(tactic| ((with_reducible apply pt_p); (focus (walk_at "z.at"))))
local macro_rules | `(tactic| exists "z.sa") => `(tactic| ((with_reducible apply pt_l); (focus (walk_at "z.at"))))
local macro_rules | `(tactic| exists "z.sa") => `(tactic| ((with_reducible apply pt_un); (focus (walk_at "z.at")); (focus (walk_at "z.at"))))
local macro_rules | `(tactic| exists "z.sa") => `(tactic| ((with_reducible apply pt_hol); (focus (walk_at "z.at")); (focus (walk_at "z.at"))))
local macro_rules | `(tactic| exists "z.sa") => `(tactic| ((with_reducible apply tk_parS); (focus (walk_at "z.at")); (focus (walk_at "z.at"))))
local macro_rules | `(tactic| exists "z.sa") => `(tactic| ((with_reducible apply tk_locS); (focus (walk_at "z.at")); (focus (walk_at "z.at"))))
local macro_rules | `(tactic| exists "z.sa") => `(tactic| ((with_reducible apply tk_par); (focus (walk_at "z.at")); (focus (walk_at "z.at"))))
local macro_rules | `(tactic| exists "z.sa") => `(tactic| ((with_reducible apply tk_loc); (focus (walk_at "z.at")); (focus (walk_at "z.at"))))
local macro_rules | `(tactic| exists "z.sa") => `(tactic| ((with_reducible apply tk_val); (focus (walk_at "z.at"))))
local macro_rules | `(tactic| exists "z.sa") => `(tactic| ((with_reducible apply w_slN); (focus (walk_at "z.at"))))
local macro_rules | `(tactic| exists "z.sa") => `(tactic| ((with_reducible apply w_opN); (focus (walk_at "z.at"))))
local macro_rules | `(tactic| exists "z.sa") => `(tactic| ((with_reducible apply w_opC); (focus (walk_at "z.at")); (focus (walk_at "z.vw")); (focus (first | injection "z.op" | assumption))))
local macro_rules | `(tactic| exists "z.sa") => `(tactic| ((with_reducible apply w_w); (focus (walk_at "z.at")); (focus (walk_at "z.vw"))))
local macro_rules | `(tactic| exists "z.sa") => `(tactic| ((with_reducible apply w_npo); (focus (walk_at "z.at")); (focus (walk_at "z.fz")); (focus (walk_at "z.at"))))
local macro_rules | `(tactic| exists "z.sa") => `(tactic| ((with_reducible apply w_no); (focus (walk_at "z.at")); (focus (walk_at "z.fz")); (focus (walk_at "z.at"))))
local macro_rules | `(tactic| exists "z.sa") => `(tactic| ((with_reducible apply w_np); (focus (walk_at "z.at"))))
local macro_rules | `(tactic| exists "z.sa") => `(tactic| ((with_reducible apply w_nl); (focus (walk_at "z.at"))))
local macro_rules | `(tactic| exists "z.sa") => `(tactic| ((with_reducible apply w_an); (focus (walk_at "z.at"))))
local macro_rules | `(tactic| exists "z.sa") => `(tactic| (with_reducible apply br_f'))
local macro_rules | `(tactic| exists "z.sa") => `(tactic| (with_reducible apply br_t'))
local macro_rules | `(tactic| exists "z.sa") => `(tactic| (with_reducible apply br_f))
local macro_rules | `(tactic| exists "z.sa") => `(tactic| (with_reducible apply br_t))
local macro_rules | `(tactic| exists "z.sa") => `(tactic| (with_reducible apply sq_ct))
local macro_rules | `(tactic| exists "z.sa") => `(tactic| (with_reducible apply sq_bk))
local macro_rules | `(tactic| exists "z.sa") => `(tactic| (with_reducible apply w_setP))
local macro_rules | `(tactic| exists "z.sa") => `(tactic| (with_reducible apply w_rvd))
local macro_rules | `(tactic| exists "z.sa") => `(tactic| (with_reducible apply w_con))
local macro_rules | `(tactic| exists "z.sa") => `(tactic| (with_reducible apply w_brk))
local macro_rules | `(tactic| exists "z.sa") => `(tactic| (with_reducible apply w_chain))
local macro_rules | `(tactic| exists "z.sa") => `(tactic| (with_reducible apply w_ifE))
local macro_rules | `(tactic| exists "z.sa") => `(tactic| (with_reducible apply w_dput))
local macro_rules | `(tactic| exists "z.sa") => `(tactic| (with_reducible apply w_din))
local macro_rules | `(tactic| exists "z.sa") => `(tactic| (with_reducible apply w_dnewT))
local macro_rules | `(tactic| exists "z.sa") => `(tactic| (with_reducible apply w_dnewK))
local macro_rules | `(tactic| exists "z.sa") => `(tactic| (with_reducible apply w_kt))
local macro_rules | `(tactic| exists "z.sa") => `(tactic| (with_reducible apply w_kk))
local macro_rules | `(tactic| exists "z.sa") => `(tactic| (with_reducible apply w_kv))
local macro_rules | `(tactic| exists "z.sa") => `(tactic| (with_reducible apply ex_str))
local macro_rules | `(tactic| exists "z.sa") => `(tactic| (with_reducible apply ex_int))
local macro_rules | `(tactic| exists "z.sa") => `(tactic| (with_reducible apply ex_bl))
local macro_rules | `(tactic| exists "z.sa") => `(tactic| (with_reducible apply pt_v))
local macro_rules | `(tactic| exists "z.sa") => `(tactic| (with_reducible apply pt_nil))
local macro_rules | `(tactic| exists "z.sa") => `(tactic| (with_reducible apply tk_v))
local macro_rules | `(tactic| exists "z.sa") => `(tactic| (with_reducible apply tk_nil))
local macro_rules | `(tactic| exists "z.sa") => `(tactic| (with_reducible apply sq_ret))
local macro_rules | `(tactic| exists "z.sa") => `(tactic| (with_reducible apply sq_nx))
local macro_rules | `(tactic| exists "z.sa") => `(tactic| (with_reducible apply w_rng1))
local macro_rules | `(tactic| exists "z.sa") => `(tactic| (with_reducible apply w_seqI))
local macro_rules | `(tactic| exists "z.sa") => `(tactic| (with_reducible apply w_for))
local macro_rules | `(tactic| exists "z.sa") => `(tactic| (with_reducible apply w_sl))
local macro_rules | `(tactic| exists "z.sa") => `(tactic| (with_reducible apply w_op1))
local macro_rules | `(tactic| exists "z.sa") => `(tactic| (with_reducible apply w_no1))
local macro_rules | `(tactic| exists "z.sa") => `(tactic| (with_reducible apply w_andV))
local macro_rules | `(tactic| exists "z.sa") => `(tactic| (with_reducible apply w_notV))
local macro_rules | `(tactic| exists "z.sa") => `(tactic| (with_reducible apply w_yes))
local macro_rules | `(tactic| exists "z.sa") => `(tactic| (with_reducible apply w_orT))
local macro_rules | `(tactic| exists "z.sa") => `(tactic| (with_reducible apply w_andT))
local macro_rules | `(tactic| exists "z.sa") => `(tactic| (with_reducible apply w_not))
local macro_rules | `(tactic| exists "z.sa") => `(tactic| (with_reducible apply w_tb))
local macro_rules | `(tactic| exists "z.sa") => `(tactic| (with_reducible apply w_lnil))
local macro_rules | `(tactic| exists "z.sa") => `(tactic| (with_reducible apply w_lcons))
local macro_rules | `(tactic| exists "z.sa") => `(tactic| (with_reducible apply w_lst))
local macro_rules | `(tactic| exists "z.sa") => `(tactic| (with_reducible apply w_tup))
local macro_rules | `(tactic| exists "z.sa") => `(tactic| (with_reducible apply w_notN))
local macro_rules | `(tactic| exists "z.sa") => `(tactic| (with_reducible apply w_isN))
local macro_rules | `(tactic| exists "z.sa") => `(tactic| (with_reducible apply w_un))
local macro_rules | `(tactic| exists "z.sa") => `(tactic| (with_reducible apply w_op))
local macro_rules | `(tactic| exists "z.sa") => `(tactic| (with_reducible apply w_asg))
local macro_rules | `(tactic| exists "z.sa") => `(tactic| (with_reducible apply w_P))
local macro_rules | `(tactic| exists "z.sa") => `(tactic| (with_reducible apply w_V))
local macro_rules | `(tactic| exists "z.sa") => `(tactic| (with_reducible apply w_c))
local macro_rules | `(tactic| exists "z.sa") => `(tactic| (with_reducible apply w_anil))
local macro_rules | `(tactic| exists "z.sa") => `(tactic| (with_reducible apply w_ae))
local macro_rules | `(tactic| exists "z.sa") => `(tactic| (with_reducible apply w_call))
local macro_rules | `(tactic| exists "z.sa") => `(tactic| (with_reducible apply w_drop))
local macro_rules | `(tactic| exists "z.sa") => `(tactic| (with_reducible apply w_ret))
local macro_rules | `(tactic| exists "z.sa") => `(tactic| (with_reducible apply w_if))
local macro_rules | `(tactic| exists "z.sa") => `(tactic| (with_reducible apply w_seq))
local macro_rules | `(tactic| exists "z.sa") => `(tactic| (with_reducible apply w_nil))
local macro_rules | `(tactic| exists "z.sa") => `(tactic| (with_reducible apply w_dsubE))
local macro_rules | `(tactic| walk_at "z.ga") => `(tactic| (repeat (exists "z.sa")))

--go:old

structure Dw where
  ns : List Int
  at_ : Nat
  c : Int
  s : Int
def dl (d : Dw) : List D := [.val (.lst (d.ns.map .int)), .val (.int d.at_), .val (.int d.c), .val (.int d.s)]
theorem draw_end {n k a : Int} (h : 0 < n) {ns : List Int} {c s : Int} {r : Z.Env} {x : List D} (ha : 0 ≤ a) {R : D → List D → Prop} (q : ∀ (k : Int) (d' : Dw), 0 ≤ k → k < n → R (.val (.int k)) [.olst (dl d'), .val (.int n)]) : ∃ d ds', (Out.ret (D.val (.int (k.fmod n))) = .ret d ∨ Out.ret (D.val (.int (k.fmod n))) = .nx ∧ d = .val .non) ∧
    outs [.olst x, .val (.int n)] (.par (.olst [.val (.lst (ns.map .int)), .val (.int a), .val (.int c), .val (.int s)]) :: .par (.val (.int n)) :: r) = some ds' ∧ R d ds' := by
  refine ⟨_, _, .inl rfl, rfl, ?_⟩
  have := q (k.fmod n) ⟨ns, a.toNat, c, s⟩ (Int.fmod_nonneg_of_pos _ h) (Int.fmod_lt_of_pos _ h)
  unfold dl at this
  simpa only [Int.toNat_of_nonneg ha] using this

theorem gs_draw {d : Dw} {n : Int} {R : D → List D → Prop} (h1 : 0 < n) (h2 : n < 1073741824) (q : ∀ (k : Int) (d' : Dw), 0 ≤ k → k < n → R (.val (.int k)) [.olst (dl d'), .val (.int n)]) : Gs (m_law_draw [.olst (dl d), .val (.int n)]) R := by
  obtain ⟨ns, a, c, s⟩ := d
  have hn : n ≠ 0 := by omega
  have hn2 : n ≠ 0 ∧ n.natAbs < 1073741824 := by omega
  have ha : 0 ≤ (a : Int) := by omega
  have ha1 : 0 ≤ (a : Int) + 1 := by omega
  unfold m_law_draw bm_law_draw
  apply gs_fn rfl
  simp only [List.map_cons, List.map_nil, List.replicate, List.cons_append, List.nil_append, Nat.reduceSub, List.length_cons, List.length_nil, Nat.zero_add, Nat.reduceAdd]
  unfold dl
  walk_at "z.ga"
  refine ⟨fun hc => ?_, fun hc => ?_⟩
  · walk_at "z.ga"
    exact draw_end h1 ha q
  · walk_at "z.ga"
    refine ⟨fun hc2 => ?_, fun hc2 => ?_⟩
    · have hi : a < ns.length := by simpa using hc2
      have hx : atI (ns.map P.int) a = some (.int ns[a]) := by simp [atI, ixN, hi]
      walk_at "z.ga"
      refine ⟨fun hc3 => ?_, fun hc3 => ?_⟩
      · walk_at "z.ga"
        exact draw_end h1 ha1 q
      · walk_at "z.ga"
        exact draw_end h1 ha1 q
    · walk_at "z.ga"
      refine ⟨fun hc3 => ?_, fun hc3 => ?_⟩
      · walk_at "z.ga"
        exact draw_end h1 ha1 q
      · walk_at "z.ga"
        exact draw_end h1 ha1 q
theorem at_some {α : Type} {xs : List α} {k : Int} (h0 : 0 ≤ k) (h : k < xs.length) : ∃ x ∈ xs, atI xs k = some x := by
  have hk : k.toNat < xs.length := (by omega)
  refine ⟨xs[k.toNat], List.getElem_mem hk, ?_⟩
  simp [atI, ixN, h0, h, hk]
theorem pos_len {α : Type} {xs : List α} (h : xs ≠ []) : 0 < (xs.length : Int) := by
  have := List.length_pos_iff.mpr h
  omega
theorem gs_pick_l {d : Dw} {ps : List P} {R : D → List D → Prop} (h1 : ps ≠ []) (h2 : (ps.length : Int) < 1073741824) (q : ∀ p ∈ ps, ∀ d' : Dw, R (.val p) [.olst (dl d'), .val (.lst ps)]) : Gs (m_law_pick [.olst (dl d), .val (.lst ps)]) R := by
  have h0 := pos_len h1
  unfold m_law_pick bm_law_pick
  apply gs_fn rfl
  simp only [List.map_cons, List.map_nil, List.replicate, List.cons_append, List.nil_append, Nat.reduceSub, List.length_cons, List.length_nil, Nat.zero_add, Nat.reduceAdd]
  walk_at "z.ga"
  refine gs_draw h0 h2 fun k d' hk0 hk1 => ?_
  obtain ⟨x, hx, hx2⟩ := at_some hk0 hk1
  walk_at "z.ga"
  exact ⟨_, _, .inl rfl, rfl, q x hx d'⟩
theorem gs_pick_o {d : Dw} {ds : List D} {ps : List P} {R : D → List D → Prop} (hv : viewD (.olst ds) = some (.lst ps)) (h1 : ps ≠ []) (h2 : (ps.length : Int) < 1073741824) (q : ∀ p ∈ ps, ∀ d' : Dw, R (.val p) [.olst (dl d'), .olst ds]) : Gs (m_law_pick [.olst (dl d), .olst ds]) R := by
  have h0 := pos_len h1
  unfold m_law_pick bm_law_pick
  apply gs_fn rfl
  simp only [List.map_cons, List.map_nil, List.replicate, List.cons_append, List.nil_append, Nat.reduceSub, List.length_cons, List.length_nil, Nat.zero_add, Nat.reduceAdd]
  walk_at "z.ga"
  refine w_w (.s _ (.p _ _)) hv ?_
  walk_at "z.ga"
  refine gs_draw h0 h2 fun k d' hk0 hk1 => ?_
  obtain ⟨x, hx, hx2⟩ := at_some hk0 hk1
  walk_at "z.ga"
  refine ex_view (.s _ (.p _ _)) hv (o_ixl hx2) ?_
  walk_at "z.ga"
  exact ⟨_, _, .inl rfl, rfl, q x hx d'⟩
theorem erase_map {α β : Type} (F : α → β) : ∀ (xs : List α) (k : Nat), (xs.map F).eraseIdx k = (xs.eraseIdx k).map F
  | [], _ => rfl
  | x :: xs, 0 => rfl
  | x :: xs, k + 1 => by simp [erase_map F xs k]
def nl (ss : List Str) : List D := (ss.map P.str).map .val
theorem gs_pop {d : Dw} {ss : List Str} {R : D → List D → Prop} (h1 : ss ≠ []) (h2 : (ss.length : Int) < 1073741824) (q : ∀ (s : Str) (ss' : List Str) (d' : Dw), s ∈ ss → ss'.length + 1 = ss.length → R (.val (.str s)) [.olst (dl d'), .olst (nl ss')]) : Gs (m_law_pop [.olst (dl d), .olst (nl ss)]) R := by
  have h0 : 0 < ((ss.map P.str).length : Int) := by simpa using pos_len h1
  have h2' : ((ss.map P.str).length : Int) < 1073741824 := by simpa using h2
  unfold m_law_pop bm_law_pop nl
  apply gs_fn rfl
  simp only [List.map_cons, List.map_nil, List.replicate, List.cons_append, List.nil_append, Nat.reduceSub, List.length_cons, List.length_nil, Nat.zero_add, Nat.reduceAdd]
  walk_at "z.ga"
  refine gs_draw h0 h2' fun k d' hk0 hk1 => ?_
  have hk : k.toNat < ss.length := by simp at hk1; omega
  have hp : hPopAt (nl ss) [.val (.int k)] = some (.val (.str ss[k.toNat]), nl (ss.eraseIdx k.toNat)) := by
    have h3 : -(2 ^ 63) ≤ k ∧ k < 2 ^ 63 := by simp at hk1; omega
    have h4 : (nl ss).length = ss.length := by simp [nl]
    have h5 : seqIndex? k (nl ss).length = some k.toNat := by
      rw [h4]; unfold seqIndex?
      simp at hk1
      simp [hk0]; omega
    unfold hPopAt
    simp only [if_pos h3, h5, Option.bind_some]
    simp [nl, hk, erase_map]
  walk_at "z.ga"
  exact ⟨_, _, .inl rfl, rfl, q _ _ d' (List.getElem_mem hk) (by rw [List.length_eraseIdx]; simp [hk]; omega)⟩
theorem gs_rare {d : Dw} {n : Int} {R : D → List D → Prop} (h1 : 0 < n) (h2 : n < 1073741824) (q : ∀ (b : Bool) (d' : Dw), R (.val (.bl b)) [.olst (dl d'), .val (.int n)]) : Gs (m_law_rare [.olst (dl d), .val (.int n)]) R := by
  unfold m_law_rare bm_law_rare
  apply gs_fn rfl
  simp only [List.map_cons, List.map_nil, List.replicate, List.cons_append, List.nil_append, Nat.reduceSub, List.length_cons, List.length_nil, Nat.zero_add, Nat.reduceAdd]
  walk_at "z.ga"
  refine gs_draw h1 h2 fun k d' hk0 hk1 => ?_
  walk_at "z.ga"
  exact ⟨_, _, .inl rfl, rfl, q _ _⟩
def poolT : Str := "a b2 town road r k0 seat z9z full tail n m8 aa busy shop p t4 even2 ab1 ship u v2 w lane high mid " ++ "s t e f g h j x y q7 deep turn gate l5 hold next1 c0 d2 two zz1 near far9 last ring2 aaaaaaa8"
theorem pool_len : (Txt.split poolT " ").length = 51 := by
  unfold Txt.split
  simp only [PySem.StrLaws.occ_eq]
  decide +kernel
theorem gs_pool {R : D → List D → Prop} (q : ∀ ss : List Str, ss.length = 51 → R (.olst (nl ss)) []) : Gs (m_law_pool []) R := by
  have h1 : gAdd (.str "a b2 town road r k0 seat z9z full tail n m8 aa busy shop p t4 even2 ab1 ship u v2 w lane high mid ") (.str "s t e f g h j x y q7 deep turn gate l5 hold next1 c0 d2 two zz1 near far9 last ring2 aaaaaaa8") = some (.val (.str poolT)) := o_adds (by decide +kernel)
  have h2 : gSplit (.str poolT) (.str " ") = some (.olst (nl (Txt.split poolT " "))) := o_split (by decide +kernel)
  have pool_len' := pool_len
  unfold m_law_pool bm_law_pool
  apply gs_fn (np := 0) (n := 1) rfl
  simp only [List.map_cons, List.map_nil, List.replicate, List.cons_append, List.nil_append, Nat.reduceSub, List.length_cons, List.length_nil, Nat.zero_add, Nat.reduceAdd]
  generalize Txt.split poolT " " = ss at *
  walk_at "z.ga"
  exact ⟨_, _, .inl rfl, rfl, q _ pool_len'⟩

--go:old

structure Lab where
  nm : Str
  a : Nat
  b : Nat
  pr : Int
  rule : Str
def labP (l : Lab) : P := .tup [.str l.nm, .int l.a, .int l.b, .int l.pr, .str l.rule]
def kindP (k : Str × Nat) : P := .tup [.str k.1, .int k.2]
def schP (ks : List (Str × Nat)) (ls : List Lab) : P := .tup [.str "schema", .tup (ks.map kindP), .tup (ls.map labP)]
theorem ix_s1 (ks : List (Str × Nat)) (ls : List Lab) : gIx (schP ks ls) (.int 1) = some (.val (.tup (ks.map kindP))) := rfl
theorem ix_s2 (ks : List (Str × Nat)) (ls : List Lab) : gIx (schP ks ls) (.int 2) = some (.val (.tup (ls.map labP))) := rfl
theorem ix_k0 (k : Str × Nat) : gIx (kindP k) (.int 0) = some (.val (.str k.1)) := rfl
theorem ix_k1 (k : Str × Nat) : gIx (kindP k) (.int 1) = some (.val (.int k.2)) := rfl
theorem ix_l0 (b : Lab) : gIx (labP b) (.int 0) = some (.val (.str b.nm)) := rfl
theorem ix_l1 (b : Lab) : gIx (labP b) (.int 1) = some (.val (.int b.a)) := rfl
theorem ix_l2 (b : Lab) : gIx (labP b) (.int 2) = some (.val (.int b.b)) := rfl
theorem ix_l3 (b : Lab) : gIx (labP b) (.int 3) = some (.val (.int b.pr)) := rfl
theorem ix_l4 (b : Lab) : gIx (labP b) (.int 4) = some (.val (.str b.rule)) := rfl
def firstL (ks : List (Str × Nat)) (k : Nat) : Int := ((ks.take k).map fun x => (x.2 : Int)).sum
def nodesL (ks : List (Str × Nat)) (k : Nat) : List Int := (List.range ((ks[k]?.map (·.2)).getD 0)).map fun j => firstL ks k + (j : Nat)
structure WfS (ks : List (Str × Nat)) (ls : List Lab) : Prop where
  kl : ks.length ≤ 6
  kz : ∀ k ∈ ks, k.2 ≤ 24
  ll : ls.length ≤ 12
  lab : ∀ l ∈ ls, l.a < ks.length ∧ l.b < ks.length
theorem nodes_len {ks : List (Str × Nat)} {ls : List Lab} (h : WfS ks ls) (k : Nat) : (nodesL ks k).length ≤ 24 := by
  simp only [nodesL, List.length_map, List.length_range]
  cases g : ks[k]? with
  | none => simp
  | some x => simpa using h.kz x (List.mem_of_getElem? g)
theorem cut_take {α : Type} (xs : List α) (k : Nat) : cutP xs none (some (k : Int)) = xs.take k := by
  unfold cutP
  have h0 : HT.sIx xs.length 0 none = 0 := rfl
  rw [h0]
  have : HT.sIx xs.length xs.length (some (k : Int)) = min k xs.length := by
    simp only [HT.sIx]
    split <;> omega
  rw [this]
  simp [List.take_eq_take_iff]

theorem gs_first {ks : List (Str × Nat)} {ls : List Lab} {k : Nat} {R : D → List D → Prop} (h : WfS ks ls) (q : R (.val (.int (firstL ks k))) [.val (schP ks ls), .val (.int k)]) : Gs (m_law_first [.val (schP ks ls), .val (.int k)]) R := by
  have hs1 := ix_s1 ks ls
  have hs2 := ix_s2 ks ls
  unfold m_law_first bm_law_first; refine gs_fn (by rfl) ?_; walk_at "z.st"; walk_at "z.ga"
  refine w_compM kindP (fun k => .int k.2) ?_
  have h1 : cutP (ks.map kindP) none (some (k : Int)) = (ks.take k).map kindP := by rw [cut_take, List.map_take]
  walk_at "z.ga"
  refine ⟨⟨_, by walk_at "z.at", (by walk_at "z.ok")⟩, ?_, fun x hx => ?_, ?_⟩
  · have := h.kl
    have h2 : (ks.take k).length ≤ 6 := by simp; omega
    exact le_size h2 (by omega)
  · walk_at "z.cs"
    have hk1 := ix_k1 x
    walk_at "z.ga"
    exact ⟨rfl, rfl⟩
  · have h3 : ((ks.take k).map fun k => P.int k.2) = (((ks.take k).map fun x => (x.2 : Int)).map P.int) := by
      simp only [List.map_map]
      rfl
    rw [h3]
    walk_at "z.ga"
    exact ⟨_, _, .inl rfl, rfl, q⟩
theorem gs_nodes {ks : List (Str × Nat)} {ls : List Lab} {k : Nat} {R : D → List D → Prop} (h : WfS ks ls) (hk : k < ks.length) (q : R (.val (.lst ((nodesL ks k).map .int))) [.val (schP ks ls), .val (.int k)]) : Gs (m_law_nodes [.val (schP ks ls), .val (.int k)]) R := by
  unfold m_law_nodes bm_law_nodes; refine gs_fn (by rfl) ?_; walk_at "z.st"; walk_at "z.ga"
  refine gs_first h ?_
  walk_at "z.ga"
  refine w_compM (fun k : Nat => .int k) (fun j => .int (firstL ks k + (j : Nat))) ?_
  have h1 : atI (ks.map kindP) k = some (kindP ks[k]) := at_map (by simp [hk])
  have hs1 := ix_s1 ks ls
  have hs2 := ix_s2 ks ls
  have hz := ix_k1 ks[k]
  have hz := h.kz _ (List.getElem_mem hk)
  walk_at "z.ga"
  refine ⟨by omega, _, rfl, ?_⟩
  refine ⟨⟨_, by walk_at "z.at", (by walk_at "z.ok")⟩, ?_, fun x hx => ?_, ?_⟩
  · refine le_size (k := 24) ?_ (by omega)
    simpa using hz
  · walk_at "z.cs"
    walk_at "z.ga"
    exact ⟨rfl, rfl⟩
  · have h3 : ((List.range (ks[k].2 : Int).toNat).map fun j : Nat => P.int (firstL ks k + j)) = (nodesL ks k).map P.int := by
      simp only [nodesL, List.getElem?_eq_getElem hk, List.map_map, Int.toNat_natCast]
      rfl
    rw [h3]
    walk_at "z.ga"
    exact ⟨_, _, .inl rfl, rfl, q⟩
def letL (ks : List (Str × Nat)) (l : Nat) (b : Lab) : List (List Int) :=
  (nodesL ks b.a).flatMap fun s => ((nodesL ks b.b).filter fun t => b.rule != "mark" || s == t).map fun t => [s, (l : Int), t]
theorem let_len {ks : List (Str × Nat)} {ls : List Lab} (h : WfS ks ls) (l : Nat) (b : Lab) : (letL ks l b).length ≤ 576 := by
  have key : ∀ (ss : List Int), (ss.flatMap fun s => ((nodesL ks b.b).filter fun t => b.rule != "mark" || s == t).map fun t => [s, (l : Int), t]).length ≤ ss.length * 24 := by
    intro ss
    induction ss with
    | nil => simp
    | cons s ss ih =>
      simp only [List.flatMap_cons, List.length_append, List.length_map, List.length_cons]
      have h1 := nodes_len h b.b
      have h2 := List.length_filter_le (fun t => b.rule != "mark" || s == t) (nodesL ks b.b)
      omega
  have h1 := nodes_len h b.a
  have := key (nodesL ks b.a)
  unfold letL
  omega
theorem gs_let {ks : List (Str × Nat)} {ls : List Lab} {l : Nat} {R : D → List D → Prop} (h : WfS ks ls) (hl : l < ls.length) (q : R (.val (.lst ((letL ks l ls[l]).map tupI))) [.val (schP ks ls), .val (.int l)]) : Gs (m_law_let [.val (schP ks ls), .val (.int l)]) R := by
  have h1 : atI (ls.map labP) l = some (labP ls[l]) := at_map (by simp [hl])
  obtain ⟨ha, hb⟩ := h.lab _ (List.getElem_mem hl)
  have hlen := let_len h l ls[l]
  generalize ls[l] = b at *
  have hs1 := ix_s1 ks ls
  have hs2 := ix_s2 ks ls
  have hl1 := ix_l1 b
  have hl2 := ix_l2 b
  have hl3 := ix_l3 b
  have hl4 := ix_l4 b
  unfold m_law_let bm_law_let; refine gs_fn (by rfl) ?_; walk_at "z.st"; walk_at "z.ga"
  refine gs_nodes h ha ?_
  walk_at "z.ga"
  refine for_invM P.int (fun rest e => ∃ acc : List (List Int), ∃ s4 s5 : Sl, e = [.par (.val (schP ks ls)), .par (.val (.int l)), .loc (.val (labP b)), .loc (.olst ((acc.map tupI).map .val)), s4, s5] ∧
    acc ++ (rest.flatMap fun s => ((nodesL ks b.b).filter fun t => b.rule != "mark" || s == t).map fun t => [s, (l : Int), t]) = letL ks l b) _ _ ⟨[], .un, .un, rfl, rfl⟩ (fun s rest e hs hI => ?_) (fun e hI => ?_)
  · obtain ⟨acc, s4, s5, rfl, hacc⟩ := hI
    refine ⟨_, gN_set (by walk_at "z.at"), ?_⟩
    walk_at "z.ga"
    refine gs_nodes h hb ?_
    walk_at "z.ga"
    refine for_invM P.int (fun rest2 e => ∃ acc : List (List Int), ∃ s5 : Sl, e = [.par (.val (schP ks ls)), .par (.val (.int l)), .loc (.val (labP b)), .loc (.olst ((acc.map tupI).map .val)), .loc (.val (.int s)), s5] ∧
      (acc ++ (rest2.filter fun t => b.rule != "mark" || s == t).map fun t => [s, (l : Int), t]) ++ (rest.flatMap fun s => ((nodesL ks b.b).filter fun t => b.rule != "mark" || s == t).map fun t => [s, (l : Int), t]) = letL ks l b) _ _
      ⟨acc, s5, rfl, ?_⟩ (fun t rest2 e ht hI => ?_) (fun e hI => ?_)
    · rw [← hacc, List.flatMap_cons, List.append_assoc]
    · obtain ⟨acc2, s5, rfl, hacc2⟩ := hI
      refine ⟨_, gN_set (by walk_at "z.at"), ?_⟩
      walk_at "z.ga"
      have hlt : acc2.length < sizeLine := by
        have : acc2.length ≤ (letL ks l b).length := by
          rw [← hacc2]; simp only [List.length_append]; omega
        exact lt_size (Nat.le_trans this hlen) (by omega)
      have hpush : hApp ((acc2.map tupI).map .val) [.val (.tup [.int s, .int l, .int t])] = some (.val .non, ((acc2 ++ [[s, (l : Int), t]]).map tupI).map .val) := app_T [s, (l : Int), t] hlt
      refine ⟨fun hm => ?_, fun hm => ?_⟩
      · walk_at "z.ga"
        refine ⟨fun hm2 => ?_, fun hm2 => ?_⟩
        · walk_at "z.ga"
          refine .inl ⟨.inl rfl, _, _, rfl, ?_⟩
          rw [← hacc2, List.filter_cons_of_pos (by simp at hm2; simp [hm2])]
          simp
        · walk_at "z.ga"
          refine .inl ⟨.inl rfl, _, _, rfl, ?_⟩
          rw [← hacc2, List.filter_cons_of_neg (by simp at hm hm2; simp [hm, hm2])]
      · walk_at "z.ga"
        refine .inl ⟨.inl rfl, _, _, rfl, ?_⟩
        rw [← hacc2, List.filter_cons_of_pos (by simp at hm; simp [hm])]
        simp
    · obtain ⟨acc2, s5, rfl, hacc2⟩ := hI
      exact .inl ⟨.inl rfl, acc2, _, s5, rfl, by simpa using hacc2⟩
  · obtain ⟨acc, s4, s5, rfl, hacc⟩ := hI
    have hacc : acc = letL ks l b := by simpa using hacc
    subst hacc
    walk_at "z.ga"
    exact ⟨_, _, .inl rfl, rfl, q⟩

--go:old

structure SchF (ks : List (Str × Nat)) (ls : List Lab) : Prop where
  one : ∀ k ∈ ks, 1 ≤ k.2
  rule : ∀ l ∈ ls, l.rule = "many" ∨ l.rule = "single" ∨ l.rule = "mark"
  mark : ∀ l ∈ ls, l.rule = "mark" → l.a = l.b
  pr : ∀ l ∈ ls, 0 ≤ l.pr ∧ l.pr ≤ 9
theorem gs_schemaF {d : Dw} {kn lb mo : Int} {R : D → List D → Prop} (hk : 1 ≤ kn ∧ kn ≤ 6) (hlb : 1 ≤ lb ∧ lb ≤ 12) (hmo : 1 ≤ mo ∧ mo ≤ 24)
    (q : ∀ (ks : List (Str × Nat)) (ls : List Lab) (d' : Dw), WfS ks ls → (ks.length : Int) = kn → (ls.length : Int) = lb → (∀ k ∈ ks, (k.2 : Int) ≤ mo) → SchF ks ls → R (.val (schP ks ls)) [.olst (dl d'), .val (.int kn), .val (.int lb), .val (.int mo)]) :
    Gs (m_law_schema [.olst (dl d), .val (.int kn), .val (.int lb), .val (.int mo)]) R := by
  unfold m_law_schema bm_law_schema; refine gs_fn (by rfl) ?_; walk_at "z.st"; walk_at "z.ga"
  refine gs_pool fun ss hss => ?_
  walk_at "z.ga"
  refine ⟨by omega, ?_⟩
  refine for_invM (fun k : Nat => .int k) (fun rest e => ∃ (d : Dw) (ss : List Str) (ks : List (Str × Nat)) (s6 : Sl), e = [.par (.olst (dl d)), .par (.val (.int kn)), .par (.val (.int lb)), .par (.val (.int mo)), .loc (.olst (nl ss)), .loc (.olst ((ks.map kindP).map .val)), s6, .un, .un, .un, .un, .un, .un] ∧
    ss.length + ks.length = 51 ∧ ks.length + rest.length = kn.toNat ∧ ∀ k ∈ ks, (k.2 : Int) ≤ mo ∧ 1 ≤ k.2) _ _ ⟨d, ss, [], _, rfl, by simpa using hss, by simp, by simp⟩ (fun k rest e _ hI => ?_) (fun e hI => ?_)
  · obtain ⟨d, ss, ks, s6, rfl, h1, h2, h3⟩ := hI
    simp only [List.length_cons] at h2
    refine ⟨_, gN_set (by walk_at "z.at"), ?_⟩
    have hne : ss ≠ [] := fun h => by subst h; simp at h1; omega
    walk_at "z.ga"
    refine gs_pop hne (by omega) fun s ss' d' _ hss' => ?_
    walk_at "z.ga"
    refine gs_draw (by omega) (by omega) fun j d' hj0 hj1 => ?_
    walk_at "z.ga"
    have hpush : hApp ((ks.map kindP).map .val) [.val (.tup [.str s, .int (1 + j)])] = some (.val .non, ((ks ++ [(s, (1 + j).toNat)]).map kindP).map .val) := by
      rw [app_V (lt_size (k := 6) (by simp; omega) (by omega))]
      have : (((1 + j).toNat : Nat) : Int) = 1 + j := by omega
      simp [kindP, this]
    walk_at "z.ga"
    refine .inl ⟨.inl rfl, _, _, _, _, rfl, ?_, ?_, ?_⟩
    · simp; omega
    · simp; omega
    · intro k hk
      rcases List.mem_append.mp hk with h | h
      · exact h3 k h
      · simp at h; subst h; simp; omega
  · obtain ⟨d, ss, ks, s6, rfl, h1, h2, h3⟩ := hI
    simp only [List.length_nil, Nat.add_zero] at h2
    walk_at "z.ga"
    refine ⟨by omega, ?_⟩
    refine for_invM (fun k : Nat => .int k) (fun rest e => ∃ (d : Dw) (ss : List Str) (ls : List Lab) (s6 s8 s9 s10 s11 s12 : Sl), e = [.par (.olst (dl d)), .par (.val (.int kn)), .par (.val (.int lb)), .par (.val (.int mo)), .loc (.olst (nl ss)), .loc (.olst ((ks.map kindP).map .val)), s6, .loc (.olst ((ls.map labP).map .val)), s8, s9, s10, s11, s12] ∧
      ss.length + ls.length + ks.length = 51 ∧ ls.length + rest.length = lb.toNat ∧ (∀ l ∈ ls, l.a < ks.length ∧ l.b < ks.length) ∧ ∀ l ∈ ls, (l.rule = "many" ∨ l.rule = "single" ∨ l.rule = "mark") ∧ (l.rule = "mark" → l.a = l.b) ∧ 0 ≤ l.pr ∧ l.pr ≤ 9) _ _ ⟨d, ss, [], _, _, _, _, _, _, rfl, by simpa using h1, by simp, by simp, by simp⟩ (fun k rest e _ hI => ?_) (fun e hI => ?_)
    · obtain ⟨d, ss, ls, s6, s8, s9, s10, s11, s12, rfl, g1, g2, g3, g4⟩ := hI
      simp only [List.length_cons] at g2
      refine ⟨_, gN_set (by walk_at "z.at"), ?_⟩
      have hne : ss ≠ [] := fun h => by subst h; simp at g1; omega
      walk_at "z.ga"
      refine gs_draw (by omega) (by omega) fun sv d' hs0 hs1 => ?_
      walk_at "z.ga"
      refine gs_draw (by omega) (by omega) fun tv d' ht0 ht1 => ?_
      walk_at "z.ga"
      refine gs_draw (by omega) (by omega) fun wy d' hw0 hw1 => ?_
      have hin := o_in2 wy 3 4
      walk_at "z.ga"
      refine br_gen (fun e e1 => ∃ r : Str, e1 = e.set 11 (.loc (.val (.str r))) ∧ (r = "many" ∨ r = "single")) (fun _ => ?_) ⟨_, rfl, .inl rfl⟩ ?_
      · walk_at "z.ga"
        exact ⟨rfl, _, rfl, .inr rfl⟩
      rintro _ ⟨r, rfl, hr⟩
      have hnm : ¬ r = "mark" := by rcases hr with rfl | rfl <;> decide +kernel
      walk_at "z.cs"
      walk_at "z.ga"
      refine br_gen (fun e e1 => ∃ (r : Str) (tv : Int), e1 = (e.set 11 (.loc (.val (.str r)))).set 9 (.loc (.val (.int tv))) ∧ (0 ≤ tv ∧ tv < kn) ∧ (r = "many" ∨ r = "single" ∨ r = "mark") ∧ (r = "mark" → sv = tv)) (fun _ => ?_) ⟨_, _, rfl, ⟨ht0, ht1⟩, hr.elim .inl (fun z => .inr (.inl z)), fun z => absurd z hnm⟩ ?_
      · walk_at "z.ga"
        exact ⟨rfl, _, _, rfl, ⟨hs0, hs1⟩, .inr (.inr rfl), fun _ => rfl⟩
      rintro _ ⟨r, tv, rfl, ⟨ht0, ht1⟩, hr, hmk⟩
      walk_at "z.cs"
      walk_at "z.ga"
      refine gs_draw (by omega) (by omega) fun pv d' hp0 hp1 => ?_
      walk_at "z.ga"
      refine gs_draw (by omega) (by omega) fun _ d' _ _ => ?_
      walk_at "z.ga"
      refine br_gen (fun e e1 => ∃ pr : Int, (0 ≤ pr ∧ pr ≤ 9) ∧ e1 = e.set 12 (.loc (.val (.int pr)))) (fun _ => ?_) ⟨_, by omega, rfl⟩ ?_
      · walk_at "z.ga"
        exact ⟨rfl, _, by omega, rfl⟩
      rintro _ ⟨pr, hpr, rfl⟩
      walk_at "z.cs"
      walk_at "z.ga"
      refine gs_rare (by omega) (by omega) fun _ d' => ?_
      walk_at "z.ga"
      refine br_gen (fun e e1 => ∃ pr : Int, (0 ≤ pr ∧ pr ≤ 9) ∧ e1 = e.set 12 (.loc (.val (.int pr)))) (fun _ => ?_) ⟨_, by omega, rfl⟩ ?_
      · walk_at "z.ga"
        exact ⟨rfl, _, by omega, rfl⟩
      rintro _ ⟨pr, hpr, rfl⟩
      walk_at "z.cs"
      walk_at "z.ga"
      refine gs_pop hne (by omega) fun s ss' d' _ hss' => ?_
      have hpush : hApp ((ls.map labP).map .val) [.val (.tup [.str s, .int sv, .int tv, .int pr, .str r])] = some (.val .non, ((ls ++ [(⟨s, sv.toNat, tv.toNat, pr, r⟩ : Lab)]).map labP).map .val) := by
        rw [app_V (lt_size (k := 12) (by simp; omega) (by omega))]
        simp [labP, Int.toNat_of_nonneg hs0, Int.toNat_of_nonneg ht0]
      walk_at "z.ga"
      refine .inl ⟨.inl rfl, _, _, _, _, _, _, _, _, _, rfl, ?_, ?_, ?_, ?_⟩
      · simp; omega
      · simp; omega
      · intro l hl
        rcases List.mem_append.mp hl with h | h
        · exact g3 l h
        · simp at h; subst h; simp; omega
      · intro l hl
        rcases List.mem_append.mp hl with h | h
        · exact g4 l h
        · simp at h; subst h; exact ⟨hr, fun z => by simp [hmk z], hpr⟩
    · obtain ⟨d, ss, ls, s6, s8, s9, s10, s11, s12, rfl, g1, g2, g3, g4⟩ := hI
      simp only [List.length_nil, Nat.add_zero] at g2
      walk_at "z.ga"
      exact ⟨_, _, .inl rfl, rfl, q ks ls d ⟨by omega, fun k hk => by have := h3 k hk; omega, by omega, g3⟩ (by omega) (by omega) (fun k hk => (h3 k hk).1) ⟨fun k hk => (h3 k hk).2, fun l hl => (g4 l hl).1, fun l hl => (g4 l hl).2.1, fun l hl => (g4 l hl).2.2⟩⟩

--go:old

def sameSL (s l t : Int) (o : List Int) : Bool := decide (o.take 2 = [s, l]) && !decide (o = [s, l, t])
def heldL (ls : List Lab) (G : List (List Int)) (s : Int) (l : Nat) (t : Int) : Option (List Int) :=
  if (ls[l]?.map (·.rule)) = some "single" then G.find? (sameSL s l t) else none
def oP : Option (List Int) → P
  | none => .non
  | some o => tupI o
def IsG (ls : List Lab) (G : List (List Int)) : Prop := ∀ g ∈ G, ∃ (s : Int) (l : Nat) (t : Int), g = [s, (l : Int), t] ∧ l < ls.length
theorem held_loop {ks : List (Str × Nat)} {ls : List Lab} {sx : Sl} {s t : Int} {l : Nat} {r : Str} {Q : Out → Z.Env → Prop} : ∀ (G : List (List Int)) (s3 : Sl), IsG ls G →
    (∀ s3, (Q (match G.find? (sameSL s l t) with | none => .nx | some o => .ret (.val (tupI o))) [.par (.val (schP ks ls)), sx, .par (.val (tupI [s, (l : Int), t])), s3])) →
    W (forL (gN 3) (sIf (mAndT (mTb (mOp gEq (mP (mOpN gIx 3 (mC (.int 0)))) (mP (mOpN gIx 2 (mC (.int 0)))))) (mAndT (mTb (mOp gEq (mP (mOpN gIx 3 (mC (.int 1)))) (mP (mOpN gIx 2 (mC (.int 1)))))) (mTb (mOp gNe (mN 3) (mW 2)))))
    (sRet (mV (mN 3)))
    sNil) (G.map tupI) [.par (.val (schP ks ls)), sx, .par (.val (tupI [s, (l : Int), t])), s3]) Q
  | [], s3, _, q => ⟨.nx, _, rfl, q s3⟩
  | g :: G, s3, hG, q => by
    obtain ⟨a, b, c, rfl, _⟩ := hG g List.mem_cons_self
    have ih := fun s3 q => held_loop (ks := ks) (sx := sx) (s := s) (t := t) (l := l) (r := r) (Q := Q) G s3 (fun g hg => hG g (List.mem_cons_of_mem _ hg)) q
    have key : W ((sIf (mAndT (mTb (mOp gEq (mP (mOpN gIx 3 (mC (.int 0)))) (mP (mOpN gIx 2 (mC (.int 0)))))) (mAndT (mTb (mOp gEq (mP (mOpN gIx 3 (mC (.int 1)))) (mP (mOpN gIx 2 (mC (.int 1)))))) (mTb (mOp gNe (mN 3) (mW 2)))))
      (sRet (mV (mN 3))) sNil) [.par (.val (schP ks ls)), sx, .par (.val (tupI [s, (l : Int), t])), .loc (.val (tupI [a, (b : Int), c]))])
      (fun o e => o = (if sameSL s l t [a, (b : Int), c] then .ret (.val (tupI [a, (b : Int), c])) else .nx) ∧ e = [.par (.val (schP ks ls)), sx, .par (.val (tupI [s, (l : Int), t])), .loc (.val (tupI [a, (b : Int), c]))]) := by
      walk_at "z.ga"
      refine ⟨fun h1 => ?_, fun h1 => ?_⟩
      · walk_at "z.ga"
        refine ⟨fun h2 => ?_, fun h2 => ?_⟩
        · walk_at "z.ga"
          refine ⟨fun h3 => ?_, fun h3 => ?_⟩
          · walk_at "z.ga"
            refine ⟨?_, rfl⟩
            simp at h1 h2 h3
            simp [sameSL, h1, h2]
            omega
          · walk_at "z.ga"
            refine ⟨?_, rfl⟩
            simp at h1 h2 h3
            obtain ⟨e1, e2, e3⟩ := h3
            simp [sameSL, e1, e2, e3]
        · walk_at "z.ga"
          refine ⟨?_, rfl⟩
          simp at h1 h2
          simp [sameSL, h2]
      · walk_at "z.ga"
        refine ⟨?_, rfl⟩
        simp at h1
        simp [sameSL, h1]
    obtain ⟨o, e, h1, rfl, rfl⟩ := key
    cases hb : sameSL s l t [a, (b : Int), c] with
    | true =>
      rw [hb] at h1
      have q := q (.loc (.val (tupI [a, (b : Int), c])))
      refine ⟨.ret (.val (tupI [a, (b : Int), c])), _, ?_, by simpa [List.find?_cons, hb] using q⟩
      simp only [List.map_cons, forL, gN, List.getElem?_cons_succ, List.getElem?_cons_zero, List.set_cons_succ, List.set_cons_zero, h1, if_true]
    | false =>
      rw [hb] at h1
      obtain ⟨o, e, h2, q2⟩ := ih (.loc (.val (tupI [a, (b : Int), c]))) (fun s3 => by simpa [List.find?_cons, hb] using q s3)
      refine ⟨o, e, ?_, q2⟩
      simp only [List.map_cons, forL, gN, List.getElem?_cons_succ, List.getElem?_cons_zero, List.set_cons_succ, List.set_cons_zero, h1, Bool.false_eq_true, if_false]
      exact h2
theorem gs_held_l {ks : List (Str × Nat)} {ls : List Lab} {G : List (List Int)} {s t : Int} {l : Nat} {R : D → List D → Prop} (hl : l < ls.length) (hG : IsG ls G)
    (q : R (.val (oP (heldL ls G s l t))) [.val (schP ks ls), .olst ((G.map tupI).map .val), .val (tupI [s, (l : Int), t])]) : Gs (m_law_held_by [.val (schP ks ls), .olst ((G.map tupI).map .val), .val (tupI [s, (l : Int), t])]) R := by
  have hs2 := ix_s2 ks ls
  have h1 : atI (ls.map labP) l = some (labP ls[l]) := at_map (by simp [hl])
  have hl4 := ix_l4 ls[l]
  unfold m_law_held_by bm_law_held_by; refine gs_fn (by rfl) ?_; walk_at "z.st"; walk_at "z.ga"
  refine ⟨fun hc => ?_, fun hc => ?_⟩
  · walk_at "z.ga"
    refine held_loop (r := "") G _ hG fun s3 => ?_
    have e : heldL ls G s l t = G.find? (sameSL s l t) := by
      simp at hc
      simp [heldL, hl, hc]
    rw [e] at q
    cases hf : G.find? (sameSL s l t) with
    | none =>
      rw [hf] at q
      dsimp only
      walk_at "z.ga"
      exact ⟨_, _, .inl rfl, rfl, q⟩
    | some o =>
      rw [hf] at q
      dsimp only
      walk_at "z.ga"
      exact ⟨_, _, .inl rfl, rfl, q⟩
  · walk_at "z.ga"
    have e : heldL ls G s l t = none := by
      simp at hc
      simp [heldL, hl, hc]
    rw [e] at q
    exact ⟨_, _, .inl rfl, rfl, q⟩
--go:old

structure GOk (ks : List (Str × Nat)) (ls : List Lab) (G : List (List Int)) : Prop where
  el : ∀ g ∈ G, ∃ (s : Int) (l : Nat) (t : Int) (hl : l < ls.length), g = [s, (l : Int), t] ∧ g ∈ letL ks l ls[l]
  nd : G.Nodup
  uq : ∀ (s : Int) (l : Nat) (t t' : Int), (ls[l]?.map (·.rule)) = some "single" → [s, (l : Int), t] ∈ G → [s, (l : Int), t'] ∈ G → t = t'
theorem GOk.isG {ks : List (Str × Nat)} {ls : List Lab} {G : List (List Int)} (h : GOk ks ls G) : IsG ls G := fun g hg => by
  obtain ⟨s, l, t, hl, e, _⟩ := h.el g hg
  exact ⟨s, l, t, e, hl⟩
theorem GOk.nil (ks : List (Str × Nat)) (ls : List Lab) : GOk ks ls [] := ⟨by simp, by simp, by simp⟩
theorem GOk.perm {ks : List (Str × Nat)} {ls : List Lab} {G G' : List (List Int)} (h : GOk ks ls G) (p : G'.Perm G) : GOk ks ls G' :=
  ⟨fun g hg => h.el g (p.mem_iff.mp hg), p.nodup_iff.mpr h.nd, fun s l t t' r h1 h2 => h.uq s l t t' r (p.mem_iff.mp h1) (p.mem_iff.mp h2)⟩
theorem GOk.filter {ks : List (Str × Nat)} {ls : List Lab} {G : List (List Int)} (h : GOk ks ls G) (c : List Int → Bool) : GOk ks ls (G.filter c) :=
  ⟨fun g hg => h.el g (List.mem_filter.mp hg).1, h.nd.filter c, fun s l t t' r h1 h2 => h.uq s l t t' r (List.mem_filter.mp h1).1 (List.mem_filter.mp h2).1⟩
theorem GOk.ne {ks : List (Str × Nat)} {ls : List Lab} {G : List (List Int)} (h : GOk ks ls G) : ∀ g ∈ G, g ≠ [] := fun g hg => by
  obtain ⟨s, l, t, hl, e, _⟩ := h.el g hg
  subst e; simp
theorem held_none {ls : List Lab} {G : List (List Int)} {s t t' : Int} {l : Nat} (h : heldL ls G s l t = none) (hr : (ls[l]?.map (·.rule)) = some "single") (hm : [s, (l : Int), t'] ∈ G) : t' = t := by
  unfold heldL at h
  rw [if_pos hr] at h
  have := List.find?_eq_none.mp h _ hm
  simpa [sameSL] using this
theorem GOk.push {ks : List (Str × Nat)} {ls : List Lab} {G : List (List Int)} {s t : Int} {l : Nat} (h : GOk ks ls G) (hl : l < ls.length) (hm : [s, (l : Int), t] ∈ letL ks l ls[l]) (hn : [s, (l : Int), t] ∉ G) (hh : heldL ls G s l t = none) :
    GOk ks ls (G ++ [[s, (l : Int), t]]) := by
  refine ⟨fun g hg => ?_, ?_, fun s2 l2 t2 t3 r h2 h3 => ?_⟩
  · rcases List.mem_append.mp hg with z | z
    · exact h.el g z
    · simp at z; subst z; exact ⟨s, l, t, hl, rfl, hm⟩
  · rw [List.nodup_append]
    exact ⟨h.nd, by simp, fun a ha b hb e => by simp at hb; subst hb; subst e; exact hn ha⟩
  · simp only [List.mem_append, List.mem_singleton, List.cons.injEq, and_true] at h2 h3
    rcases h2 with h2 | ⟨rfl, e2, rfl⟩ <;> rcases h3 with h3 | ⟨e3, e4, e5⟩
    · exact h.uq s2 l2 t2 t3 r h2 h3
    · have : l2 = l := by omega
      subst this e3 e5
      exact held_none hh r h2
    · have : l2 = l := by omega
      subst this
      exact (held_none hh r h3).symm
    · exact e5.symm
theorem mem_let {ks : List (Str × Nat)} {l : Nat} {b : Lab} {g : List Int} (h : g ∈ letL ks l b) : ∃ s t : Int, g = [s, (l : Int), t] := by
  simp only [letL, List.mem_flatMap, List.mem_map] at h
  obtain ⟨s, _, t, _, e⟩ := h
  exact ⟨s, t, e.symm⟩
theorem non_oP (x : Option (List Int)) : Z.isNon (oP x) = x.isNone := by cases x <;> rfl

theorem gs_graph {d : Dw} {ks : List (Str × Nat)} {ls : List Lab} {mo : Int} {R : D → List D → Prop} (h : WfS ks ls) (hne : 0 < ls.length) (hmo : 0 ≤ mo ∧ mo ≤ 100)
    (q : ∀ (G : List (List Int)) (d' : Dw), GOk ks ls G → G.length ≤ 100 → R (.val (.tup (G.map tupI))) [.olst (dl d'), .val (schP ks ls), .val (.int mo)]) :
    Gs (m_law_graph [.olst (dl d), .val (schP ks ls), .val (.int mo)]) R := by
  have hs2 := ix_s2 ks ls
  have hll := h.ll
  unfold m_law_graph bm_law_graph; refine gs_fn (by rfl) ?_; walk_at "z.st"; walk_at "z.ga"
  refine ⟨by omega, ?_⟩
  refine for_invM (fun k : Nat => .int k) (fun rest e => ∃ (d : Dw) (G : List (List Int)) (s4 s5 s6 : Sl), e = [.par (.olst (dl d)), .par (.val (schP ks ls)), .par (.val (.int mo)), .loc (.olst ((G.map tupI).map .val)), s4, s5, s6] ∧ GOk ks ls G ∧ G.length + rest.length ≤ 100) _ _
    ⟨d, [], _, _, _, rfl, GOk.nil ks ls, by simp; omega⟩ (fun k rest e _ hI => ?_) (fun e hI => ?_)
  · obtain ⟨d, G, s4, s5, s6, rfl, hG, hlen⟩ := hI
    rw [List.length_cons] at hlen
    refine ⟨_, gN_set (by walk_at "z.at"), ?_⟩
    walk_at "z.ga"
    refine gs_draw (by simp; omega) (by simp; omega) fun lv d' hl0 hl1 => ?_
    simp only [List.length_map] at hl1
    obtain ⟨l, rfl⟩ : ∃ l : Nat, lv = l := ⟨lv.toNat, by omega⟩
    have hl : l < ls.length := by omega
    walk_at "z.ga"
    refine gs_let h hl ?_
    walk_at "z.ga"
    refine ⟨fun hc => ?_, fun hc => ?_⟩
    · have hne2 : (letL ks l ls[l]).map tupI ≠ [] := fun e => by rw [e] at hc; simp at hc
      have hlen2 := let_len h l ls[l]
      walk_at "z.ga"
      refine gs_pick_l hne2 (by simp; omega) fun p hp d' => ?_
      obtain ⟨g, hg, rfl⟩ := List.mem_map.mp hp
      obtain ⟨s, t, rfl⟩ := mem_let hg
      walk_at "z.ga"
      refine ⟨fun hc2 => ?_, fun hc2 => ?_⟩
      · walk_at "z.ga"
        refine gs_held_l hl hG.isG ?_
        walk_at "z.ga"
        refine ⟨fun hc3 => ?_, fun hc3 => ?_⟩
        · have hpush : hApp ((G.map tupI).map .val) [.val (tupI [s, (l : Int), t])] = some (.val .non, ((G ++ [[s, (l : Int), t]]).map tupI).map .val) := app_T _ (lt_size (k := 100) (by omega) (by omega))
          walk_at "z.ga"
          refine .inl ⟨.inl rfl, d', _, _, _, _, rfl, hG.push hl hg (by simpa using hc2) (by rw [non_oP] at hc3; simpa using hc3), by simp; omega⟩
        · walk_at "z.ga"
          exact .inl ⟨.inl rfl, d', G, _, _, _, rfl, hG, by omega⟩
      · walk_at "z.ga"
        exact .inl ⟨.inl rfl, d', G, _, _, _, rfl, hG, by omega⟩
    · walk_at "z.ga"
      exact .inl ⟨.inl rfl, d', G, _, _, _, rfl, hG, by omega⟩
  · obtain ⟨d, G, s4, s5, s6, rfl, hG, hlen⟩ := hI
    have hn := hG.ne
    walk_at "z.ga"
    exact ⟨_, _, .inl rfl, rfl, q _ d (hG.perm (sortT_perm G)) (by rw [(sortT_perm G).length_eq]; simpa using hlen)⟩


theorem gs_begin {ns : List Int} {R : D → List D → Prop} (hn : ns.length ≤ 63) (q : R (.olst (dl ⟨ns, 0, 0, 7⟩)) [.val (.scr ns)]) : Gs (m_law_begin [.val (.scr ns)]) R := by
  unfold m_law_begin bm_law_begin; refine gs_fn (by rfl) ?_; walk_at "z.st"; walk_at "z.go"
  refine w_compM P.int P.int ?_
  walk_at "z.go"
  refine ⟨⟨_, by walk_at "z.at", (by walk_at "z.ok")⟩, ?_, fun x hx => ?_, ?_⟩
  · exact le_size hn (by omega)
  · walk_at "z.cs"
    walk_at "z.go"
    exact ⟨rfl, rfl⟩
  · walk_at "z.go"
    exact ⟨_, _, .inl rfl, rfl, q⟩
theorem ins_at {ps : List P} {k : Int} {p : P} (h0 : 0 ≤ k) (h1 : k < 1000000) (h2 : ps.length ≤ 1000000) : hInsert (ps.map .val) [.val (.int k), .val p] = some (.val .non, (ps.take k.toNat ++ [p] ++ ps.drop k.toNat).map .val) := by
  have c : (ps.map D.val).length < sizeLine ∧ 0 ≤ k ∧ k < 2 ^ 63 := ⟨lt_size (k := 1000000) (by simpa using h2) (by omega), h0, by omega⟩
  refine (if_pos c).trans ?_
  simp
theorem erase_perm {α : Type} : ∀ (L : List α) (j : Nat) (h : j < L.length), (L[j] :: L.eraseIdx j).Perm L
  | [], j, h => by simp at h
  | x :: L, 0, h => List.Perm.refl _
  | x :: L, j + 1, h => by
    have h' : j < L.length := by simpa using h
    show (L[j] :: x :: L.eraseIdx j).Perm (x :: L)
    exact (List.Perm.swap x L[j] _).trans ((erase_perm L j h').cons x)
theorem gs_shufP {β : Type} {d : Dw} {xs : List β} (F : β → P) {R : D → List D → Prop} (hl : xs.length ≤ 1000) (q : ∀ (ys : List β) (d' : Dw), ys.Perm xs → R (.val (.lst (ys.map F))) [.olst (dl d'), .olst ((xs.map F).map .val)]) : Gs (m_law_shuffled [.olst (dl d), .olst ((xs.map F).map .val)]) R := by
  unfold m_law_shuffled bm_law_shuffled; refine gs_fn (by rfl) ?_; walk_at "z.st"; walk_at "z.go"
  refine ⟨by simp; omega, ?_⟩
  refine for_rng (n := xs.length) (by simp) (fun k e => ∃ (d : Dw) (L A : List β) (s4 : Sl), e = [.par (.olst (dl d)), .par (.olst ((xs.map F).map .val)), .loc (.olst ((L.map F).map .val)), .loc (.olst ((A.map F).map .val)), s4] ∧
    L.length + k = xs.length ∧ (A ++ L).Perm xs) _ ⟨d, xs, [], _, rfl, by simp, List.Perm.refl _⟩ (fun k e hk hI => ?_) (fun e hI => ?_)
  · obtain ⟨d, L, A, s4, rfl, h1, h2⟩ := hI
    refine ⟨_, gN_set (by walk_at "z.at"), ?_⟩
    have hL : (0 : Int) < (L.map F).length := by rw [List.length_map]; omega
    have hL2 : ((L.map F).length : Int) < 1073741824 := by rw [List.length_map]; omega
    walk_at "z.go"
    refine gs_draw hL hL2 fun j d' hj0 hj1 => ?_
    have hj : j.toNat < L.length := by rw [List.length_map] at hj1; omega
    have hpop := pop_at (ps := L.map F) hj0 hj1 (by rw [List.length_map]; omega)
    rw [List.getElem_map, erase_mapZ] at hpop
    have hpush : hApp ((A.map F).map .val) [.val (F L[j.toNat])] = some (.val .non, ((A ++ [L[j.toNat]]).map F).map .val) := by
      have hlen := h2.length_eq
      rw [List.length_append] at hlen
      rw [app_V (lt_size (k := 1000) (by rw [List.length_map]; omega) (by omega))]
      simp
    walk_at "z.go"
    refine .inl ⟨.inl rfl, d', _, _, _, rfl, ?_, ?_⟩
    · rw [List.length_eraseIdx, if_pos hj]
      omega
    · rw [List.append_assoc]
      exact (List.Perm.append_left A (erase_perm L _ hj)).trans h2
  · obtain ⟨d, L, A, s4, rfl, h1, h2⟩ := hI
    have hL : L = [] := List.length_eq_zero_iff.mp (by omega)
    subst hL
    rw [List.append_nil] at h2
    walk_at "z.go"
    exact ⟨_, _, .inl rfl, rfl, q A d h2⟩
theorem gs_upIv {ns : List Int} {R : D → List D → Prop} (h : ns.length ≤ 4000 ∧ (upL ns).length < 64) (q : R (.val (.tup ((upL ns).map .int))) [.val (.lst (ns.map .int))]) : Gs (m_law_up [.val (.lst (ns.map .int))]) R := by
  have o := o_upl5 h
  unfold m_law_up bm_law_up; refine gs_fn (by rfl) ?_; walk_at "z.st"; walk_at "z.go"
  exact ⟨_, _, .inl rfl, rfl, q⟩
theorem gs_upTv {G : List (List Int)} {R : D → List D → Prop} (hne : ∀ g ∈ G, g ≠ []) (h : (upT G).length < 305) (q : R (.val (.tup ((upT G).map tupI))) [.val (.lst (G.map tupI))]) : Gs (m_law_up [.val (.lst (G.map tupI))]) R := by
  have o := o_upT5 hne h
  unfold m_law_up bm_law_up; refine gs_fn (by rfl) ?_; walk_at "z.st"; walk_at "z.go"
  exact ⟨_, _, .inl rfl, rfl, q⟩
theorem gs_isint {i : Int} {R : D → List D → Prop} (q : R (.val (.bl true)) [.val (.int i)]) : Gs (m_law_is_int [.val (.int i)]) R := by
  have h1 : gIsi "int" (.int i) = some (.val (.bl true)) := rfl
  have h2 : gIsi "bool" (.int i) = some (.val (.bl false)) := rfl
  unfold m_law_is_int bm_law_is_int; refine gs_fn (by rfl) ?_; walk_at "z.st"; walk_at "z.go"
  exact ⟨_, _, .inl rfl, rfl, q⟩
inductive Ex where
  | stay | step (l b : Int) | un (w : Str) (e : Ex) | bi (w : Str) (e f : Ex)
def exP : Ex → P
  | .stay => .tup [.str "stay"]
  | .step l b => .tup [.str "step", .int l, .int b]
  | .un w e => .tup [.str w, exP e]
  | .bi w e f => .tup [.str w, exP e, exP f]
def ExOk : Ex → Prop
  | .stay => True
  | .step _ _ => True
  | .un w e => (w = "star" ∨ w = "plus" ∨ w = "maybe") ∧ ExOk e
  | .bi w e f => (w = "then" ∨ w = "either") ∧ ExOk e ∧ ExOk f
def szX : Ex → Nat
  | .stay => 1
  | .step _ _ => 1
  | .un _ e => szX e + 1
  | .bi _ e f => szX e + szX f + 1
def ltX : Ex → List (List Int)
  | .stay => []
  | .step l b => [[l, b]]
  | .un _ e => ltX e
  | .bi _ e f => ltX e ++ ltX f
theorem lt_sz : ∀ e : Ex, (ltX e).length ≤ szX e
  | .stay => by simp [ltX, szX]
  | .step l b => by simp [ltX, szX]
  | .un w e => Nat.le_trans (lt_sz e) (by simp [szX])
  | .bi w e f => by
    have := lt_sz e
    have := lt_sz f
    simp only [ltX, szX, List.length_append]
    omega
def prX (as bs : List Int) : List (List Int) := as.flatMap fun a => bs.map fun b => [a, b]
theorem prX_len (as bs : List Int) : (prX as bs).length = as.length * bs.length := by
  induction as with
  | nil => simp [prX]
  | cons a as ih =>
    have : prX (a :: as) bs = bs.map (fun b => [a, b]) ++ prX as bs := rfl
    rw [this, List.length_append, List.length_map, ih, List.length_cons, Nat.add_mul, Nat.one_mul, Nat.add_comm]
theorem mem_prX {as bs : List Int} {g : List Int} : g ∈ prX as bs ↔ ∃ a ∈ as, ∃ b ∈ bs, g = [a, b] := by
  simp only [prX, List.mem_flatMap, List.mem_map]
  constructor
  · rintro ⟨a, ha, b, hb, rfl⟩
    exact ⟨a, ha, b, hb, rfl⟩
  · rintro ⟨a, ha, b, hb, rfl⟩
    exact ⟨a, ha, b, hb, rfl⟩
structure Fx where
  em : Bool
  fs : List Int
  fo : List (List Int)
  la : List Int
def fcX : Ex → Fx
  | .stay => ⟨true, [], [], []⟩
  | .step l _ => ⟨false, [l], [], [l]⟩
  | .un w e => if w = "maybe" then ⟨true, (fcX e).fs, (fcX e).fo, (fcX e).la⟩ else ⟨(fcX e).em || decide (w = "star"), (fcX e).fs, (fcX e).fo ++ prX (fcX e).la (fcX e).fs, (fcX e).la⟩
  | .bi w e f => if w = "either" then ⟨(fcX e).em || (fcX f).em, (fcX e).fs ++ (fcX f).fs, (fcX e).fo ++ (fcX f).fo, (fcX e).la ++ (fcX f).la⟩
    else ⟨(fcX e).em && (fcX f).em, if (fcX e).em then (fcX e).fs ++ (fcX f).fs else (fcX e).fs, ((fcX e).fo ++ (fcX f).fo) ++ prX (fcX e).la (fcX f).fs, if (fcX f).em then (fcX f).la ++ (fcX e).la else (fcX f).la⟩
def fxP (f : Fx) : P := .lst [.bl f.em, .lst (f.fs.map .int), .lst (f.fo.map tupI), .lst (f.la.map .int)]
theorem fc_len : ∀ e : Ex, (fcX e).fs.length ≤ (ltX e).length ∧ (fcX e).la.length ≤ (ltX e).length ∧ (fcX e).fo.length ≤ szX e * ((ltX e).length * (ltX e).length)
  | .stay => by simp [fcX]
  | .step l b => by simp [fcX, ltX, szX]
  | .un w e => by
    obtain ⟨h1, h2, h3⟩ := fc_len e
    have h4 : (fcX e).la.length * (fcX e).fs.length ≤ (ltX e).length * (ltX e).length := Nat.mul_le_mul h2 h1
    simp only [fcX, ltX, szX]
    split
    · refine ⟨h1, h2, Nat.le_trans h3 (Nat.mul_le_mul_right _ (Nat.le_succ _))⟩
    · refine ⟨h1, h2, ?_⟩
      show ((fcX e).fo ++ prX (fcX e).la (fcX e).fs).length ≤ _
      rw [List.length_append, prX_len, Nat.add_mul, Nat.one_mul]
      omega
  | .bi w e f => by
    obtain ⟨h1, h2, h3⟩ := fc_len e
    obtain ⟨g1, g2, g3⟩ := fc_len f
    have m1 : (ltX e).length * (ltX e).length ≤ ((ltX e).length + (ltX f).length) * ((ltX e).length + (ltX f).length) := Nat.mul_le_mul (by omega) (by omega)
    have m2 : (ltX f).length * (ltX f).length ≤ ((ltX e).length + (ltX f).length) * ((ltX e).length + (ltX f).length) := Nat.mul_le_mul (by omega) (by omega)
    have m3 : (fcX e).la.length * (fcX f).fs.length ≤ ((ltX e).length + (ltX f).length) * ((ltX e).length + (ltX f).length) := Nat.mul_le_mul (by omega) (by omega)
    have n1 := Nat.mul_le_mul_left (szX e) m1
    have n2 := Nat.mul_le_mul_left (szX f) m2
    simp only [fcX, ltX, szX, List.length_append, Nat.add_mul, Nat.one_mul] at *
    split
    · simp only [List.length_append]
      refine ⟨by omega, by omega, by omega⟩
    · simp only [List.length_append, prX_len]
      refine ⟨?_, ?_, by omega⟩
      · split <;> (try simp only [List.length_append]) <;> omega
      · split <;> (try simp only [List.length_append]) <;> omega
def lbX (e : Ex) : List Int := (ltX e).map fun g => g.getD 0 0
theorem fc_mem : ∀ e : Ex, (∀ x ∈ (fcX e).fs, x ∈ lbX e) ∧ (∀ x ∈ (fcX e).la, x ∈ lbX e) ∧ ∀ g ∈ (fcX e).fo, ∃ a ∈ lbX e, ∃ b ∈ lbX e, g = [a, b]
  | .stay => by simp [fcX]
  | .step l b => by simp [fcX, ltX, lbX]
  | .un w e => by
    obtain ⟨h1, h2, h3⟩ := fc_mem e
    have hl : lbX (.un w e) = lbX e := rfl
    rw [hl]
    simp only [fcX]
    split
    · exact ⟨h1, h2, h3⟩
    · refine ⟨h1, h2, fun g hg => ?_⟩
      rcases List.mem_append.mp hg with z | z
      · exact h3 g z
      · obtain ⟨a, ha, b, hb, rfl⟩ := mem_prX.mp z
        exact ⟨a, h2 a ha, b, h1 b hb, rfl⟩
  | .bi w e f => by
    obtain ⟨h1, h2, h3⟩ := fc_mem e
    obtain ⟨g1, g2, g3⟩ := fc_mem f
    have hl : lbX (.bi w e f) = lbX e ++ lbX f := by simp [lbX, ltX]
    rw [hl]
    have L : ∀ {x}, x ∈ lbX e → x ∈ lbX e ++ lbX f := fun h => List.mem_append_left _ h
    have M : ∀ {x}, x ∈ lbX f → x ∈ lbX e ++ lbX f := fun h => List.mem_append_right _ h
    have fo : ∀ g ∈ (fcX e).fo ++ (fcX f).fo, ∃ a ∈ lbX e ++ lbX f, ∃ b ∈ lbX e ++ lbX f, g = [a, b] := fun g hg => by
      rcases List.mem_append.mp hg with z | z
      · obtain ⟨a, ha, b, hb, rfl⟩ := h3 g z
        exact ⟨a, L ha, b, L hb, rfl⟩
      · obtain ⟨a, ha, b, hb, rfl⟩ := g3 g z
        exact ⟨a, M ha, b, M hb, rfl⟩
    simp only [fcX]
    split
    · exact ⟨fun x hx => (List.mem_append.mp hx).elim (fun z => L (h1 x z)) fun z => M (g1 x z), fun x hx => (List.mem_append.mp hx).elim (fun z => L (h2 x z)) fun z => M (g2 x z), fo⟩
    · refine ⟨fun x hx => ?_, fun x hx => ?_, fun g hg => ?_⟩
      · have hx : x ∈ (if (fcX e).em = true then (fcX e).fs ++ (fcX f).fs else (fcX e).fs) := hx
        split at hx
        · exact (List.mem_append.mp hx).elim (fun z => L (h1 x z)) fun z => M (g1 x z)
        · exact L (h1 x hx)
      · have hx : x ∈ (if (fcX f).em = true then (fcX f).la ++ (fcX e).la else (fcX f).la) := hx
        split at hx
        · exact (List.mem_append.mp hx).elim (fun z => M (g2 x z)) fun z => L (h2 x z)
        · exact M (g2 x hx)
      · rcases List.mem_append.mp hg with z | z
        · exact fo g z
        · obtain ⟨a, ha, b, hb, rfl⟩ := mem_prX.mp z
          exact ⟨a, L (h2 a ha), b, M (g1 b hb), rfl⟩
theorem add_T {G H : List (List Int)} (h : G.length + H.length ≤ 1000000) : gAdd (.lst (G.map tupI)) (.lst (H.map tupI)) = some (.olst (((G ++ H).map tupI).map .val)) := by
  rw [o_addl (by rw [List.length_map, List.length_map, sizeLine_eq]; omega), ← List.map_append]
theorem add_I {G H : List Int} (h : G.length + H.length ≤ 1000000) : gAdd (.lst (G.map .int)) (.lst (H.map .int)) = some (.olst (((G ++ H).map .int).map .val)) := by
  rw [o_addl (by rw [List.length_map, List.length_map, sizeLine_eq]; omega), ← List.map_append]
theorem gs_letters : ∀ (n : Nat) (e : Ex), ExOk e → szX e ≤ n → szX e ≤ 1000 → ∀ {R : D → List D → Prop}, R (.val (.lst ((ltX e).map tupI))) [.val (exP e)] → Gs (m_law_letters n [.val (exP e)]) R
  | 0, e, _, h, _, _, _ => by cases e <;> simp [szX] at h
  | n + 1, .stay, _, _, _, R, q => by
    have i0 : gIx (exP .stay) (.int 0) = some (.val (.str "stay")) := rfl
    show Gs (fnM 1 3 (bm_law_letters (m_law_letters n)) _) R
    unfold bm_law_letters
    refine gs_fn (by rfl) ?_
    walk_at "z.st"
    walk_at "z.go"
    rw [decide_eq_true (rfl : ("stay" : Str) = "stay")]
    walk_at "z.go"
    exact ⟨_, _, .inl rfl, rfl, q⟩
  | n + 1, .step l b, _, _, _, R, q => by
    have i0 : gIx (exP (.step l b)) (.int 0) = some (.val (.str "step")) := rfl
    have i1 : gIx (exP (.step l b)) (.int 1) = some (.val (.int l)) := rfl
    have i2 : gIx (exP (.step l b)) (.int 2) = some (.val (.int b)) := rfl
    show Gs (fnM 1 3 (bm_law_letters (m_law_letters n)) _) R
    unfold bm_law_letters
    refine gs_fn (by rfl) ?_
    walk_at "z.st"
    walk_at "z.go"
    rw [decide_eq_false (by decide +kernel : ¬ ("step" : Str) = "stay")]
    walk_at "z.go"
    rw [decide_eq_true (rfl : ("step" : Str) = "step")]
    walk_at "z.go"
    exact ⟨_, _, .inl rfl, rfl, q⟩
  | n + 1, .un w e, ok, h, h2, R, q => by
    simp only [szX] at h h2
    have i0 : gIx (exP (.un w e)) (.int 0) = some (.val (.str w)) := rfl
    have s1 : gSl (exP (.un w e)) (some 1) none = some (.val (.tup [exP e])) := sl_one
    have n1 : ¬ w = "stay" := by rcases ok.1 with rfl | rfl | rfl <;> decide +kernel
    have n2 : ¬ w = "step" := by rcases ok.1 with rfl | rfl | rfl <;> decide +kernel
    have hl := lt_sz e
    have a0 : gAdd (.lst []) (.lst ((ltX e).map tupI)) = some (.olst (((ltX e).map tupI).map .val)) := add_T (G := []) (by simp; omega)
    show Gs (fnM 1 3 (bm_law_letters (m_law_letters n)) _) R
    unfold bm_law_letters
    refine gs_fn (by rfl) ?_
    walk_at "z.st"
    walk_at "z.go"
    rw [decide_eq_false n1]
    walk_at "z.go"
    rw [decide_eq_false n2]
    walk_at "z.go"
    refine w_fcons (gN_set (by walk_at "z.at")) ?_
    walk_at "z.go"
    refine gs_letters n e ok.2 (by omega) (by omega) ?_
    walk_at "z.go"
    refine ⟨rfl, w_fnil ?_⟩
    walk_at "z.go"
    exact ⟨_, _, .inl rfl, rfl, q⟩
  | n + 1, .bi w e f, ok, h, h2, R, q => by
    simp only [szX] at h h2
    have i0 : gIx (exP (.bi w e f)) (.int 0) = some (.val (.str w)) := rfl
    have s1 : gSl (exP (.bi w e f)) (some 1) none = some (.val (.tup [exP e, exP f])) := sl_one
    have n1 : ¬ w = "stay" := by rcases ok.1 with rfl | rfl <;> decide +kernel
    have n2 : ¬ w = "step" := by rcases ok.1 with rfl | rfl <;> decide +kernel
    have hl := lt_sz e
    have hl2 := lt_sz f
    have a0 : gAdd (.lst []) (.lst ((ltX e).map tupI)) = some (.olst (((ltX e).map tupI).map .val)) := add_T (G := []) (by simp; omega)
    have a1 : gAdd (.lst ((ltX e).map tupI)) (.lst ((ltX f).map tupI)) = some (.olst (((ltX (.bi w e f)).map tupI).map .val)) := add_T (by omega)
    show Gs (fnM 1 3 (bm_law_letters (m_law_letters n)) _) R
    unfold bm_law_letters
    refine gs_fn (by rfl) ?_
    walk_at "z.st"
    walk_at "z.go"
    rw [decide_eq_false n1]
    walk_at "z.go"
    rw [decide_eq_false n2]
    walk_at "z.go"
    refine w_fcons (gN_set (by walk_at "z.at")) ?_
    walk_at "z.go"
    refine gs_letters n e ok.2.1 (by omega) (by omega) ?_
    walk_at "z.go"
    refine ⟨rfl, w_fcons (gN_set (by walk_at "z.at")) ?_⟩
    walk_at "z.go"
    refine gs_letters n f ok.2.2 (by omega) (by omega) ?_
    walk_at "z.go"
    refine ⟨rfl, w_fnil ?_⟩
    walk_at "z.go"
    exact ⟨_, _, .inl rfl, rfl, q⟩


theorem gs_pairs {as bs : List Int} {R : D → List D → Prop} (ha : as.length ≤ 1000) (hb : bs.length ≤ 1000) (q : R (.val (.lst ((prX as bs).map tupI))) [.val (.lst (as.map .int)), .val (.lst (bs.map .int))]) :
    Gs (m_law_pairs [.val (.lst (as.map .int)), .val (.lst (bs.map .int))]) R := by
  have hpl := prX_len as bs
  have hm : as.length * bs.length ≤ 1000000 := Nat.mul_le_mul ha hb
  unfold m_law_pairs bm_law_pairs; refine gs_fn (by rfl) ?_; walk_at "z.st"; walk_at "z.go"
  refine for_invM P.int (fun rest e => ∃ (G : List (List Int)) (s3 s4 : Sl), e = [.par (.val (.lst (as.map .int))), .par (.val (.lst (bs.map .int))), .loc (.olst ((G.map tupI).map .val)), s3, s4] ∧
    (s4 = .un ∨ (∃ p, s4 = .loc (.val p)) ∨ ∃ p, s4 = .par (.val p)) ∧ G ++ prX rest bs = prX as bs) as _ ⟨[], _, _, rfl, .inl rfl, rfl⟩ (fun a rest e _ hI => ?_) (fun e hI => ?_)
  · obtain ⟨G, s3, s4, rfl, h4, hG⟩ := hI
    have hGl : G.length + (bs.length + (prX rest bs).length) = (prX as bs).length := by
      rw [← hG, List.length_append]
      have : prX (a :: rest) bs = bs.map (fun b => [a, b]) ++ prX rest bs := rfl
      rw [this, List.length_append, List.length_map]
    refine ⟨_, gN_set (by walk_at "z.at"), ?_⟩
    walk_at "z.go"
    refine w_compM P.int (fun b => tupI [a, b]) ?_
    walk_at "z.go"
    refine ⟨⟨_, by walk_at "z.at", h4⟩, ?_, fun x hx => ?_, ?_⟩
    · exact le_size hb (by omega)
    · walk_at "z.cs"
      walk_at "z.go"
      exact ⟨rfl, rfl⟩
    · have e1 : (bs.map fun b => tupI [a, b]) = (bs.map fun b => [a, b]).map tupI := by rw [List.map_map]; rfl
      rw [e1]
      have a0 := add_T (G := G) (H := bs.map fun b => [a, b]) (by rw [List.length_map]; omega)
      walk_at "z.go"
      refine .inl ⟨.inl rfl, _, _, _, rfl, h4, ?_⟩
      rw [← hG, List.append_assoc]
      rfl
  · obtain ⟨G, s3, s4, rfl, h4, hG⟩ := hI
    have hG : G = prX as bs := by simpa [prX] using hG
    subst hG
    walk_at "z.go"
    exact ⟨_, _, .inl rfl, rfl, q⟩
theorem gs_facts : ∀ (n : Nat) (e : Ex), ExOk e → szX e ≤ n → szX e ≤ 64 → (ltX e).length ≤ 16 → ∀ {R : D → List D → Prop}, R (.val (fxP (fcX e))) [.val (exP e)] → Gs (m_law_facts n [.val (exP e)]) R
  | 0, e, _, h, _, _, _, _ => by cases e <;> simp [szX] at h
  | n + 1, .stay, _, _, _, _, R, q => by
    have i0 : gIx (exP .stay) (.int 0) = some (.val (.str "stay")) := rfl
    show Gs (fnM 1 6 (bm_law_facts (m_law_facts n)) _) R
    unfold bm_law_facts
    refine gs_fn (by rfl) ?_
    walk_at "z.st"
    walk_at "z.go"
    rw [decide_eq_true (rfl : ("stay" : Str) = "stay")]
    walk_at "z.go"
    exact ⟨_, _, .inl rfl, rfl, q⟩
  | n + 1, .step l b, _, _, _, _, R, q => by
    have i0 : gIx (exP (.step l b)) (.int 0) = some (.val (.str "step")) := rfl
    have i1 : gIx (exP (.step l b)) (.int 1) = some (.val (.int l)) := rfl
    show Gs (fnM 1 6 (bm_law_facts (m_law_facts n)) _) R
    unfold bm_law_facts
    refine gs_fn (by rfl) ?_
    walk_at "z.st"
    walk_at "z.go"
    rw [decide_eq_false (by decide +kernel : ¬ ("step" : Str) = "stay")]
    walk_at "z.go"
    rw [decide_eq_true (rfl : ("step" : Str) = "step")]
    walk_at "z.go"
    exact ⟨_, _, .inl rfl, rfl, q⟩
  | n + 1, .un w e, ok, h, h2, h3, R, q => by
    simp only [szX] at h h2
    have h3 : (ltX e).length ≤ 16 := h3
    have i0 : gIx (exP (.un w e)) (.int 0) = some (.val (.str w)) := rfl
    have i1 : gIx (exP (.un w e)) (.int 1) = some (.val (exP e)) := rfl
    have n1 : ¬ w = "stay" := by rcases ok.1 with rfl | rfl | rfl <;> decide +kernel
    have n2 : ¬ w = "step" := by rcases ok.1 with rfl | rfl | rfl <;> decide +kernel
    obtain ⟨l1, l2, l3⟩ := fc_len e
    have l4 : szX e * ((ltX e).length * (ltX e).length) ≤ 64 * (16 * 16) := Nat.mul_le_mul (by omega) (Nat.mul_le_mul h3 h3)
    have j0 : gIx (fxP (fcX e)) (.int 0) = some (.val (.bl (fcX e).em)) := rfl
    have j1 : gIx (fxP (fcX e)) (.int 1) = some (.val (.lst ((fcX e).fs.map .int))) := rfl
    have j2 : gIx (fxP (fcX e)) (.int 2) = some (.val (.lst ((fcX e).fo.map tupI))) := rfl
    have j3 : gIx (fxP (fcX e)) (.int 3) = some (.val (.lst ((fcX e).la.map .int))) := rfl
    show Gs (fnM 1 6 (bm_law_facts (m_law_facts n)) _) R
    unfold bm_law_facts
    refine gs_fn (by rfl) ?_
    walk_at "z.st"
    walk_at "z.go"
    rw [decide_eq_false n1]
    walk_at "z.go"
    rw [decide_eq_false n2]
    walk_at "z.go"
    refine gs_facts n e ok.2 (by omega) (by omega) h3 ?_
    have hem : (fxP (fcX e)) = (fxP (fcX e)) := rfl
    have m1 : gIn (.str w) (.tup [.str "star", .str "plus"]) = some (.val (.bl (decide (w = "star" ∨ w = "plus")))) := by
      rw [o_inS2 (by rcases ok.1 with rfl | rfl | rfl <;> decide +kernel) (by decide +kernel) (by decide +kernel)]
      simp
    walk_at "z.go"
    by_cases hm : w = "maybe"
    · rw [decide_eq_true hm]
      walk_at "z.go"
      refine ⟨_, _, .inl rfl, rfl, ?_⟩
      simp only [fcX, if_pos hm] at q
      exact q
    · have hsp : w = "star" ∨ w = "plus" := by
        rcases ok.1 with h | h | h
        · exact .inl h
        · exact .inr h
        · exact absurd h hm
      have a0 := add_T (G := (fcX e).fo) (H := prX (fcX e).la (fcX e).fs) (by
        rw [prX_len]
        have := Nat.mul_le_mul (Nat.le_trans l2 h3) (Nat.le_trans l1 h3)
        omega)
      simp only [fcX, if_neg hm] at q
      rw [decide_eq_false hm]
      walk_at "z.go"
      rw [decide_eq_true hsp]
      walk_at "z.go"
      refine w_orV ?_
      walk_at "z.go"
      refine ⟨fun he => ?_, fun he => ?_⟩
      · rw [he] at q
        walk_at "z.go"
        refine gs_pairs (by omega) (by omega) ?_
        walk_at "z.go"
        exact ⟨_, _, .inl rfl, rfl, q⟩
      · rw [he] at q
        walk_at "z.go"
        refine gs_pairs (by omega) (by omega) ?_
        walk_at "z.go"
        exact ⟨_, _, .inl rfl, rfl, q⟩
  | n + 1, .bi w e f, ok, h, h2, h3, R, q => by
    simp only [szX, ltX, List.length_append] at h h2 h3
    have i0 : gIx (exP (.bi w e f)) (.int 0) = some (.val (.str w)) := rfl
    have i1 : gIx (exP (.bi w e f)) (.int 1) = some (.val (exP e)) := rfl
    have i2 : gIx (exP (.bi w e f)) (.int 2) = some (.val (exP f)) := rfl
    have n1 : ¬ w = "stay" := by rcases ok.1 with rfl | rfl <;> decide +kernel
    have n2 : ¬ w = "step" := by rcases ok.1 with rfl | rfl <;> decide +kernel
    have n3 : ¬ w = "maybe" := by rcases ok.1 with rfl | rfl <;> decide +kernel
    have m1 : gIn (.str w) (.tup [.str "star", .str "plus"]) = some (.val (.bl false)) := by
      rw [o_inS2 (by rcases ok.1 with rfl | rfl <;> decide +kernel) (by decide +kernel) (by decide +kernel)]
      rcases ok.1 with rfl | rfl <;> exact congrArg (fun b => some (D.val (.bl b))) (by decide +kernel)
    obtain ⟨l1, l2, l3⟩ := fc_len e
    obtain ⟨g1, g2, g3⟩ := fc_len f
    have l4 : szX e * ((ltX e).length * (ltX e).length) ≤ 64 * (16 * 16) := Nat.mul_le_mul (by omega) (Nat.mul_le_mul (by omega) (by omega))
    have g4 : szX f * ((ltX f).length * (ltX f).length) ≤ 64 * (16 * 16) := Nat.mul_le_mul (by omega) (Nat.mul_le_mul (by omega) (by omega))
    have j0 : gIx (fxP (fcX e)) (.int 0) = some (.val (.bl (fcX e).em)) := rfl
    have j1 : gIx (fxP (fcX e)) (.int 1) = some (.val (.lst ((fcX e).fs.map .int))) := rfl
    have j2 : gIx (fxP (fcX e)) (.int 2) = some (.val (.lst ((fcX e).fo.map tupI))) := rfl
    have j3 : gIx (fxP (fcX e)) (.int 3) = some (.val (.lst ((fcX e).la.map .int))) := rfl
    have k0 : gIx (fxP (fcX f)) (.int 0) = some (.val (.bl (fcX f).em)) := rfl
    have k1 : gIx (fxP (fcX f)) (.int 1) = some (.val (.lst ((fcX f).fs.map .int))) := rfl
    have k2 : gIx (fxP (fcX f)) (.int 2) = some (.val (.lst ((fcX f).fo.map tupI))) := rfl
    have k3 : gIx (fxP (fcX f)) (.int 3) = some (.val (.lst ((fcX f).la.map .int))) := rfl
    have a1 := add_I (G := (fcX e).fs) (H := (fcX f).fs) (by omega)
    have a2 := add_T (G := (fcX e).fo) (H := (fcX f).fo) (by omega)
    have a3 := add_I (G := (fcX e).la) (H := (fcX f).la) (by omega)
    have a4 := add_I (G := (fcX f).la) (H := (fcX e).la) (by omega)
    have mm := Nat.mul_le_mul (show (fcX e).la.length ≤ 16 by omega) (show (fcX f).fs.length ≤ 16 by omega)
    have a5 := add_T (G := (fcX e).fo ++ (fcX f).fo) (H := prX (fcX e).la (fcX f).fs) (by
      rw [prX_len, List.length_append]
      omega)
    show Gs (fnM 1 6 (bm_law_facts (m_law_facts n)) _) R
    unfold bm_law_facts
    refine gs_fn (by rfl) ?_
    walk_at "z.st"
    walk_at "z.go"
    rw [decide_eq_false n1]
    walk_at "z.go"
    rw [decide_eq_false n2]
    walk_at "z.go"
    refine gs_facts n e ok.2.1 (by omega) (by omega) (by omega) ?_
    walk_at "z.go"
    rw [decide_eq_false n3]
    walk_at "z.go"
    refine gs_facts n f ok.2.2 (by omega) (by omega) (by omega) ?_
    walk_at "z.go"
    by_cases hm : w = "either"
    · simp only [fcX, if_pos hm] at q
      rw [decide_eq_true hm]
      walk_at "z.go"
      refine w_orV ?_
      walk_at "z.go"
      refine ⟨fun he => ?_, fun he => ?_⟩
      · rw [he] at q
        walk_at "z.go"
        exact ⟨_, _, .inl rfl, rfl, q⟩
      · rw [he] at q
        walk_at "z.go"
        exact ⟨_, _, .inl rfl, rfl, q⟩
    · simp only [fcX, if_neg hm] at q
      rw [decide_eq_false hm]
      walk_at "z.go"
      refine br_gen2 (I := fun e1 => e1 = [.par (.val (exP (.bi w e f))), .loc (.val (.str w)), .loc (.val (fxP (fcX e))), .loc (.val (fxP (fcX f))), .loc (.olst (((if (fcX e).em = true then (fcX e).fs ++ (fcX f).fs else (fcX e).fs).map P.int).map .val)), .loc (.olst (((fcX f).la.map P.int).map .val))]) (fun he => ?_) (fun he => ?_) fun e1 he1 => ?_
      · rw [if_pos he]
        walk_at "z.go"
        exact ⟨rfl, rfl⟩
      · rw [if_neg (show ¬ (fcX e).em = true by simp [he])]
      · subst he1
        walk_at "z.go"
        refine br_gen2 (I := fun e1 => e1 = [.par (.val (exP (.bi w e f))), .loc (.val (.str w)), .loc (.val (fxP (fcX e))), .loc (.val (fxP (fcX f))), .loc (.olst (((if (fcX e).em = true then (fcX e).fs ++ (fcX f).fs else (fcX e).fs).map P.int).map .val)), .loc (.olst (((if (fcX f).em = true then (fcX f).la ++ (fcX e).la else (fcX f).la).map P.int).map .val))]) (fun he => ?_) (fun he => ?_) fun e1 he1 => ?_
        · rw [if_pos he]
          walk_at "z.go"
          exact ⟨rfl, rfl⟩
        · rw [if_neg (show ¬ (fcX f).em = true by simp [he])]
        · subst he1
          walk_at "z.go"
          refine ⟨fun he => ?_, fun he => ?_⟩
          · walk_at "z.go"
            refine gs_pairs (by omega) (by omega) ?_
            walk_at "z.go"
            refine ⟨_, _, .inl rfl, rfl, ?_⟩
            rw [he, Bool.true_and] at q
            rw [he]
            exact q
          · walk_at "z.go"
            refine gs_pairs (by omega) (by omega) ?_
            walk_at "z.go"
            refine ⟨_, _, .inl rfl, rfl, ?_⟩
            rw [he, Bool.false_and] at q
            rw [he]
            exact q


structure Bk where
  em : Int
  lt : List (List Int)
  fs : List Int
  fo : List (List Int)
  la : List Int
def bkP (b : Bk) : P := .tup [.str "book", .int b.em, .tup (b.lt.map tupI), .tup (b.fs.map .int), .tup (b.fo.map tupI), .tup (b.la.map .int)]
def lbB (b : Bk) : List Int := b.lt.map fun g => g.getD 0 0
def Ltr (ls : List Lab) (g : List Int) : Prop := ∃ (l : Nat) (k : Int), g = [(l : Int), k] ∧ l < ls.length ∧ (k = 0 ∨ k = 1) ∧ ((ls[l]?.map (·.rule)) = some "mark" → k = 0)
structure BkOk (ls : List Lab) (b : Bk) : Prop where
  em : b.em = 0 ∨ b.em = 1
  lt : ∀ g ∈ b.lt, Ltr ls g
  up : UpT b.lt
  nd : (lbB b).Nodup
  few : b.lt.length ≤ 8
  fsm : ∀ x ∈ b.fs, x ∈ lbB b
  fom : ∀ g ∈ b.fo, ∃ a ∈ lbB b, ∃ c ∈ lbB b, g = [a, c]
  lam : ∀ x ∈ b.la, x ∈ lbB b
  fsu : b.fs.Pairwise (· < ·)
  fou : UpT b.fo
  lau : b.la.Pairwise (· < ·)
theorem ix_b1 (b : Bk) : gIx (bkP b) (.int 1) = some (.val (.int b.em)) := rfl
theorem ix_b2 (b : Bk) : gIx (bkP b) (.int 2) = some (.val (.tup (b.lt.map tupI))) := rfl
theorem ix_b3 (b : Bk) : gIx (bkP b) (.int 3) = some (.val (.tup (b.fs.map .int))) := rfl
theorem ix_b4 (b : Bk) : gIx (bkP b) (.int 4) = some (.val (.tup (b.fo.map tupI))) := rfl
theorem ix_b5 (b : Bk) : gIx (bkP b) (.int 5) = some (.val (.tup (b.la.map .int))) := rfl
structure Lbs (ls : List Lab) (Li : List Int) : Prop where
  nd : Li.Nodup
  ok : ∀ x ∈ Li, 0 ≤ x ∧ x < ls.length
  few : Li.length ≤ 8
structure Lts (ls : List Lab) (Li : List Int) (A : List (List Int)) : Prop where
  ok : ∀ g ∈ A, Ltr ls g
  hd : (A.map fun g => g.getD 0 0) = Li
theorem mem_upT_map (A : List (List Int)) (x : Int) : x ∈ ((upT A).map fun g => g.getD 0 0) ↔ x ∈ (A.map fun g => g.getD 0 0) := by
  simp only [List.mem_map, mem_upT]
theorem nd_heads {A : List (List Int)} (h : (A.map fun g => g.getD 0 0).Nodup) : ((upT A).map fun g => g.getD 0 0).Nodup := by
  have nA : A.Nodup := List.Pairwise.of_map (fun g : List Int => g.getD 0 0) (fun _ _ hne e => hne (congrArg (fun g : List Int => g.getD 0 0) e)) h
  have pm : (upT A).Perm A := (List.perm_ext_iff_of_nodup (nd_upT (up_upT A)) nA).mpr fun k => mem_upT k A
  exact ((pm.map _).nodup_iff).mpr h
theorem len_heads {A : List (List Int)} (h : (A.map fun g => g.getD 0 0).Nodup) : (upT A).length = A.length := by
  have nA : A.Nodup := List.Pairwise.of_map (fun g : List Int => g.getD 0 0) (fun _ _ hne e => hne (congrArg (fun g : List Int => g.getD 0 0) e)) h
  exact ((List.perm_ext_iff_of_nodup (nd_upT (up_upT A)) nA).mpr fun k => mem_upT k A).length_eq
theorem bkOk_of {ls : List Lab} {Li : List Int} {A : List (List Int)} {em : Int} {fs la : List Int} {fo : List (List Int)} (hL : Lbs ls Li) (hA : Lts ls Li A) (h0 : em = 0 ∨ em = 1)
    (h1 : ∀ x ∈ fs, x ∈ Li) (h2 : ∀ g ∈ fo, ∃ a ∈ Li, ∃ c ∈ Li, g = [a, c]) (h3 : ∀ x ∈ la, x ∈ Li) : BkOk ls ⟨em, upT A, upL fs, upT fo, upL la⟩ := by
  have hn : (A.map fun g => g.getD 0 0).Nodup := by rw [hA.hd]; exact hL.nd
  have mem : ∀ x, x ∈ lbB ⟨em, upT A, upL fs, upT fo, upL la⟩ ↔ x ∈ Li := fun x => by
    show x ∈ ((upT A).map fun g => g.getD 0 0) ↔ _
    rw [mem_upT_map, hA.hd]
  refine ⟨h0, fun g hg => hA.ok g ((mem_upT g A).mp hg), up_upT A, nd_heads hn, ?_, fun x hx => (mem x).mpr (h1 x ((mem_upL x fs).mp hx)), fun g hg => ?_, fun x hx => (mem x).mpr (h3 x ((mem_upL x la).mp hx)), up_upL fs, up_upT fo, up_upL la⟩
  · show (upT A).length ≤ 8
    rw [len_heads hn]
    have := congrArg List.length hA.hd
    rw [List.length_map] at this
    have := hL.few
    omega
  · obtain ⟨a, ha, c, hc, e⟩ := h2 g ((mem_upT g fo).mp hg)
    exact ⟨a, (mem a).mpr ha, c, (mem c).mpr hc, e⟩
theorem few_fo {Li : List Int} {fo : List (List Int)} (h : Li.length ≤ 8) (h2 : ∀ g ∈ fo, ∃ a ∈ Li, ∃ c ∈ Li, g = [a, c]) : (upT fo).length < 305 := by
  have h3 := few_upT (G := fo) (D := prX Li Li) fun g hg => by
    obtain ⟨a, ha, c, hc, e⟩ := h2 g hg
    exact mem_prX.mpr ⟨a, ha, c, hc, e⟩
  rw [prX_len] at h3
  have := Nat.mul_le_mul h h
  omega
theorem ne_two {fo : List (List Int)} {Li : List Int} (h2 : ∀ g ∈ fo, ∃ a ∈ Li, ∃ c ∈ Li, g = [a, c]) : ∀ g ∈ fo, g ≠ [] := fun g hg e => by
  obtain ⟨a, _, c, _, e2⟩ := h2 g hg
  rw [e2] at e
  cases e
theorem ne_ltr {ls : List Lab} {A : List (List Int)} (h : ∀ g ∈ A, Ltr ls g) : ∀ g ∈ A, g ≠ [] := fun g hg e => by
  obtain ⟨l, k, e2, _⟩ := h g hg
  rw [e2] at e
  cases e
def bX (e : Ex) : Bk := ⟨if (fcX e).em then 1 else 0, upT (ltX e), upL (fcX e).fs, upT (fcX e).fo, upL (fcX e).la⟩
theorem gs_step {d : Dw} {ks : List (Str × Nat)} {ls : List Lab} {l : Int} {R : D → List D → Prop} (hl : 0 ≤ l ∧ l < ls.length) (q : ∀ (k : Int) (d' : Dw), Ltr ls [l, k] → R (.val (.tup [.str "step", .int l, .int k])) [.olst (dl d'), .val (schP ks ls), .val (.int l)]) :
    Gs (m_law_step [.olst (dl d), .val (schP ks ls), .val (.int l)]) R := by
  obtain ⟨l, rfl⟩ := Int.eq_ofNat_of_zero_le hl.1
  have hl : l < ls.length := by omega
  have hs2 := ix_s2 ks ls
  have h1 : atI (ls.map labP) l = some (labP ls[l]) := at_map (by simp [hl])
  have hr := ix_l4 ls[l]
  have z : ∀ (k : Int), (k = 0 ∨ k = 1) → ((ls[l]).rule = "mark" → k = 0) → Ltr ls [(l : Int), k] := fun k h0 hm => ⟨l, k, rfl, hl, h0, fun h => hm (by simpa [hl] using h)⟩
  generalize ls[l] = b at *
  unfold m_law_step bm_law_step; refine gs_fn (by rfl) ?_; walk_at "z.st"; walk_at "z.go"
  refine ⟨fun hc => ?_, fun hc => ?_⟩
  · have hnm : ¬ b.rule = "mark" := by simpa using hc
    walk_at "z.go"
    refine gs_draw (by omega) (by omega) fun j d' hj0 hj1 => ?_
    walk_at "z.go"
    refine ⟨fun _ => ?_, fun _ => ?_⟩
    · walk_at "z.go"
      exact ⟨_, _, .inl rfl, rfl, q 1 d' (z 1 (.inr rfl) fun h => absurd h hnm)⟩
    · walk_at "z.go"
      exact ⟨_, _, .inl rfl, rfl, q 0 d' (z 0 (.inl rfl) fun _ => rfl)⟩
  · walk_at "z.go"
    exact ⟨_, _, .inl rfl, rfl, q 0 d (z 0 (.inl rfl) fun _ => rfl)⟩


def szL (its : List Ex) : Nat := (its.map szX).sum
theorem szL_app (a b : List Ex) : szL (a ++ b) = szL a + szL b := by simp [szL]
theorem szL_cons (a : Ex) (b : List Ex) : szL (a :: b) = szX a + szL b := by simp [szL]
structure Its (LT : List (List Int)) (m w : Nat) (its : List Ex) : Prop where
  ne : its ≠ []
  len : its.length ≤ m
  ok : ∀ e ∈ its, ExOk e
  lt : its.flatMap ltX = LT
  sz : szL its + its.length ≤ 2 * m + w
theorem split1 {its : List Ex} {j : Nat} (h : j < its.length) : its = its.take j ++ its[j] :: its.drop (j + 1) := by
  rw [← List.drop_eq_getElem_cons h, List.take_append_drop]
theorem Its.wrap {LT : List (List Int)} {m w : Nat} {its : List Ex} (h : Its LT m w its) {j : Nat} (hj : j < its.length) {wd : Str} (hw : wd = "star" ∨ wd = "plus" ∨ wd = "maybe") : Its LT m (w + 1) (its.set j (.un wd its[j])) := by
  have e := split1 hj
  have e2 : its.set j (.un wd its[j]) = its.take j ++ .un wd its[j] :: its.drop (j + 1) := by
    rw [List.set_eq_take_append_cons_drop, if_pos hj]
  have hl := h.lt
  have hs := h.sz
  refine ⟨fun z => h.ne (by simpa using z), by rw [List.length_set]; exact h.len, fun x hx => ?_, ?_, ?_⟩
  · rcases List.mem_or_eq_of_mem_set hx with z | z
    · exact h.ok x z
    · rw [z]; exact ⟨hw, h.ok _ (List.getElem_mem hj)⟩
  · rw [e2]
    rw [e] at hl
    simp only [List.flatMap_append, List.flatMap_cons, ltX] at hl ⊢
    exact hl
  · rw [List.length_set, e2, szL_app, szL_cons]
    rw [e, szL_app, szL_cons] at hs
    rw [← e] at hs
    simp only [szX]
    omega
theorem split2 {its : List Ex} {j : Nat} (h : j + 1 < its.length) : its = its.take j ++ its[j] :: its[j + 1] :: its.drop (j + 2) := by
  rw [← List.drop_eq_getElem_cons h, ← List.drop_eq_getElem_cons (by omega), List.take_append_drop]
theorem Its.join {LT : List (List Int)} {m w : Nat} {its : List Ex} (h : Its LT m w its) {j : Nat} (hj : j + 1 < its.length) {wd : Str} (hw : wd = "then" ∨ wd = "either") :
    Its LT m w (its.take j ++ [Ex.bi wd its[j] its[j + 1]] ++ its.drop (j + 2)) ∧ (its.take j ++ [Ex.bi wd its[j] its[j + 1]] ++ its.drop (j + 2)).length + 1 = its.length := by
  have e := split2 hj
  have hl := h.lt
  have hs := h.sz
  have hlen : (its.take j ++ [Ex.bi wd its[j] its[j + 1]] ++ its.drop (j + 2)).length + 1 = its.length := by
    simp only [List.length_append, List.length_take, List.length_cons, List.length_nil, List.length_drop]
    omega
  refine ⟨⟨by simp, by have := h.len; omega, fun x hx => ?_, ?_, ?_⟩, hlen⟩
  · rcases List.mem_append.mp hx with z | z
    · rcases List.mem_append.mp z with z | z
      · exact h.ok x (List.mem_of_mem_take z)
      · rw [(List.mem_singleton.mp z)]
        exact ⟨hw, h.ok _ (List.getElem_mem (by omega)), h.ok _ (List.getElem_mem hj)⟩
    · exact h.ok x (List.mem_of_mem_drop z)
  · rw [e] at hl
    simp only [List.flatMap_append, List.flatMap_cons, List.flatMap_nil, ltX, List.append_nil, List.append_assoc] at hl ⊢
    exact hl
  · have hs2 : szL its = szL (its.take j) + (szX its[j] + (szX its[j + 1] + szL (its.drop (j + 2)))) := by
      have := congrArg szL e
      rwa [szL_app, szL_cons, szL_cons] at this
    rw [szL_app, szL_app, szL_cons]
    simp only [szX]
    have : szL ([] : List Ex) = 0 := rfl
    omega
theorem at_ex {its : List Ex} {j : Int} (h0 : 0 ≤ j) (h1 : j < its.length) : gIx (.lst (its.map exP)) (.int j) = some (.val (exP (its[j.toNat]'(by omega)))) := o_ixl (at_mapI h0 (by simp [show j.toNat < its.length by omega]))
theorem gs_expression {d0 : Dw} {ks : List (Str × Nat)} {ls : List Lab} {Li : List Int} {R : D → List D → Prop} (hL : Lbs ls Li) (q : ∀ (e : Ex) (d' : Dw), ExOk e → szX e ≤ 30 → Lts ls Li (ltX e) → R (.val (exP e)) [.olst (dl d'), .val (schP ks ls), .val (.lst (Li.map .int))]) :
    Gs (m_law_expression [.olst (dl d0), .val (schP ks ls), .olst ((Li.map .int).map .val)]) R := by
  have hf := hL.few
  unfold m_law_expression bm_law_expression; refine gs_fn (by rfl) ?_; walk_at "z.st"; walk_at "z.go"
  refine w_compX P.int (fun rest acc e => ∃ (d : Dw) (A : List (List Int)) (Lo : List Int), acc = ((A.map fun g => Ex.step (g.getD 0 0) (g.getD 1 0)).map exP).map .val ∧ Lts ls Lo A ∧ Lo ++ rest = Li ∧
    e = [.par (.olst (dl d)), .par (.val (schP ks ls)), .par (.val (.lst (Li.map .int))), .un, .un, .un, .un, .un, .un, .un]) ?_
  walk_at "z.go"
  refine ⟨⟨d0, [], [], rfl, ⟨fun _ h => (nomatch h), rfl⟩, rfl, rfl⟩, fun x rest acc e2 hx hJ => ?_, fun acc e6 hJ => ?_⟩
  · obtain ⟨d, A, Lo, rfl, hA, hLo, rfl⟩ := hJ
    have hAl : A.length = Lo.length := by
      have := congrArg List.length hA.hd
      rwa [List.length_map] at this
    have hll : Lo.length + (rest.length + 1) = Li.length := by
      rw [← hLo, List.length_append]
      rfl
    refine ⟨_, gN_set (by walk_at "z.at"), ?_⟩
    walk_at "z.go"
    refine gs_step (hL.ok x hx) fun k d' hk => ?_
    walk_at "z.go"
    refine ⟨lt_size (k := 100) (by simp; omega) (by omega), d', A ++ [[x, k]], Lo ++ [x], by simp [exP], ⟨fun g hg => ?_, ?_⟩, by rw [← hLo, List.append_assoc]; rfl, rfl⟩
    · rcases List.mem_append.mp hg with z | z
      · exact hA.ok g z
      · rw [List.mem_singleton.mp z]; exact hk
    · rw [List.map_append, hA.hd]
      rfl
  · obtain ⟨d, A, Lo, rfl, hA, hLo, rfl⟩ := hJ
    rw [List.append_nil] at hLo
    subst hLo
    rw [res1 (by walk_at "z.at") (by walk_at "z.at")]
    have hAl : A.length = Lo.length := by
      have := congrArg List.length hA.hd
      rwa [List.length_map] at this
    have hst : (A.map fun g => Ex.step (g.getD 0 0) (g.getD 1 0)).flatMap ltX = A := by
      have : ∀ B : List (List Int), (∀ g ∈ B, Ltr ls g) → (B.map fun g => Ex.step (g.getD 0 0) (g.getD 1 0)).flatMap ltX = B := by
        intro B
        induction B with
        | nil => intro _; rfl
        | cons g B ih =>
          intro h
          obtain ⟨l, k, e, _⟩ := h g List.mem_cons_self
          rw [List.map_cons, List.flatMap_cons, ih fun x hx => h x (List.mem_cons_of_mem _ hx), e]
          rfl
      exact this A hA.ok
    have hsz : ∀ B : List (List Int), szL (B.map fun g => Ex.step (g.getD 0 0) (g.getD 1 0)) = B.length := by
      intro B
      induction B with
      | nil => rfl
      | cons g B ih =>
        rw [List.map_cons, szL_cons, ih, List.length_cons]
        simp only [szX]
        omega
    have hsz := hsz A
    have hok : ∀ e ∈ A.map fun g => Ex.step (g.getD 0 0) (g.getD 1 0), ExOk e := fun e he => by
      obtain ⟨g, _, rfl⟩ := List.mem_map.mp he
      trivial
    have hcl : (A.map fun g => Ex.step (g.getD 0 0) (g.getD 1 0)).length = A.length := List.length_map _
    generalize (A.map fun g => Ex.step (g.getD 0 0) (g.getD 1 0)) = its0 at hst hsz hok hcl ⊢
    walk_at "z.gi"
    have inst : ∀ d : Dw, W ((sDrop (mMu hInsert 3 (mLcons (mCall m_law_draw (mAn 0 (mAe (mOp gAdd (mP (mUn gLen (mW 3))) (mC (.int 1))) mAnil))) (mLcons (mTup (mLcons (mV (mC (.str "stay"))) mLnil)) mLnil))))
        [.par (.olst (dl d)), .par (.val (schP ks ls)), .par (.val (.lst (Lo.map .int))), .loc (.olst ((its0.map exP).map .val)), .un, .un, .un, .un, .un, .un])
        (fun o e1 => o = .nx ∧ ∃ (d : Dw) (its : List Ex), Its A 9 0 its ∧ e1 = [.par (.olst (dl d)), .par (.val (schP ks ls)), .par (.val (.lst (Lo.map .int))), .loc (.olst ((its.map exP).map .val)), .un, .un, .un, .un, .un, .un]) := by
      intro d
      walk_at "z.go"
      refine gs_draw (by rw [List.length_map]; omega) (by rw [List.length_map]; omega) fun k d' hk0 hk1 => ?_
      rw [List.length_map] at hk1
      have hins := ins_at (ps := its0.map exP) (k := k) (p := .tup [.str "stay"]) hk0 (by omega) (by simp; omega)
      have e1 : (its0.map exP).take k.toNat ++ [.tup [.str "stay"]] ++ (its0.map exP).drop k.toNat = (its0.take k.toNat ++ [Ex.stay] ++ its0.drop k.toNat).map exP := by
        simp [exP, List.map_take, List.map_drop]
      rw [e1] at hins
      walk_at "z.go"
      refine ⟨rfl, d', its0.take k.toNat ++ [Ex.stay] ++ its0.drop k.toNat, ⟨by simp, ?_, fun e he => ?_, ?_, ?_⟩, rfl⟩
      · simp only [List.length_append, List.length_take, List.length_drop, List.length_cons, List.length_nil]
        omega
      · rcases List.mem_append.mp he with z | z
        · rcases List.mem_append.mp z with z | z
          · exact hok e (List.mem_of_mem_take z)
          · rw [List.mem_singleton.mp z]; trivial
        · exact hok e (List.mem_of_mem_drop z)
      · have h7 : its0.flatMap ltX = (its0.take k.toNat).flatMap ltX ++ (its0.drop k.toNat).flatMap ltX := by rw [← List.flatMap_append, List.take_append_drop]
        rw [List.flatMap_append, List.flatMap_append]
        rw [h7] at hst
        simpa [ltX] using hst
      · have h5 : szL its0 = szL (its0.take k.toNat) + szL (its0.drop k.toNat) := by
          have := congrArg szL (List.take_append_drop k.toNat its0)
          rw [szL_app] at this
          exact this.symm
        simp only [szL_app, szL_cons, List.length_append, List.length_take, List.length_drop, List.length_cons, List.length_nil, szX]
        have : szL ([] : List Ex) = 0 := rfl
        omega
    refine w_mid (fun e1 => ∃ (d : Dw) (its : List Ex), Its A 9 0 its ∧ e1 = [.par (.olst (dl d)), .par (.val (schP ks ls)), .par (.val (.lst (Lo.map .int))), .loc (.olst ((its.map exP).map .val)), .un, .un, .un, .un, .un, .un]) ?_ ?_
    · walk_at "z.go"
      refine ⟨fun h => ?_, fun _ => br_t (inst d)⟩
      walk_at "z.go"
      refine gs_draw (by omega) (by omega) fun k d' hk0 hk1 => ?_
      walk_at "z.go"
      refine ⟨fun _ => inst d', fun _ => ?_⟩
      walk_at "z.go"
      refine ⟨rfl, d', its0, ⟨fun z => ?_, by omega, hok, hst, by omega⟩, rfl⟩
      rw [z] at h
      simp at h
    · rintro e1 ⟨d, its, hI, rfl⟩
      have hlen := hI.len
      have hm3 : gMul (.int 3) (.int ((its.map exP).length : Nat)) = some (.val (.int (3 * ((its.map exP).length : Nat)))) := o_mull (by omega)
      walk_at "z.go"
      refine ⟨by simp; omega, ?_⟩
      have fin : ∀ (d : Dw) (its : List Ex) (w : Nat) (s5 s6 s7 s8 : Sl), Its A 9 w its → w ≤ 6 → (Out.nx = Out.nx → W (sSeq (whileL (mTb (mOp gGt (mP (mUn gLen (mW 3))) (mC (.int 1))))
          (sSetSl 3 (mLst (mLcons (mTup (mLcons (mV (mC (.str "then"))) (mLcons (mOpN gIx 3 (mC (.int 0))) (mLcons (mOpN gIx 3 (mC (.int 1))) mLnil)))) mLnil)) (mOp1 (mC (.int 0))) (mOp1 (mC (.int 2)))) fuel)
          (sRet (mOpN gIx 3 (mC (.int 0)))) [.par (.olst (dl d)), .par (.val (schP ks ls)), .par (.val (.lst (Lo.map .int))), .loc (.olst ((its.map exP).map .val)), .loc (.val (.int w)), s5, s6, s7, s8, .un])
          (fun o e => ∃ d_1 ds', (o = .ret d_1 ∨ o = .nx ∧ d_1 = .val .non) ∧ outs [.olst (dl d0), .val (schP ks ls), .olst ((Lo.map .int).map .val)] e = some ds' ∧ R d_1 ds')) ∧ (Out.nx ≠ Out.nx → ∃ d_1 ds', (Out.nx = .ret d_1 ∨ Out.nx = .nx ∧ d_1 = .val .non) ∧ outs [.olst (dl d0), .val (schP ks ls), .olst ((Lo.map .int).map .val)] [.par (.olst (dl d)), .par (.val (schP ks ls)), .par (.val (.lst (Lo.map .int))), .loc (.olst ((its.map exP).map .val)), .loc (.val (.int w)), s5, s6, s7, s8, .un] = some ds' ∧ R d_1 ds') := by
        intro d its w s5 s6 s7 s8 hI hw
        refine sq_nx ?_
        have hln : its.length ≤ 9 := hI.len
        refine w_cut (fun e => ∃ its : List Ex, Its A 9 w its ∧ its.length = 1 ∧ e = [.par (.olst (dl d)), .par (.val (schP ks ls)), .par (.val (.lst (Lo.map .int))), .loc (.olst ((its.map exP).map .val)), .loc (.val (.int w)), s5, s6, s7, s8, .un]) ?_ ?_
        · refine while_n (fun n e => ∃ its : List Ex, Its A 9 w its ∧ its.length = n ∧ e = [.par (.olst (dl d)), .par (.val (schP ks ls)), .par (.val (.lst (Lo.map .int))), .loc (.olst ((its.map exP).map .val)), .loc (.val (.int w)), s5, s6, s7, s8, .un]) (fun n e hJ => ?_) fuel its.length _ (by show its.length < 1000000; omega) ⟨its, hI, rfl, rfl⟩
          obtain ⟨its, hI, hn, rfl⟩ := hJ
          have hlp := List.length_pos_iff.mpr hI.ne
          have hln : its.length ≤ 9 := hI.len
          walk_at "z.go"
          refine ⟨fun hc => ?_, fun hc => ?_⟩
          · have hc : (1 : Int) < (its.map exP).length := by simpa using hc
            rw [List.length_map] at hc
            have x0 := at_ex (its := its) (j := 0) (by omega) (by omega)
            have x1 := at_ex (its := its) (j := 1) (by omega) (by omega)
            simp only [show (0 : Int).toNat = 0 from rfl] at x0
            simp only [show (1 : Int).toNat = 0 + 1 from rfl] at x1
            obtain ⟨hJ, hJl⟩ := hI.join (j := 0) (wd := "then") (by omega) (.inl rfl)
            refine ⟨its.length - 1, by omega, ?_⟩
            refine w_setSl ?_
            walk_at "z.go"
            refine ⟨DatR.chk (by walk_at "z.at"), ?_⟩
            walk_at "z.go"
            refine ⟨_, 0, 2, _, _, _, rfl, rfl, rfl, by walk_at "z.at", rfl, ⟨by omega, by omega, by simp; omega, le_size (k := 100) (by simp; omega) (by omega)⟩, by walk_at "z.at", rfl, its.take 0 ++ [Ex.bi "then" (its[0]'(by omega)) (its[0 + 1]'(by omega))] ++ its.drop (0 + 2), hJ, by omega, ?_⟩
            have e3 : ((its.map exP).map D.val).take (0 : Int).toNat ++ [D.val (.tup [.str "then", exP (its[0]'(by omega)), exP (its[0 + 1]'(by omega))])] ++ ((its.map exP).map D.val).drop (2 : Int).toNat =
                ((its.take 0 ++ [Ex.bi "then" (its[0]'(by omega)) (its[0 + 1]'(by omega))] ++ its.drop (0 + 2)).map exP).map .val := by
              simp [exP, List.map_drop]
            rw [← e3]
            rfl
          · have hc : ¬ (1 : Int) < (its.map exP).length := by simpa using hc
            rw [List.length_map] at hc
            exact ⟨rfl, its, hI, by omega, rfl⟩
        · rintro e1 ⟨its, hI, h1, rfl⟩
          obtain ⟨e, rfl⟩ := List.length_eq_one_iff.mp h1
          have x0 : gIx (.lst ([e].map exP)) (.int 0) = some (.val (exP e)) := rfl
          have hlt : ltX e = A := by simpa using hI.lt
          have hs := hI.sz
          have hs1 : szL [e] = szX e := by simp [szL]
          rw [hs1] at hs
          simp only [List.length_cons, List.length_nil] at hs
          walk_at "z.go"
          exact ⟨_, _, .inl rfl, rfl, q e d (hI.ok e (by simp)) (by omega) (by rw [hlt]; exact hA)⟩
      refine for_rng (n := (3 * ((its.map exP).length : Nat) + 3 : Int).toNat) rfl (fun j e => ∃ (d : Dw) (its : List Ex) (w : Nat) (s5 s6 s7 s8 : Sl), Its A 9 w its ∧ w ≤ 6 ∧ e = [.par (.olst (dl d)), .par (.val (schP ks ls)), .par (.val (.lst (Lo.map .int))), .loc (.olst ((its.map exP).map .val)), .loc (.val (.int w)), s5, s6, s7, s8, .un]) _ ⟨d, its, 0, _, _, _, _, hI, by omega, rfl⟩ (fun j e hj hI => ?_) (fun e hI => ?_)
      · obtain ⟨d, its, w, s5, s6, s7, s8, hI, hw, rfl⟩ := hI
        refine ⟨_, gN_set (by walk_at "z.at"), ?_⟩
        have hln : its.length ≤ 9 := hI.len
        have hlp := List.length_pos_iff.mpr hI.ne
        have hp : (0 : Int) < (its.map exP).length := by rw [List.length_map]; omega
        have hp2 : ((its.map exP).length : Int) < 1073741824 := by rw [List.length_map]; omega
        walk_at "z.go"
        refine gs_draw hp hp2 fun k d1 hk0 hk1 => ?_
        rw [List.length_map] at hk1
        walk_at "z.go"
        refine gs_draw (by omega) (by omega) fun wy d2 _ _ => ?_
        have hin := o_in3 wy 1 4 6
        walk_at "z.gi"
        have els : ∀ d : Dw, W ((sIf (mTb (mOp gGt (mP (mUn gLen (mW 3))) (mC (.int 1))))
            (sSeq (sAsg (mCall m_law_draw (mAn 0 (mAe (mOp gSub (mP (mUn gLen (mW 3))) (mC (.int 1))) mAnil))) (gN 6))
            (sSeq (sAsg (mCall m_law_pick (mAn 0 (mAe (mLst (mLcons (mV (mC (.str "then"))) (mLcons (mV (mC (.str "then"))) (mLcons (mV (mC (.str "either"))) mLnil)))) mAnil))) (gN 8))
            (sSetSl 3 (mLst (mLcons (mTup (mLcons (mV (mN 8)) (mLcons (mOpN gIx 3 (mN 6)) (mLcons (mOpN gIx 3 (mP (mOp gAdd (mN 6) (mC (.int 1))))) mLnil)))) mLnil)) (mOp1 (mN 6)) (mOp1 (mP (mOp gAdd (mN 6) (mC (.int 2))))))))
            sNil) [.par (.olst (dl d)), .par (.val (schP ks ls)), .par (.val (.lst (Lo.map .int))), .loc (.olst ((its.map exP).map .val)), .loc (.val (.int w)), .loc (.val (.int j)), .loc (.val (.int k)), .loc (.val (.int wy)), s8, .un])
            (fun o e1 => o = .nx ∧ ∃ (d : Dw) (its : List Ex) (w : Nat) (s6 s8 : Sl), Its A 9 w its ∧ w ≤ 6 ∧ e1 = [.par (.olst (dl d)), .par (.val (schP ks ls)), .par (.val (.lst (Lo.map .int))), .loc (.olst ((its.map exP).map .val)), .loc (.val (.int w)), .loc (.val (.int j)), s6, .loc (.val (.int wy)), s8, .un]) := by
          intro d
          walk_at "z.go"
          refine ⟨fun hc => ?_, fun _ => ?_⟩
          · have hc : (1 : Int) < (its.map exP).length := by simpa using hc
            rw [List.length_map] at hc
            walk_at "z.go"
            refine gs_draw (by rw [List.length_map]; omega) (by rw [List.length_map]; omega) fun a d1 ha0 ha1 => ?_
            rw [List.length_map] at ha1
            walk_at "z.go"
            refine gs_pick_o (ps := [.str "then", .str "then", .str "either"]) rfl (by simp) (by simp) fun p hp d3 => ?_
            obtain ⟨wd, rfl, hwd⟩ : ∃ wd : Str, p = .str wd ∧ (wd = "then" ∨ wd = "either") := by
              simp only [List.mem_cons, List.not_mem_nil, or_false] at hp
              rcases hp with rfl | rfl | rfl
              · exact ⟨_, rfl, .inl rfl⟩
              · exact ⟨_, rfl, .inl rfl⟩
              · exact ⟨_, rfl, .inr rfl⟩
            have x0 := at_ex (its := its) ha0 (by omega)
            have x1 := at_ex (its := its) (j := a + 1) (by omega) (by omega)
            have e1 : (a + 1).toNat = a.toNat + 1 := by omega
            simp only [e1] at x1
            obtain ⟨hJ, hJl⟩ := hI.join (j := a.toNat) (by omega) hwd
            walk_at "z.go"
            refine w_setSl ?_
            walk_at "z.go"
            refine ⟨DatR.chk (by walk_at "z.at"), ?_⟩
            walk_at "z.go"
            refine ⟨_, a, a + 2, _, _, _, rfl, rfl, rfl, by walk_at "z.at", rfl, ⟨ha0, by omega, by simp; omega, le_size (k := 100) (by simp; omega) (by omega)⟩, by walk_at "z.at", rfl, d3, _, w, .loc (.val (.int a)), .loc (.val (.str wd)), hJ, hw, ?_⟩
            have e2 : (a + 2).toNat = a.toNat + 2 := by omega
            have e3 : ((its.map exP).map D.val).take a.toNat ++ [D.val (.tup [.str wd, exP (its[a.toNat]'(by omega)), exP (its[a.toNat + 1]'(by omega))])] ++ ((its.map exP).map D.val).drop (a + 2).toNat =
                ((its.take a.toNat ++ [Ex.bi wd (its[a.toNat]'(by omega)) (its[a.toNat + 1]'(by omega))] ++ its.drop (a.toNat + 2)).map exP).map .val := by
              rw [e2]
              simp [exP, List.map_take, List.map_drop]
            rw [← e3]
            rfl
          · walk_at "z.go"
            exact ⟨rfl, d, its, w, _, _, hI, hw, rfl⟩
        refine w_mid (fun e1 => ∃ (d : Dw) (its : List Ex) (w : Nat) (s6 s8 : Sl), Its A 9 w its ∧ w ≤ 6 ∧ e1 = [.par (.olst (dl d)), .par (.val (schP ks ls)), .par (.val (.lst (Lo.map .int))), .loc (.olst ((its.map exP).map .val)), .loc (.val (.int w)), .loc (.val (.int j)), s6, .loc (.val (.int wy)), s8, .un]) ?_ ?_
        · walk_at "z.go"
          refine ⟨fun _ => ?_, fun _ => br_f (els d2)⟩
          walk_at "z.go"
          refine ⟨fun hw6 => ?_, fun _ => els d2⟩
          have hw6 : (w : Int) < 6 := by simpa using hw6
          have x0 := at_ex (its := its) hk0 hk1
          walk_at "z.go"
          refine gs_draw (by omega) (by omega) fun a d3 ha0 ha1 => ?_
          obtain ⟨x, hx, hx2⟩ := at_some (xs := [P.str "star", .str "plus", .str "maybe"]) ha0 (by simpa using ha1)
          obtain ⟨wd, rfl, hwd⟩ : ∃ wd : Str, x = .str wd ∧ (wd = "star" ∨ wd = "plus" ∨ wd = "maybe") := by
            simp only [List.not_mem_nil, or_false, List.mem_cons] at hx
            rcases hx with rfl | rfl | rfl
            · exact ⟨_, rfl, .inl rfl⟩
            · exact ⟨_, rfl, .inr (.inl rfl)⟩
            · exact ⟨_, rfl, .inr (.inr rfl)⟩
          have hx3 : gIx (.lst [.str "star", .str "plus", .str "maybe"]) (.int a) = some (.val (.str wd)) := o_ixl hx2
          walk_at "z.go"
          have hput := hI.wrap (j := k.toNat) (by omega) hwd
          refine ex_putV (by walk_at "z.at") hk0 (by rw [List.length_map]; omega) (by walk_at "z.at") ?_
          refine ⟨rfl, d3, _, w + 1, .loc (.val (.int k)), s8, hput, by omega, ?_⟩
          have e3 : (its.map exP).set k.toNat (.tup [.str wd, exP (its[k.toNat]'(by omega))]) = (its.set k.toNat (.un wd (its[k.toNat]'(by omega)))).map exP := by
            rw [List.map_set]
            rfl
          rw [e3]
          rfl
        · rintro e1 ⟨d, its, w, s6, s8, hI, hw, rfl⟩
          walk_at "z.go"
          refine ⟨fun _ => ?_, fun _ => ?_⟩
          · walk_at "z.go"
            refine gs_draw (by omega) (by omega) fun a d3 ha0 ha1 => ?_
            walk_at "z.go"
            refine ⟨fun _ => ?_, fun _ => ?_⟩
            · walk_at "z.go"
              exact .inr (.inl ⟨rfl, fin d3 its w _ _ _ _ hI hw⟩)
            · walk_at "z.go"
              exact .inl ⟨.inl rfl, d3, its, w, _, _, _, _, hI, hw, rfl⟩
          · walk_at "z.go"
            exact .inl ⟨.inl rfl, d, its, w, _, _, _, _, hI, hw, rfl⟩
      · obtain ⟨d, its, w, s5, s6, s7, s8, hI, hw, rfl⟩ := hI
        exact fin d its w s5 s6 s7 s8 hI hw


def hdE (g : List Int) : Int := g.getD 0 0
def bkE (g : List Int) : Int := g.getD 1 0
def ltr (b : Bk) (l : Int) : Option (List Int) := b.lt.find? fun g => decide (hdE g = l)
theorem lbB_hd (b : Bk) : lbB b = b.lt.map hdE := rfl
theorem ltr_some {ls : List Lab} {b : Bk} (ok : BkOk ls b) {l : Int} {g : List Int} (h : ltr b l = some g) : g = [l, bkE g] ∧ g ∈ b.lt ∧ (bkE g = 0 ∨ bkE g = 1) ∧ 0 ≤ l ∧ l < ls.length := by
  have h1 := List.find?_some h
  have h2 := List.mem_of_find?_eq_some h
  obtain ⟨n, k, rfl, hn, hk, _⟩ := ok.lt g h2
  have h1 : ((n : Int) = l) := by simpa [hdE] using h1
  subst h1
  exact ⟨rfl, h2, hk, by omega, by omega⟩
theorem ltr_none {b : Bk} {l : Int} : ltr b l = none ↔ l ∉ lbB b := by
  unfold ltr
  rw [List.find?_eq_none, lbB_hd, List.mem_map]
  simp only [decide_eq_true_eq]
  constructor
  · rintro h ⟨g, hg, e⟩
    exact h g hg e
  · intro h g hg e
    exact h ⟨g, hg, e⟩
theorem ltr_mem {b : Bk} {l : Int} (h : l ∈ lbB b) : ∃ g, ltr b l = some g := by
  cases e : ltr b l with
  | some g => exact ⟨g, rfl⟩
  | none => exact absurd h (ltr_none.mp e)
def fBack (b : Bk) : P := fL (b.lt.map hdE) (b.lt.map fun g => .int (bkE g))
def fLets (b : Bk) : P := fL (b.lt.map hdE) (b.lt.map tupI)
theorem fBack_at (b : Bk) (l : Int) : dAt (.val (fBack b)) (.k (.inl l)) = some ((ltr b l).map fun g => .val (.int (bkE g))) := fL_at b.lt hdE (fun g => .int (bkE g)) l
theorem fLets_at (b : Bk) (l : Int) : dAt (.val (fLets b)) (.k (.inl l)) = some ((ltr b l).map fun g => .val (tupI g)) := fL_at b.lt hdE tupI l
theorem gs_back {ls : List Lab} {b : Bk} {R : D → List D → Prop} (ok : BkOk ls b) (q : R (.val (fBack b)) [.val (bkP b)]) : Gs (m_law_back [.val (bkP b)]) R := by
  have i2 := ix_b2 b
  have hf := ok.few
  unfold m_law_back bm_law_back; refine gs_fn (by rfl) ?_; walk_at "z.st"; walk_at "z.go"
  refine for_invM tupI (fun rest e => ∃ (pre : List (List Int)) (s2 s3 : Sl), e = [.par (.val (bkP b)), .loc (dL (pre.map hdE) (pre.map fun g => .int (bkE g))), s2, s3] ∧ pre ++ rest = b.lt) b.lt _ ⟨[], _, _, rfl, rfl⟩ (fun g rest e hg hI => ?_) (fun e hI => ?_)
  · obtain ⟨pre, s2, s3, rfl, hp⟩ := hI
    obtain ⟨n, k, rfl, hn, hk, _⟩ := ok.lt g hg
    have hl : pre.length + (rest.length + 1) = b.lt.length := by
      rw [← hp, List.length_append]
      rfl
    have hnew : (n : Int) ∉ pre.map hdE := fun m => by
      have nd := ok.nd
      rw [lbB_hd, ← hp, List.map_append, List.nodup_append] at nd
      exact nd.2.2 _ m _ (by simp [hdE]) rfl
    have hput : putD (dL (pre.map hdE) (pre.map fun g => .int (bkE g))) (.k (.inl (n : Int))) (.val (.int k)) = some (dL ((pre ++ [[(n : Int), k]]).map hdE) ((pre ++ [[(n : Int), k]]).map fun g => .int (bkE g))) := by
      rw [dL_put (by simp) (by rw [List.length_map]; omega) hnew, List.map_append, List.map_append]
      rfl
    refine ⟨_, gT2 (i := 2) (j := 3) (by walk_at "z.at") (by walk_at "z.at"), ?_⟩
    walk_at "z.go"
    exact .inl ⟨.inl rfl, pre ++ [[(n : Int), k]], _, _, rfl, by rw [List.append_assoc]; exact hp⟩
  · obtain ⟨pre, s2, s3, rfl, hp⟩ := hI
    rw [List.append_nil] at hp
    subst hp
    walk_at "z.go"
    exact ⟨_, _, .inl rfl, rfl, q⟩
theorem gs_lets {ls : List Lab} {b : Bk} {R : D → List D → Prop} (ok : BkOk ls b) (q : R (.val (fLets b)) [.val (bkP b)]) : Gs (m_letters_by_label [.val (bkP b)]) R := by
  have i2 := ix_b2 b
  have hf := ok.few
  unfold m_letters_by_label bm_letters_by_label
  refine gs_fn (by rfl) ?_
  walk_at "z.st"
  walk_at "z.go"
  refine for_invM tupI (fun rest e => ∃ (pre : List (List Int)) (s2 : Sl), e = [.par (.val (bkP b)), .loc (dL (pre.map hdE) (pre.map tupI)), s2] ∧ pre ++ rest = b.lt) b.lt _ ⟨[], _, rfl, rfl⟩ (fun g rest e hg hI => ?_) (fun e hI => ?_)
  · obtain ⟨pre, s2, rfl, hp⟩ := hI
    obtain ⟨n, k, rfl, hn, hk, _⟩ := ok.lt g hg
    have hl : pre.length + (rest.length + 1) = b.lt.length := by
      rw [← hp, List.length_append]
      rfl
    have hnew : (n : Int) ∉ pre.map hdE := fun m => by
      have nd := ok.nd
      rw [lbB_hd, ← hp, List.map_append, List.nodup_append] at nd
      exact nd.2.2 _ m _ (by simp [hdE]) rfl
    have hput : putD (dL (pre.map hdE) (pre.map tupI)) (.k (.inl (n : Int))) (.val (tupI [(n : Int), k])) = some (dL ((pre ++ [[(n : Int), k]]).map hdE) ((pre ++ [[(n : Int), k]]).map tupI)) := by
      rw [dL_put (by simp) (by rw [List.length_map]; omega) hnew, List.map_append, List.map_append]
      rfl
    have i0 : gIx (tupI [(n : Int), k]) (.int 0) = some (.val (.int n)) := rfl
    refine ⟨_, gN_set (by walk_at "z.at"), ?_⟩
    walk_at "z.go"
    exact .inl ⟨.inl rfl, pre ++ [[(n : Int), k]], _, rfl, by rw [List.append_assoc]; exact hp⟩
  · obtain ⟨pre, s2, rfl, hp⟩ := hI
    rw [List.append_nil] at hp
    subst hp
    walk_at "z.go"
    exact ⟨_, _, .inl rfl, rfl, q⟩
def wa (k s t : Int) : Int := if k = 1 then t else s
def wb (k s t : Int) : Int := if k = 1 then s else t
theorem gs_walk {k s l t : Int} {R : D → List D → Prop} (q : R (.val (tupI [wa k s t, wb k s t])) [.val (.int k), .val (tupI [s, l, t])]) : Gs (m_law_walk [.val (.int k), .val (tupI [s, l, t])]) R := by
  unfold m_law_walk bm_law_walk; refine gs_fn (by rfl) ?_; walk_at "z.st"; walk_at "z.go"
  refine ⟨fun h => ?_, fun h => ?_⟩
  · have h : k = 1 := by simpa using h
    simp only [wa, wb, if_pos h] at q
    walk_at "z.go"
    exact ⟨_, _, .inl rfl, rfl, q⟩
  · have h : ¬ k = 1 := by simpa using h
    simp only [wa, wb, if_neg h] at q
    walk_at "z.go"
    exact ⟨_, _, .inl rfl, rfl, q⟩
theorem gs_walk_ends {l0 k s l t : Int} {R : D → List D → Prop} (q : R (.val (tupI [wa k s t, wb k s t])) [.val (tupI [l0, k]), .val (tupI [s, l, t])]) : Gs (m_walk_ends [.val (tupI [l0, k]), .val (tupI [s, l, t])]) R := by
  have i1 : gIx (tupI [l0, k]) (.int 1) = some (.val (.int k)) := rfl
  unfold m_walk_ends bm_walk_ends
  refine gs_fn (by rfl) ?_
  walk_at "z.st"
  walk_at "z.go"
  refine ⟨fun h => ?_, fun h => ?_⟩
  · have h : k = 1 := by simpa using h
    simp only [wa, wb, if_pos h] at q
    walk_at "z.go"
    exact ⟨_, _, .inl rfl, rfl, q⟩
  · have h : ¬ k = 1 := by simpa using h
    simp only [wa, wb, if_neg h] at q
    walk_at "z.go"
    exact ⟨_, _, .inl rfl, rfl, q⟩
inductive Rs (b : Bk) (x : Int) (G : List (List Int)) : Int → Int → Prop where
  | fst {s l t : Int} {g : List Int} (hg : [s, l, t] ∈ G) (hl : ltr b l = some g) (hx : wa (bkE g) s t = x) (hf : l ∈ b.fs) : Rs b x G (wb (bkE g) s t) l
  | nxt {s l t p : Int} {g : List Int} (hg : [s, l, t] ∈ G) (hl : ltr b l = some g) (hp : [p, l] ∈ b.fo) (hr : Rs b x G (wa (bkE g) s t) p) : Rs b x G (wb (bkE g) s t) l
def Opn (b : Bk) (x : Int) (S : List (List Int)) (n l : Int) : Prop := (n = x ∧ l ∈ b.fs) ∨ ∃ p, [p, l] ∈ b.fo ∧ [n, p] ∈ S
def Snd (b : Bk) (x : Int) (G S : List (List Int)) : Prop := ∀ s ∈ S, ∃ n l, s = [n, l] ∧ Rs b x G n l
def Cls (b : Bk) (x : Int) (G S : List (List Int)) : Prop := ∀ s l t g, [s, l, t] ∈ G → ltr b l = some g → Opn b x S (wa (bkE g) s t) l → [wb (bkE g) s t, l] ∈ S
theorem Cls.all {b : Bk} {x : Int} {G S : List (List Int)} (h : Cls b x G S) {n l : Int} (r : Rs b x G n l) : [n, l] ∈ S := by
  induction r with
  | fst hg hl hx hf => exact h _ _ _ _ hg hl (.inl ⟨hx, hf⟩)
  | nxt hg hl hp hr ih => exact h _ _ _ _ hg hl (.inr ⟨_, hp, ih⟩)
theorem Snd.opn {b : Bk} {x : Int} {G S : List (List Int)} (h : Snd b x G S) {s l t : Int} {g : List Int} (hg : [s, l, t] ∈ G) (hl : ltr b l = some g) (ho : Opn b x S (wa (bkE g) s t) l) : Rs b x G (wb (bkE g) s t) l := by
  rcases ho with ⟨hx, hf⟩ | ⟨p, hp, hm⟩
  · exact .fst hg hl hx hf
  · obtain ⟨n, l2, e, hr⟩ := h _ hm
    cases e
    exact .nxt hg hl hp hr
theorem Snd.add {b : Bk} {x : Int} {G S : List (List Int)} (h : Snd b x G S) {n l : Int} (r : Rs b x G n l) : Snd b x G (addS S [n, l]) := fun s hs => by
  rcases mem_addS.mp hs with z | z
  · exact h s z
  · exact ⟨n, l, z, r⟩
theorem Rs.edge {b : Bk} {x : Int} {G : List (List Int)} {n l : Int} (r : Rs b x G n l) : [n, l] ∈ G.map fun e => [wb (((ltr b (e.getD 1 0)).map bkE).getD 0) (e.getD 0 0) (e.getD 2 0), e.getD 1 0] := by
  cases r with
  | fst hg hl hx hf => exact List.mem_map.mpr ⟨_, hg, by simp [hl]⟩
  | nxt hg hl hp hr => exact List.mem_map.mpr ⟨_, hg, by simp [hl]⟩
theorem Snd.len {b : Bk} {x : Int} {G S : List (List Int)} (h : Snd b x G S) (nd : S.Nodup) : S.length ≤ G.length := by
  have := List.Nodup.length_le_of_subset (l₂ := G.map fun e => [wb (((ltr b (e.getD 1 0)).map bkE).getD 0) (e.getD 0 0) (e.getD 2 0), e.getD 1 0]) nd fun s hs => by
    obtain ⟨n, l, rfl, r⟩ := h s hs
    exact r.edge
  rwa [List.length_map] at this

theorem fo_len {ls : List Lab} {b : Bk} (ok : BkOk ls b) : b.fo.length ≤ 64 := by
  have h := List.Nodup.length_le_of_subset (l₂ := prX (lbB b) (lbB b)) (nd_upT ok.fou) fun g hg => by
    obtain ⟨a, ha, c, hc, e⟩ := ok.fom g hg
    exact mem_prX.mpr ⟨a, ha, c, hc, e⟩
  rw [prX_len] at h
  have hl : (lbB b).length ≤ 8 := by rw [lbB_hd, List.length_map]; exact ok.few
  have := Nat.mul_le_mul hl hl
  omega
theorem up_len {l D : List Int} (h : l.Pairwise (· < ·)) (hs : ∀ x ∈ l, x ∈ D) : l.length ≤ D.length := List.Nodup.length_le_of_subset (nd_up h) hs
theorem fs_len {ls : List Lab} {b : Bk} (ok : BkOk ls b) : b.fs.length ≤ 8 := by
  have h := up_len ok.fsu ok.fsm
  rw [lbB_hd, List.length_map] at h
  have := ok.few
  omega
theorem la_len {ls : List Lab} {b : Bk} (ok : BkOk ls b) : b.la.length ≤ 8 := by
  have h := up_len ok.lau ok.lam
  rw [lbB_hd, List.length_map] at h
  have := ok.few
  omega
theorem len_addS (S : List (List Int)) (s : List Int) : (addS S s).length ≤ S.length + 1 := by
  unfold addS
  split <;> simp
theorem gs_gates {ls : List Lab} {b : Bk} {x : Int} {S : List (List Int)} {R : D → List D → Prop} (ok : BkOk ls b) (hS : ∀ s ∈ S, ∃ n l, s = [n, l]) (hl : S.length ≤ 1000)
    (q : ∀ A : List (List Int), (∀ n l, [n, l] ∈ A ↔ Opn b x S n l) → R (.val (fS A)) [.val (bkP b), .val (.int x), dS S]) : Gs (m_law_gates [.val (bkP b), .val (.int x), dS S]) R := by
  have i3 := ix_b3 b
  have i4 := ix_b4 b
  have h1 := fs_len ok
  have h2 := fo_len ok
  unfold m_law_gates bm_law_gates; refine gs_fn (by rfl) ?_; walk_at "z.st"; walk_at "z.go"
  refine for_invM P.int (fun rest e => ∃ (A : List (List Int)) (pre : List Int) (s4 : Sl), e = [.par (.val (bkP b)), .par (.val (.int x)), .par (dS S), .loc (dS A), s4, .un, .un, .un] ∧
    A.length ≤ pre.length ∧ pre ++ rest = b.fs ∧ ∀ m, m ∈ A ↔ ∃ l ∈ pre, m = [x, l]) b.fs _ ⟨[], [], _, rfl, by simp, rfl, by simp⟩ (fun l rest e _ hI => ?_) (fun e hI => ?_)
  · obtain ⟨A, pre, s4, rfl, ha, hp, hm⟩ := hI
    have hpl : pre.length + (rest.length + 1) = b.fs.length := by
      rw [← hp, List.length_append]
      rfl
    have hput := dS_put (S := A) (a := x) (b := l) (by omega)
    refine ⟨_, gN_set (by walk_at "z.at"), ?_⟩
    walk_at "z.go"
    have := len_addS A [x, l]
    refine .inl ⟨.inl rfl, _, pre ++ [l], _, rfl, by simp; omega, by rw [List.append_assoc]; exact hp, fun m => ?_⟩
    rw [mem_addS, hm]
    constructor
    · rintro (⟨l2, h, e⟩ | e)
      · exact ⟨l2, List.mem_append_left _ h, e⟩
      · exact ⟨l, by simp, e⟩
    · rintro ⟨l2, h, e⟩
      rcases List.mem_append.mp h with z | z
      · exact .inl ⟨l2, z, e⟩
      · rw [List.mem_singleton.mp z] at e
        exact .inr e
  · obtain ⟨A, pre, s4, rfl, ha, hp, hm⟩ := hI
    rw [List.append_nil] at hp
    subst hp
    walk_at "z.go"
    refine w_forL (by walk_at "z.at") rfl rfl (dS_keys S) (by walk_at "z.at") ?_
    refine for_invM tupI (fun rest e => ∃ (A : List (List Int)) (pre : List (List Int)) (s4 s5 s6 s7 : Sl), e = [.par (.val (bkP b)), .par (.val (.int x)), .hol, .loc (dS A), s4, s5, s6, s7] ∧
      A.length ≤ b.fs.length + pre.length * b.fo.length ∧ pre ++ rest = S ∧ ∀ m, m ∈ A ↔ (∃ l ∈ b.fs, m = [x, l]) ∨ ∃ n p r, [n, p] ∈ pre ∧ [p, r] ∈ b.fo ∧ m = [n, r]) S _ ⟨A, [], _, _, _, _, rfl, by simpa using ha, rfl, fun m => by rw [hm]; simp⟩ (fun s rest e hs hI => ?_) (fun e hI => ?_)
    · obtain ⟨A, pre, s4, s5, s6, s7, rfl, ha, hp, hm⟩ := hI
      obtain ⟨n, p, rfl⟩ := hS s hs
      have hpl : pre.length + (rest.length + 1) = S.length := by
        rw [← hp, List.length_append]
        rfl
      refine ⟨_, gT2 (i := 5) (j := 4) (by walk_at "z.at") (by walk_at "z.at"), ?_⟩
      walk_at "z.go"
      refine for_invM tupI (fun rest2 e => ∃ (A2 : List (List Int)) (pre2 : List (List Int)) (s6 s7 : Sl), e = [.par (.val (bkP b)), .par (.val (.int x)), .hol, .loc (dS A2), .loc (.val (.int p)), .loc (.val (.int n)), s6, s7] ∧
        A2.length ≤ A.length + pre2.length ∧ pre2 ++ rest2 = b.fo ∧ ∀ m, m ∈ A2 ↔ m ∈ A ∨ ∃ r, [p, r] ∈ pre2 ∧ m = [n, r]) b.fo _ ⟨A, [], _, _, rfl, by simp, rfl, by simp⟩ (fun g rest2 e hg hI => ?_) (fun e hI => ?_)
      · obtain ⟨A2, pre2, s6, s7, rfl, ha2, hp2, hm2⟩ := hI
        obtain ⟨a, _, c, _, rfl⟩ := ok.fom g hg
        have hpl2 : pre2.length + (rest2.length + 1) = b.fo.length := by
          rw [← hp2, List.length_append]
          rfl
        have hmul : pre.length * b.fo.length ≤ 1000 * 64 := Nat.mul_le_mul (by omega) h2
        have hput := dS_put (S := A2) (a := n) (b := c) (by omega)
        refine ⟨_, gT2 (i := 6) (j := 7) (by walk_at "z.at") (by walk_at "z.at"), ?_⟩
        walk_at "z.go"
        refine ⟨fun hc => ?_, fun hc => ?_⟩
        · have hc : a = p := by simpa using hc
          subst hc
          walk_at "z.go"
          have := len_addS A2 [n, c]
          refine .inl ⟨.inl rfl, _, pre2 ++ [[a, c]], _, _, rfl, by simp; omega, by rw [List.append_assoc]; exact hp2, fun m => ?_⟩
          rw [mem_addS, hm2]
          constructor
          · rintro ((h | ⟨r, h, e⟩) | e)
            · exact .inl h
            · exact .inr ⟨r, List.mem_append_left _ h, e⟩
            · exact .inr ⟨c, by simp, e⟩
          · rintro (h | ⟨r, h, e⟩)
            · exact .inl (.inl h)
            · rcases List.mem_append.mp h with z | z
              · exact .inl (.inr ⟨r, z, e⟩)
              · have z := (List.mem_singleton.mp z)
                simp only [List.cons.injEq, and_true, true_and] at z
                rw [z] at e
                exact .inr e
        · have hc : ¬ a = p := by simpa using hc
          walk_at "z.go"
          refine .inl ⟨.inl rfl, A2, pre2 ++ [[a, c]], _, _, rfl, by simp; omega, by rw [List.append_assoc]; exact hp2, fun m => ?_⟩
          rw [hm2]
          constructor
          · rintro (h | ⟨r, h, e⟩)
            · exact .inl h
            · exact .inr ⟨r, List.mem_append_left _ h, e⟩
          · rintro (h | ⟨r, h, e⟩)
            · exact .inl h
            · rcases List.mem_append.mp h with z | z
              · exact .inr ⟨r, z, e⟩
              · have z := (List.mem_singleton.mp z)
                simp only [List.cons.injEq, and_true] at z
                exact absurd z.1.symm hc
      · obtain ⟨A2, pre2, s6, s7, rfl, ha2, hp2, hm2⟩ := hI
        rw [List.append_nil] at hp2
        subst hp2
        refine .inl ⟨.inl rfl, A2, pre ++ [[n, p]], _, _, _, _, rfl, ?_, by rw [List.append_assoc]; exact hp, fun m => ?_⟩
        · simp only [List.length_append, List.length_cons, List.length_nil, Nat.add_mul, Nat.zero_add, Nat.one_mul]
          omega
        · rw [hm2, hm]
          constructor
          · rintro ((h | ⟨n2, p2, r, h, h3, e⟩) | ⟨r, h, e⟩)
            · exact .inl h
            · exact .inr ⟨n2, p2, r, List.mem_append_left _ h, h3, e⟩
            · exact .inr ⟨n, p, r, by simp, h, e⟩
          · rintro (h | ⟨n2, p2, r, h, h3, e⟩)
            · exact .inl (.inl h)
            · rcases List.mem_append.mp h with z | z
              · exact .inl (.inr ⟨n2, p2, r, z, h3, e⟩)
              · have z := (List.mem_singleton.mp z)
                simp only [List.cons.injEq, and_true] at z
                obtain ⟨rfl, rfl⟩ := z
                exact .inr ⟨r, h3, e⟩
    · obtain ⟨A, pre, s4, s5, s6, s7, rfl, ha, hp, hm⟩ := hI
      rw [List.append_nil] at hp
      subst hp
      refine ⟨by walk_at "z.at", _, by walk_at "z.at", sq_nx ?_⟩
      walk_at "z.go"
      refine ⟨_, _, .inl rfl, rfl, q A fun n l => ?_⟩
      rw [hm]
      unfold Opn
      constructor
      · rintro (⟨l2, h, e⟩ | ⟨n2, p2, r, h, h3, e⟩)
        · simp only [List.cons.injEq, and_true] at e
          exact .inl ⟨e.1, by rw [e.2]; exact h⟩
        · simp only [List.cons.injEq, and_true] at e
          obtain ⟨rfl, rfl⟩ := e
          exact .inr ⟨p2, h3, h⟩
      · rintro (⟨rfl, h⟩ | ⟨p2, h3, h⟩)
        · exact .inl ⟨l, h, rfl⟩
        · exact .inr ⟨n, p2, l, h, h3, rfl⟩


def E3 (G : List (List Int)) : Prop := ∀ g ∈ G, ∃ s l t : Int, g = [s, l, t]
theorem IsG.e3 {ls : List Lab} {G : List (List Int)} (h : IsG ls G) : E3 G := fun g hg => by
  obtain ⟨s, l, t, e, _⟩ := h g hg
  exact ⟨s, l, t, e⟩
structure Fr (b : Bk) (x : Int) (G S P F : List (List Int)) : Prop where
  snd : ∀ f ∈ F, ∃ n l, f = [n, l] ∧ Rs b x G n l ∧ f ∉ S
  all : ∀ s l t g, [s, l, t] ∈ P → ltr b l = some g → Opn b x S (wa (bkE g) s t) l → [wb (bkE g) s t, l] ∈ S ∨ [wb (bkE g) s t, l] ∈ F
theorem foldS_mem (F : List (List Int)) : ∀ (S : List (List Int)) (x : List Int), x ∈ F.foldl addS S ↔ x ∈ S ∨ x ∈ F := by
  induction F with
  | nil => intro S x; simp
  | cons f F ih =>
    intro S x
    rw [List.foldl_cons, ih, mem_addS, List.mem_cons]
    exact or_assoc
theorem foldS_len (F : List (List Int)) : ∀ (S : List (List Int)), S.length ≤ (F.foldl addS S).length := by
  induction F with
  | nil => intro S; exact Nat.le_refl _
  | cons f F ih =>
    intro S
    refine Nat.le_trans ?_ (ih (addS S f))
    unfold addS
    split <;> simp
theorem foldS_nd (F : List (List Int)) : ∀ (S : List (List Int)), S.Nodup → (F.foldl addS S).Nodup := by
  induction F with
  | nil => intro S h; exact h
  | cons f F ih => exact fun S h => ih _ (nd_addS h)
theorem gs_states {ls : List Lab} {b : Bk} {x : Int} {G : List (List Int)} {R : D → List D → Prop} (ok : BkOk ls b) (hG : E3 G) (hl : G.length ≤ 200)
    (q : ∀ S : List (List Int), Snd b x G S → Cls b x G S → S.Nodup → R (.val (fS S)) [.val (.tup (G.map tupI)), .val (bkP b), .val (.int x)]) : Gs (m_law_states [.val (.tup (G.map tupI)), .val (bkP b), .val (.int x)]) R := by
  have hm : gMul (.int 24) (.int 12) = some (.val (.int 288)) := rfl
  unfold m_law_states bm_law_states; refine gs_fn (by rfl) ?_; walk_at "z.st"; walk_at "z.go"
  refine gs_back ok ?_
  walk_at "z.go"
  refine ⟨by omega, ?_⟩
  refine for_rng (n := 290) rfl (fun j e => ∃ (S : List (List Int)) (s5 s6 s7 s8 s9 s10 : Sl), e = [.par (.val (.tup (G.map tupI))), .par (.val (bkP b)), .par (.val (.int x)), .loc (.val (fBack b)), .loc (dS S), s5, s6, s7, s8, s9, s10] ∧
    Snd b x G S ∧ S.Nodup ∧ j ≤ S.length) _ ⟨[], _, _, _, _, _, _, rfl, fun _ h => (nomatch h), List.nodup_nil, by omega⟩ (fun j e hj hI => ?_) (fun e hI => ?_)
  · obtain ⟨S, s5, s6, s7, s8, s9, s10, rfl, h1, h2, h3⟩ := hI
    have hSl := h1.len h2
    refine ⟨_, gN_set (by walk_at "z.at"), ?_⟩
    walk_at "z.go"
    have hSp : ∀ s ∈ S, ∃ n l, s = [n, l] := fun s hs => by
      obtain ⟨n, l, e, _⟩ := h1 s hs
      exact ⟨n, l, e⟩
    refine gs_gates ok hSp (by omega) fun A hA => ?_
    walk_at "z.go"
    refine for_invM tupI (fun rest e => ∃ (P F : List (List Int)) (s8 s9 : Sl), e = [.par (.val (.tup (G.map tupI))), .par (.val (bkP b)), .par (.val (.int x)), .loc (.val (fBack b)), .loc (dS S), .loc (.val (.int j)), .loc (.val (fS A)), .loc (.olst ((F.map tupI).map .val)), s8, s9, s10] ∧
      P ++ rest = G ∧ F.length ≤ P.length ∧ Fr b x G S P F) G _ ⟨[], [], _, _, rfl, rfl, by simp, ⟨fun _ h => (nomatch h), fun _ _ _ _ h => (nomatch h)⟩⟩ (fun g rest e hg hI => ?_) (fun e hI => ?_)
    · obtain ⟨P, F, s8, s9, rfl, hP, hF, fr⟩ := hI
      obtain ⟨s, l, t, rfl⟩ := hG g hg
      have hPl : P.length + (rest.length + 1) = G.length := by
        rw [← hP, List.length_append]
        rfl
      have next : P ++ [[s, l, t]] ++ rest = G := by rw [List.append_assoc]; exact hP
      refine ⟨_, gN_set (by walk_at "z.at"), ?_⟩
      cases hlt : ltr b l with
      | none =>
        have hB : dAt (.val (fBack b)) (.k (.inl l)) = some none := by rw [fBack_at, hlt]; rfl
        have frn : Fr b x G S (P ++ [[s, l, t]]) F := ⟨fr.snd, fun s2 l2 t2 g2 hm h2 ho => by
          rcases List.mem_append.mp hm with z | z
          · exact fr.all s2 l2 t2 g2 z h2 ho
          · have z := (List.mem_singleton.mp z)
            simp only [List.cons.injEq, and_true] at z
            rw [z.2.1, hlt] at h2
            cases h2⟩
        walk_at "z.go"
        refine ⟨fun hc => absurd hc (by simp), fun _ => ?_⟩
        walk_at "z.go"
        exact .inl ⟨.inl rfl, P ++ [[s, l, t]], F, _, _, rfl, next, by simp; omega, frn⟩
      | some g =>
        have hB : dAt (.val (fBack b)) (.k (.inl l)) = some (some (.val (.int (bkE g)))) := by rw [fBack_at, hlt]; rfl
        have i0 : gIx (tupI [wa (bkE g) s t, wb (bkE g) s t]) (.int 0) = some (.val (.int (wa (bkE g) s t))) := rfl
        have i1 : gIx (tupI [wa (bkE g) s t, wb (bkE g) s t]) (.int 1) = some (.val (.int (wb (bkE g) s t))) := rfl
        have i2 : gIx (tupI [s, l, t]) (.int 1) = some (.val (.int l)) := rfl
        have hpush : hApp ((F.map tupI).map .val) [.val (.tup [.int (wb (bkE g) s t), .int l])] = some (.val .non, ((F ++ [[wb (bkE g) s t, l]]).map tupI).map .val) := app_T [wb (bkE g) s t, l] (lt_size (k := 1000) (by omega) (by omega))
        have skip : (¬ Opn b x S (wa (bkE g) s t) l ∨ [wb (bkE g) s t, l] ∈ S) → Fr b x G S (P ++ [[s, l, t]]) F := fun hn => ⟨fr.snd, fun s2 l2 t2 g2 hm h2 ho => by
          rcases List.mem_append.mp hm with z | z
          · exact fr.all s2 l2 t2 g2 z h2 ho
          · have z := (List.mem_singleton.mp z)
            simp only [List.cons.injEq, and_true] at z
            obtain ⟨rfl, rfl, rfl⟩ := z
            rw [hlt] at h2
            cases h2
            rcases hn with hn | hn
            · exact absurd ho hn
            · exact .inl hn⟩
        walk_at "z.go"
        refine ⟨fun _ => ?_, fun hc => absurd hc (by simp)⟩
        walk_at "z.go"
        refine gs_walk ?_
        walk_at "z.go"
        refine ⟨fun hc => ?_, fun hc => ?_⟩
        · have hc : [wa (bkE g) s t, l] ∈ A := by simpa [inS_some] using hc
          have ho := (hA _ _).mp hc
          walk_at "z.go"
          refine ⟨fun hc2 => ?_, fun hc2 => ?_⟩
          · have hc2 : [wb (bkE g) s t, l] ∉ S := by simpa [inS_some] using hc2
            walk_at "z.go"
            refine .inl ⟨.inl rfl, P ++ [[s, l, t]], F ++ [[wb (bkE g) s t, l]], _, _, rfl, next, by simp; omega, ⟨fun f hf => ?_, fun s2 l2 t2 g2 hm h2 ho2 => ?_⟩⟩
            · rcases List.mem_append.mp hf with z | z
              · exact fr.snd f z
              · exact ⟨_, _, List.mem_singleton.mp z, h1.opn hg hlt ho, by rw [List.mem_singleton.mp z]; exact hc2⟩
            · rcases List.mem_append.mp hm with z | z
              · exact (fr.all s2 l2 t2 g2 z h2 ho2).imp id fun z => List.mem_append_left _ z
              · have z := (List.mem_singleton.mp z)
                simp only [List.cons.injEq, and_true] at z
                obtain ⟨rfl, rfl, rfl⟩ := z
                rw [hlt] at h2
                cases h2
                exact .inr (by simp)
          · have hc2 : [wb (bkE g) s t, l] ∈ S := by simpa [inS_some] using hc2
            walk_at "z.go"
            exact .inl ⟨.inl rfl, P ++ [[s, l, t]], F, _, _, rfl, next, by simp; omega, skip (.inr hc2)⟩
        · have hc : [wa (bkE g) s t, l] ∉ A := by simpa [inS_some] using hc
          walk_at "z.go"
          exact .inl ⟨.inl rfl, P ++ [[s, l, t]], F, _, _, rfl, next, by simp; omega, skip (.inl fun ho => hc ((hA _ _).mpr ho))⟩
    · obtain ⟨P, F, s8, s9, rfl, hP, hF, fr⟩ := hI
      rw [List.append_nil] at hP
      subst hP
      walk_at "z.go"
      refine ⟨fun hc => ?_, fun hc => ?_⟩
      · have hc : F = [] := by simpa using hc
        subst hc
        walk_at "z.go"
        refine .inr (.inl ⟨rfl, sq_nx ?_⟩)
        walk_at "z.go"
        refine ⟨_, _, .inl rfl, rfl, q S h1 (fun s l t g hg hl ho => (fr.all s l t g hg hl ho).elim id fun z => (nomatch z)) h2⟩
      · have hc : F ≠ [] := by simpa using hc
        walk_at "z.go"
        refine for_invM tupI (fun rest e => ∃ (S2 : List (List Int)) (s10 : Sl), e = [.par (.val (.tup (P.map tupI))), .par (.val (bkP b)), .par (.val (.int x)), .loc (.val (fBack b)), .loc (dS S2), .loc (.val (.int j)), .loc (.val (fS A)), .hol, s8, s9, s10] ∧
          rest.foldl addS S2 = F.foldl addS S ∧ S2.length + rest.length ≤ S.length + F.length) F _ ⟨S, _, rfl, rfl, Nat.le_refl _⟩ (fun f rest e hf hI => ?_) (fun e hI => ?_)
        · obtain ⟨S2, s10, rfl, hfo, hln⟩ := hI
          obtain ⟨n, l, rfl, _, _⟩ := fr.snd f hf
          rw [List.length_cons] at hln
          have hput := dS_put (S := S2) (a := n) (b := l) (by omega)
          have hal := len_addS S2 [n, l]
          refine ⟨_, gN_set (by walk_at "z.at"), ?_⟩
          walk_at "z.go"
          exact .inl ⟨.inl rfl, _, _, rfl, hfo, by omega⟩
        · obtain ⟨S2, s10, rfl, hfo, hln⟩ := hI
          have hfo : S2 = F.foldl addS S := hfo
          subst hfo
          refine ⟨by walk_at "z.at", _, by walk_at "z.at", .inl ⟨.inl rfl, _, _, _, _, _, _, _, rfl, fun s hs => ?_, foldS_nd F S h2, ?_⟩⟩
          · rcases (foldS_mem F S s).mp hs with z | z
            · exact h1 s z
            · obtain ⟨n, l, e, r, _⟩ := fr.snd s z
              exact ⟨n, l, e, r⟩
          · obtain ⟨f, F2, rfl⟩ := List.exists_cons_of_ne_nil hc
            obtain ⟨_, _, _, _, hn⟩ := fr.snd f List.mem_cons_self
            have h5 := foldS_len F2 (addS S f)
            have h6 : (addS S f).length = S.length + 1 := by
              unfold addS
              rw [if_neg hn]
              simp
            rw [List.foldl_cons]
            omega
  · obtain ⟨S, s5, s6, s7, s8, s9, s10, rfl, h1, h2, h3⟩ := hI
    have hSl := h1.len h2
    omega


theorem few_fo2 {ls : List Lab} {b : Bk} (hb : BkOk ls b) : b.fo.length ≤ 64 := by
  have h1 : b.fo.length ≤ (prX (lbB b) (lbB b)).length := List.Nodup.length_le_of_subset (nd_upT hb.fou) fun g hg => mem_prX.mpr (by
    obtain ⟨a, ha, c, hc, rfl⟩ := hb.fom g hg
    exact ⟨a, ha, c, hc, rfl⟩)
  have h2 : (lbB b).length ≤ 8 := by rw [lbB, List.length_map]; exact hb.few
  rw [prX_len] at h1
  exact Nat.le_trans h1 (Nat.mul_le_mul h2 h2)


theorem gs_first_node {ks : List (Str × Nat)} {ls : List Lab} {k : Nat} {R : D → List D → Prop} (h : WfS ks ls) (q : R (.val (.int (firstL ks k))) [.val (schP ks ls), .val (.int k)]) : Gs (m_first_node [.val (schP ks ls), .val (.int k)]) R := by
  have hs1 := ix_s1 ks ls
  have h1 : cutP (ks.map kindP) none (some (k : Int)) = (ks.take k).map kindP := by rw [cut_take, List.map_take]
  unfold m_first_node bm_first_node
  refine gs_fn (by rfl) ?_
  walk_at "z.st"
  walk_at "z.go"
  refine w_compM kindP (fun k => .int k.2) ?_
  walk_at "z.go"
  refine ⟨⟨_, by walk_at "z.at", (by walk_at "z.ok")⟩, ?_, fun x hx => ?_, ?_⟩
  · have := h.kl
    have h2 : (ks.take k).length ≤ 6 := by simp; omega
    exact le_size h2 (by omega)
  · walk_at "z.cs"
    have hk1 := ix_k1 x
    walk_at "z.go"
    exact ⟨rfl, rfl⟩
  · have h3 : ((ks.take k).map fun k => P.int k.2) = (((ks.take k).map fun x => (x.2 : Int)).map P.int) := by
      simp only [List.map_map]
      rfl
    rw [h3]
    walk_at "z.go"
    exact ⟨_, _, .inl rfl, rfl, q⟩
theorem mem_nodes {ks : List (Str × Nat)} {k : Nat} (hk : k < ks.length) (s : Int) : s ∈ nodesL ks k ↔ firstL ks k ≤ s ∧ s < firstL ks k + ks[k].2 := by
  simp only [nodesL, List.getElem?_eq_getElem hk, List.mem_map, List.mem_range, Option.map_some, Option.getD_some]
  constructor
  · rintro ⟨j, hj, rfl⟩
    omega
  · rintro ⟨h1, h2⟩
    exact ⟨(s - firstL ks k).toNat, by omega, by omega⟩
theorem gs_has_node {ks : List (Str × Nat)} {ls : List Lab} {k : Nat} {s : Int} {R : D → List D → Prop} (h : WfS ks ls) (hk : k < ks.length) (q : R (.val (.bl (decide (s ∈ nodesL ks k)))) [.val (schP ks ls), .val (.int k), .val (.int s)]) :
    Gs (m_has_node [.val (schP ks ls), .val (.int k), .val (.int s)]) R := by
  have hs1 := ix_s1 ks ls
  have h1 : gIx (.tup (ks.map kindP)) (.int k) = some (.val (kindP ks[k])) := o_ixt (at_map (by simp [hk]))
  have hz := ix_k1 ks[k]
  have hm := mem_nodes hk s
  unfold m_has_node bm_has_node
  refine gs_fn (by rfl) ?_
  walk_at "z.st"
  walk_at "z.go"
  refine gs_first_node h ?_
  walk_at "z.go"
  refine ⟨fun hc => ?_, fun hc => ?_⟩
  · have hc : firstL ks k ≤ s := by simpa using hc
    walk_at "z.go"
    refine ⟨_, _, .inl rfl, rfl, ?_⟩
    have e : decide (s ∈ nodesL ks k) = decide (s < firstL ks k + ks[k].2) := decide_eq_decide.mpr (hm.trans ⟨fun z => z.2, fun z => ⟨hc, z⟩⟩)
    rw [e] at q
    exact q
  · have hc : ¬ firstL ks k ≤ s := by simpa using hc
    refine ⟨_, _, .inl rfl, rfl, ?_⟩
    have e : decide (s ∈ nodesL ks k) = false := decide_eq_false fun z => hc (hm.mp z).1
    rw [e] at q
    exact q
def totl (ks : List (Str × Nat)) : Int := (ks.map fun k => (k.2 : Int)).sum
structure SchN (ks : List (Str × Nat)) (ls : List Lab) : Prop where
  wf : WfS ks ls
  na : ∀ l ∈ ls, nodesL ks l.a ≠ [] ∧ nodesL ks l.b ≠ []
  mrk : ∀ l ∈ ls, l.rule = "mark" → l.a = l.b
  pos : 0 < totl ks
  pr : ∀ l ∈ ls, 0 ≤ l.pr ∧ l.pr ≤ 9
theorem totl_nn : ∀ ks : List (Str × Nat), 0 ≤ totl ks
  | [] => by simp [totl]
  | k :: ks => by
    have := totl_nn ks
    simp only [totl, List.map_cons, List.sum_cons] at this ⊢
    omega
theorem totl_take (ks : List (Str × Nat)) (k : Nat) : firstL ks k + ((ks[k]?.map (·.2)).getD 0 : Nat) ≤ totl ks := by
  unfold firstL totl
  induction ks generalizing k with
  | nil => simp
  | cons x ks ih =>
    cases k with
    | zero =>
      have := totl_nn ks
      unfold totl at this
      simp only [List.take_zero, List.map_nil, List.sum_nil, List.getElem?_cons_zero, Option.map_some, Option.getD_some, List.map_cons, List.sum_cons]
      omega
    | succ k =>
      have := ih k
      simp only [List.take_succ_cons, List.map_cons, List.sum_cons, List.getElem?_cons_succ] at this ⊢
      omega
theorem firstL_nn (ks : List (Str × Nat)) (k : Nat) : 0 ≤ firstL ks k := totl_nn (ks.take k)
def Nod (ks : List (Str × Nat)) (n : Int) : Prop := 0 ≤ n ∧ n < totl ks
theorem nod_mem {ks : List (Str × Nat)} {k : Nat} {n : Int} (h : n ∈ nodesL ks k) : Nod ks n := by
  unfold nodesL at h
  obtain ⟨j, hj, rfl⟩ := List.mem_map.mp h
  have hj := List.mem_range.mp hj
  have h1 := totl_take ks k
  have h2 := firstL_nn ks k
  exact ⟨by omega, by omega⟩
def IsN (ks : List (Str × Nat)) (ls : List Lab) (G : List (List Int)) : Prop := ∀ g ∈ G, ∃ (s : Int) (l : Nat) (t : Int), g = [s, (l : Int), t] ∧ l < ls.length ∧ Nod ks s ∧ Nod ks t
theorem IsN.g {ks : List (Str × Nat)} {ls : List Lab} {G : List (List Int)} (h : IsN ks ls G) : IsG ls G := fun g hg => by
  obtain ⟨s, l, t, e, hl, _⟩ := h g hg
  exact ⟨s, l, t, e, hl⟩
theorem IsN.sub {ks : List (Str × Nat)} {ls : List Lab} {A B : List (List Int)} (h : IsN ks ls B) (hs : ∀ g ∈ A, g ∈ B) : IsN ks ls A := fun g hg => h g (hs g hg)
theorem isn_let {ks : List (Str × Nat)} {ls : List Lab} {l : Nat} {b : Lab} (hl : l < ls.length) : IsN ks ls (letL ks l b) := fun g hg => by
  simp only [letL, List.mem_flatMap, List.mem_map, List.mem_filter] at hg
  obtain ⟨s, hs, t, ⟨ht, _⟩, rfl⟩ := hg
  exact ⟨s, l, t, rfl, hl, nod_mem hs, nod_mem ht⟩
theorem SchN.at {ks : List (Str × Nat)} {ls : List Lab} (h : SchN ks ls) {l : Nat} (hl : l < ls.length) (k : Int) : (∃ n : Nat, wa k ls[l].a ls[l].b = n ∧ n < ks.length ∧ nodesL ks n ≠ []) ∧ ∃ n : Nat, wb k ls[l].a ls[l].b = n ∧ n < ks.length ∧ nodesL ks n ≠ [] := by
  have h1 := h.wf.lab _ (List.getElem_mem hl)
  have h2 := h.na _ (List.getElem_mem hl)
  unfold wa wb
  by_cases hk : k = 1
  · rw [if_pos hk, if_pos hk]
    exact ⟨⟨_, rfl, h1.2, h2.2⟩, _, rfl, h1.1, h2.1⟩
  · rw [if_neg hk, if_neg hk]
    exact ⟨⟨_, rfl, h1.1, h2.1⟩, _, rfl, h1.2, h2.2⟩


theorem sortT_srt (G : List (List Int)) : (sortT G).Pairwise fun a b => HT.lexLt b a = false := by
  have s := List.pairwise_mergeSort (le := fun a b : List Int => !HT.lexLt b a) (fun a b c h1 h2 => by
    simp only [Bool.not_eq_true'] at *
    exact ZS.lexLt_trF h2 h1) (fun a b => by
    cases e : HT.lexLt b a with
    | false => rfl
    | true => rw [ZS.lexLt_asym e]; rfl) G
  exact s.imp fun {a b} h => by simpa using h
theorem totl_bd {ks : List (Str × Nat)} {mo : Int} (h : ∀ k ∈ ks, (k.2 : Int) ≤ mo) : totl ks ≤ ks.length * mo := by
  induction ks with
  | nil => simp [totl]
  | cons k ks ih =>
    have h1 := ih fun x hx => h x (List.mem_cons_of_mem _ hx)
    have h2 := h k List.mem_cons_self
    simp only [totl, List.map_cons, List.sum_cons, List.length_cons] at h1 ⊢
    have : ((ks.length + 1 : Nat) : Int) * mo = ks.length * mo + mo := by
      rw [Int.natCast_add, Int.add_mul]
      simp
    omega


def dirE (b : Bk) (l : Int) : Int := ((ltr b l).map bkE).getD 0
def gtE (b : Bk) (g : List Int) : List Int := [wa (dirE b (g.getD 1 0)) (g.getD 0 0) (g.getD 2 0), g.getD 1 0]
def sfE (b : Bk) (g : List Int) : List Int := [wb (dirE b (g.getD 1 0)) (g.getD 0 0) (g.getD 2 0), g.getD 1 0]
def inB (b : Bk) (g : List Int) : Bool := decide (g.getD 1 0 ∈ lbB b)
def stepX (b : Bk) (G : List (List Int)) : List (List Key × P) := (G.filter (inB b)).map fun g => (kI (gtE b g), .tup [tupI (sfE b g), tupI g])
theorem dir_at {b : Bk} {l : Int} {g : List Int} (h : ltr b l = some g) : dirE b l = bkE g := by
  unfold dirE
  rw [h]
  rfl
theorem ltr_has {b : Bk} (l : Int) (f : List Int → D) : ((ltr b l).map f).isSome = decide (l ∈ lbB b) := by
  rw [Option.isSome_map]
  cases e : ltr b l with
  | none => rw [decide_eq_false (ltr_none.mp e)]; rfl
  | some g =>
    have : l ∈ lbB b := Classical.byContradiction fun h => by
      rw [ltr_none.mpr h] at e
      cases e
    rw [decide_eq_true this]; rfl
theorem gs_steps_of {ls : List Lab} {b : Bk} {G : List (List Int)} {R : D → List D → Prop} (ok : BkOk ls b) (hG : E3 G) (hGl : G.length ≤ 10000)
    (q : R (.val (fMT (stepX b G))) [.val (bkP b), .val (.tup (G.map tupI))]) : Gs (m_steps_of [.val (bkP b), .val (.tup (G.map tupI))]) R := by
  unfold m_steps_of bm_steps_of
  refine gs_fn (by rfl) ?_
  walk_at "z.st"
  walk_at "z.go"
  refine gs_lets ok ?_
  walk_at "z.go"
  refine for_invM tupI (fun rest e => ∃ (pre : List (List Int)) (s4 s5 : Sl), pre ++ rest = G ∧ e = [.par (.val (bkP b)), .par (.val (.tup (G.map tupI))), .loc (.val (fLets b)), .loc (dMT (stepX b pre)), s4, s5]) G _
    ⟨[], _, _, rfl, rfl⟩ (fun g rest e hg hI => ?_) (fun e hI => ?_)
  · obtain ⟨pre, s4, s5, hp, rfl⟩ := hI
    obtain ⟨s, l, t, rfl⟩ := hG g hg
    have hpl : pre.length ≤ 10000 := by
      rw [← hp, List.length_append] at hGl
      omega
    have i1 : gIx (tupI [s, l, t]) (.int 1) = some (.val (.int l)) := rfl
    have hB0 := fLets_at b l
    refine ⟨_, gN_set (by walk_at "z.at"), ?_⟩
    walk_at "z.go"
    rw [ltr_has]
    refine ⟨fun hc => ?_, fun hc => ?_⟩
    · have hl : l ∈ lbB b := by simpa using hc
      obtain ⟨g0, hg0⟩ := ltr_mem hl
      obtain ⟨eg, _⟩ := ltr_some ok hg0
      rw [hg0] at hB0
      have hB : dAt (.val (fLets b)) (.k (.inl l)) = some (some (.val (tupI [l, bkE g0]))) := by rw [hB0, eg]; rfl
      clear hB0
      have j0 : gIx (tupI [wa (bkE g0) s t, wb (bkE g0) s t]) (.int 0) = some (.val (.int (wa (bkE g0) s t))) := rfl
      have j1 : gIx (tupI [wa (bkE g0) s t, wb (bkE g0) s t]) (.int 1) = some (.val (.int (wb (bkE g0) s t))) := rfl
      have hst : stepX b (pre ++ [[s, l, t]]) = stepX b pre ++ [(kI [wa (bkE g0) s t, l], .tup [.tup [.int (wb (bkE g0) s t), .int l], tupI [s, l, t]])] := by
        unfold stepX
        rw [List.filter_append, List.map_append]
        have hin : inB b [s, l, t] = true := decide_eq_true hl
        rw [List.filter_cons_of_pos hin]
        show _ ++ [(kI (gtE b [s, l, t]), P.tup [tupI (sfE b [s, l, t]), tupI [s, l, t]])] = _
        unfold gtE sfE
        simp only [List.getD_cons_zero, List.getD_cons_succ, dir_at hg0]
        rfl
      have happ := app_MT (xs := stepX b pre) (kI [wa (bkE g0) s t, l]) (.tup [.tup [.int (wb (bkE g0) s t), .int l], tupI [s, l, t]]) (by
        unfold stepX
        rw [List.length_map]
        exact Nat.le_trans (List.length_filter_le _ _) (by omega))
      rw [← hst] at happ
      walk_at "z.go"
      refine gs_walk_ends ?_
      walk_at "z.go"
      refine w_sda (by walk_at "z.at") rfl (by walk_at "z.at") ?_
      walk_at "z.go"
      refine ⟨_, _, rfl, happ, by walk_at "z.at", _, by walk_at "z.at", ?_⟩
      exact .inl ⟨.inl rfl, _, _, _, by rw [List.append_assoc]; exact hp, rfl⟩
    · have hl : l ∉ lbB b := by simpa using hc
      have hst : stepX b (pre ++ [[s, l, t]]) = stepX b pre := by
        unfold stepX
        rw [List.filter_append, List.map_append]
        have hin : ¬ inB b [s, l, t] = true := fun z => hl (of_decide_eq_true z)
        rw [List.filter_cons_of_neg hin]
        simp
      walk_at "z.go"
      rw [← hst]
      exact .inl ⟨.inl rfl, _, _, _, by rw [List.append_assoc]; exact hp, rfl⟩
  · obtain ⟨pre, s4, s5, hp, rfl⟩ := hI
    rw [List.append_nil] at hp
    subst hp
    walk_at "z.go"
    exact ⟨_, _, .inl rfl, rfl, q⟩
def nextX (b : Bk) : List (Key × P) := b.fo.map fun g => (.inl (g.getD 0 0), .int (g.getD 1 0))
def nxB (b : Bk) (p : Int) : List Int := (b.fo.filter fun g => decide (g.getD 0 0 = p)).map fun g => g.getD 1 0
theorem nextX_at (b : Bk) (p : Int) : vlM (nextX b) (.inl p) = (nxB b p).map .int := by
  unfold vlM nextX nxB
  rw [List.filter_map, List.map_map, List.map_map]
  congr 1
  refine List.filter_congr fun g _ => ?_
  show decide ((Sum.inl (g.getD 0 0) : Key) = .inl p) = _
  exact decide_eq_decide.mpr ⟨fun e => Sum.inl.inj e, fun e => by rw [e]⟩
theorem gs_next_labels {ls : List Lab} {b : Bk} {R : D → List D → Prop} (ok : BkOk ls b) (q : R (.val (fMK (nextX b))) [.val (bkP b)]) : Gs (m_next_labels [.val (bkP b)]) R := by
  have b4 := ix_b4 b
  have hfo := few_fo2 ok
  unfold m_next_labels bm_next_labels
  refine gs_fn (by rfl) ?_
  walk_at "z.st"
  walk_at "z.go"
  refine for_invM tupI (fun rest e => ∃ (pre : List (List Int)) (s2 s3 : Sl), pre ++ rest = b.fo ∧ e = [.par (.val (bkP b)), .loc (dMK (pre.map fun g => (.inl (g.getD 0 0), .int (g.getD 1 0)))), s2, s3]) b.fo _
    ⟨[], _, _, rfl, rfl⟩ (fun g rest e hg hI => ?_) (fun e hI => ?_)
  · obtain ⟨pre, s2, s3, hp, rfl⟩ := hI
    obtain ⟨a, _, c, _, rfl⟩ := ok.fom g hg
    have hpl : pre.length ≤ 64 := by
      rw [← hp, List.length_append] at hfo
      omega
    have happ := app_MK (xs := pre.map fun g => ((.inl (g.getD 0 0) : Key), P.int (g.getD 1 0))) (.inl a) (.int c) (by rw [List.length_map]; omega)
    have e3 : (pre.map fun g => ((.inl (g.getD 0 0) : Key), P.int (g.getD 1 0))) ++ [(.inl a, .int c)] = (pre ++ [[a, c]]).map fun g => ((.inl (g.getD 0 0) : Key), P.int (g.getD 1 0)) := by
      rw [List.map_append]
      rfl
    rw [e3] at happ
    refine ⟨_, gT2 (i := 2) (j := 3) (a := .int a) (b := .int c) (by walk_at "z.at") (by walk_at "z.at"), ?_⟩
    walk_at "z.go"
    refine w_sda (by walk_at "z.at") rfl (by walk_at "z.at") ?_
    walk_at "z.go"
    refine ⟨_, _, rfl, happ, by walk_at "z.at", _, by walk_at "z.at", ?_⟩
    exact .inl ⟨.inl rfl, _, _, _, by rw [List.append_assoc]; exact hp, rfl⟩
  · obtain ⟨pre, s2, s3, hp, rfl⟩ := hI
    rw [List.append_nil] at hp
    subst hp
    walk_at "z.go"
    exact ⟨_, _, .inl rfl, rfl, q⟩
theorem gs_first_gates {ls : List Lab} {b : Bk} {x : Int} {R : D → List D → Prop} (ok : BkOk ls b) (q : R (.olst (((b.fs.map fun l => [x, l]).map tupI).map .val)) [.val (bkP b), .val (.int x)]) : Gs (m_first_gates [.val (bkP b), .val (.int x)]) R := by
  have b3 := ix_b3 b
  have hfl := fs_len ok
  unfold m_first_gates bm_first_gates
  refine gs_fn (by rfl) ?_
  walk_at "z.st"
  walk_at "z.go"
  refine w_compM P.int (fun l => tupI [x, l]) ?_
  walk_at "z.go"
  refine ⟨⟨_, by walk_at "z.at", (by walk_at "z.ok")⟩, ?_, fun x hx => ?_, ?_⟩
  · exact le_size (k := 10) (by omega) (by omega)
  · walk_at "z.cs"
    walk_at "z.go"
    exact ⟨rfl, rfl⟩
  have e3 : (b.fs.map fun l => tupI [x, l]) = ((b.fs.map fun l => [x, l]).map tupI) := by
    rw [List.map_map]
    rfl
  rw [e3]
  walk_at "z.go"
  exact ⟨_, _, .inl rfl, rfl, q⟩
theorem gs_gates_behind {ls : List Lab} {b : Bk} {n p : Int} {R : D → List D → Prop} (ok : BkOk ls b) (q : R (.val (.lst (((nxB b p).map fun r => [n, r]).map tupI))) [.val (fMK (nextX b)), .val (tupI [n, p])]) :
    Gs (m_gates_behind [.val (fMK (nextX b)), .val (tupI [n, p])]) R := by
  have hfo := few_fo2 ok
  have i0 : gIx (tupI [n, p]) (.int 0) = some (.val (.int n)) := rfl
  have i1 : gIx (tupI [n, p]) (.int 1) = some (.val (.int p)) := rfl
  obtain ⟨o, ho1, ho2⟩ := get_MK (nextX b) (.inl p)
  rw [nextX_at] at ho2
  have hl : (nxB b p).length ≤ 64 := by
    unfold nxB
    rw [List.length_map]
    exact Nat.le_trans (List.length_filter_le _ _) (by omega)
  unfold m_gates_behind bm_gates_behind
  refine gs_fn (by rfl) ?_
  walk_at "z.st"
  walk_at "z.go"
  refine w_compM P.int (fun r => tupI [n, r]) ?_
  walk_at "z.go"
  refine ⟨⟨_, by walk_at "z.at", (by walk_at "z.ok")⟩, ?_, fun x hx => ?_, ?_⟩
  · exact le_size (k := 64) hl (by omega)
  · walk_at "z.cs"
    walk_at "z.go"
    exact ⟨rfl, rfl⟩
  have e3 : ((nxB b p).map fun r => tupI [n, r]) = (((nxB b p).map fun r => [n, r]).map tupI) := by
    rw [List.map_map]
    rfl
  rw [e3]
  walk_at "z.go"
  exact ⟨_, _, .inl rfl, rfl, q⟩


def P2 (S : List (List Int)) : Prop := ∀ s ∈ S, ∃ n p : Int, s = [n, p]
theorem nxB_len {ls : List Lab} {b : Bk} (ok : BkOk ls b) (p : Int) : (nxB b p).length ≤ 64 := by
  have hfo := few_fo2 ok
  unfold nxB
  rw [List.length_map]
  exact Nat.le_trans (List.length_filter_le _ _) (by omega)
theorem mem_nxB {b : Bk} {p r : Int} (h2 : ∀ g ∈ b.fo, ∃ a c : Int, g = [a, c]) : r ∈ nxB b p ↔ [p, r] ∈ b.fo := by
  unfold nxB
  rw [List.mem_map]
  constructor
  · rintro ⟨g, hg, rfl⟩
    obtain ⟨h1, h3⟩ := List.mem_filter.mp hg
    obtain ⟨a, c, rfl⟩ := h2 g h1
    have : a = p := of_decide_eq_true h3
    subst this
    exact h1
  · intro h
    exact ⟨[p, r], List.mem_filter.mpr ⟨h, decide_eq_true rfl⟩, rfl⟩
theorem perm_or {α : Type} (p q : α → Bool) (l : List α) (h : ∀ x ∈ l, ¬ (p x = true ∧ q x = true)) : (l.filter p ++ l.filter q).Perm (l.filter fun x => p x || q x) := by
  induction l with
  | nil => exact List.Perm.refl _
  | cons x l ih =>
    have ih := ih fun y hy => h y (List.mem_cons_of_mem _ hy)
    have hx := h x List.mem_cons_self
    cases hp : p x with
    | true =>
      have hq : q x = false := by
        cases e : q x with
        | false => rfl
        | true => exact absurd ⟨hp, e⟩ hx
      rw [List.filter_cons_of_pos hp, List.filter_cons_of_neg (by simp [hq]), List.filter_cons_of_pos (by simp [hp])]
      exact ih.cons x
    | false =>
      cases hq : q x with
      | true =>
        rw [List.filter_cons_of_neg (by simp [hp]), List.filter_cons_of_pos hq, List.filter_cons_of_pos (by simp [hq])]
        exact List.perm_middle.trans (ih.cons x)
      | false =>
        rw [List.filter_cons_of_neg (by simp [hp]), List.filter_cons_of_neg (by simp [hq]), List.filter_cons_of_neg (by simp [hp, hq])]
        exact ih
theorem kI_eq {s t : List Int} (h : kI s = kI t) : s = t := kI_inj h


theorem gs_nodes_of {ks : List (Str × Nat)} {ls : List Lab} {k : Nat} {R : D → List D → Prop} (h : WfS ks ls) (hk : k < ks.length) (q : R (.val (.tup ((nodesL ks k).map .int))) [.val (schP ks ls), .val (.int k)]) : Gs (m_nodes_of [.val (schP ks ls), .val (.int k)]) R := by
  have hs1 := ix_s1 ks ls
  have h1 : gIx (.tup (ks.map kindP)) (.int k) = some (.val (kindP ks[k])) := o_ixt (at_map (by simp [hk]))
  have hz := ix_k1 ks[k]
  have hz2 := h.kz _ (List.getElem_mem hk)
  unfold m_nodes_of bm_nodes_of
  refine gs_fn (by rfl) ?_
  walk_at "z.st"
  walk_at "z.go"
  refine gs_first_node h ?_
  walk_at "z.go"
  refine w_compM (fun k : Nat => .int k) (fun j => .int (firstL ks k + (j : Nat))) ?_
  walk_at "z.go"
  refine ⟨by omega, _, rfl, ?_⟩
  refine ⟨⟨_, by walk_at "z.at", (by walk_at "z.ok")⟩, ?_, fun x hx => ?_, ?_⟩
  · refine le_size (k := 24) ?_ (by omega)
    simpa using hz2
  · walk_at "z.cs"
    walk_at "z.go"
    exact ⟨rfl, rfl⟩
  · have h3 : ((List.range (ks[k].2 : Int).toNat).map fun j : Nat => P.int (firstL ks k + j)) = (nodesL ks k).map P.int := by
      simp only [nodesL, List.getElem?_eq_getElem hk, List.map_map, Int.toNat_natCast]
      rfl
    rw [h3]
    walk_at "z.go"
    exact ⟨_, _, .inl rfl, rfl, q⟩
def OutP (b : Bk) (x y : Int) (S : List (List Int)) : Prop := ¬ (b.em = 1 ∧ x = y) ∧ ∀ l ∈ b.la, [y, l] ∉ S
theorem gs_endsG {ds : D} {b : Bk} {x y : Int} {S : List (List Int)} {R : D → List D → Prop} (hla : b.la.length ≤ 1000) (hds : ds = .val (fS S) ∨ ds = .val (.tup (S.map tupI)) ∨ ds = .olst ((S.map tupI).map .val))
    (q : ∀ v : Bool, (v = true ↔ ¬ OutP b x y S) → R (.val (.bl v)) [.val (bkP b), .val (.int x), .val (.int y), ds]) :
    Gs (m_law_ends_there [.val (bkP b), .val (.int x), .val (.int y), ds]) R := by
  have i1 := ix_b1 b
  have i5 := ix_b5 b
  unfold m_law_ends_there bm_law_ends_there
  refine gs_fn (by rfl) ?_
  walk_at "z.st"
  walk_at "z.gi"
  refine w_grd (b.em = 1 ∧ x = y) ?_ (fun hp => ?_) (fun hn => ?_)
  · walk_at "z.go"
    refine ⟨fun hc => ?_, fun hc => ?_⟩
    · have hc : b.em = 1 := by simpa using hc
      walk_at "z.go"
      exact ⟨rfl, fun h => ⟨hc, by simpa using h⟩, fun h z => by simp [z.2] at h⟩
    · have hc : ¬ b.em = 1 := by simpa using hc
      exact ⟨rfl, fun no => (nomatch no), fun _ z => hc z.1⟩
  · walk_at "z.go"
    exact ⟨_, _, .inl rfl, by rcases hds with rfl | rfl | rfl <;> rfl, q true ⟨fun _ z => z.1 hp, fun _ => rfl⟩⟩
  · walk_at "z.go"
    refine w_compV P.int (fun l => decide ([y, l] ∈ S)) P.int ?_
    walk_at "z.go"
    refine ⟨⟨_, by walk_at "z.at", (by walk_at "z.ok")⟩, ?_, fun x hx => ?_, fun x hx hc => ?_, ?_⟩
    · exact le_size hla (by omega)
    · rcases hds with rfl | rfl | rfl
      · have hat := fS_at S y x
        walk_at "z.cs"
        walk_at "z.go"
        refine w_altB1 ?_
        walk_at "z.go"
        exact ⟨by rw [← inS_some]; rfl, rfl⟩
      · have hin : gIn (.tup [.int y, .int x]) (.tup (S.map tupI)) = some (.val (.bl (decide ([y, x] ∈ S)))) := o_inTt [y, x] S
        walk_at "z.cs"
        walk_at "z.go"
        refine w_altB2 (din_none (y := .t [.inl y, .inl x]) (e1 := _) rfl (by walk_at "z.at") rfl) ?_
        walk_at "z.go"
        exact ⟨rfl, rfl⟩
      · have hin : gIn (.tup [.int y, .int x]) (.lst (S.map tupI)) = some (.val (.bl (decide ([y, x] ∈ S)))) := o_inTl [y, x] S
        walk_at "z.cs"
        walk_at "z.go"
        refine w_altB2 (din_none (y := .t [.inl y, .inl x]) (e1 := _) rfl (by walk_at "z.at") rfl) ?_
        walk_at "z.go"
        exact ⟨rfl, rfl⟩
    · walk_at "z.cs"
      walk_at "z.go"
      exact ⟨rfl, rfl⟩
    walk_at "z.go"
    refine ⟨_, _, .inl rfl, by rcases hds with rfl | rfl | rfl <;> rfl, q _ ?_⟩
    rw [decide_eq_true_eq, List.length_map]
    unfold OutP
    constructor
    · intro hpos
      rintro ⟨_, hno⟩
      obtain ⟨l, hl⟩ := List.exists_mem_of_length_pos (l := b.la.filter fun l => decide ([y, l] ∈ S)) (by omega)
      obtain ⟨h1, h2⟩ := List.mem_filter.mp hl
      exact hno l h1 (of_decide_eq_true h2)
    · intro hno
      have hne : b.la.filter (fun l => decide ([y, l] ∈ S)) ≠ [] := fun e => hno ⟨hn, fun l h1 h2 => by
        have := (List.filter_eq_nil_iff.mp e) l h1
        exact this (decide_eq_true h2)⟩
      have := List.length_pos_iff.mpr hne
      omega
def PW : List Str := ["never", "nevers", "", "Never", "ever"]
def GP : Nat → P → Prop
  | 0, _ => False
  | _ + 1, .int _ => True
  | _ + 1, .str _ => True
  | n + 1, .tup ps => ps.length ≤ 1000 ∧ ∀ p ∈ ps, GP n p
  | _, _ => False
theorem gs_same : ∀ (n : Nat) (p : P), GP n p → ∀ {R : D → List D → Prop}, R (.val (.bl true)) [.val p, .val p] → Gs (m_law_same n [.val p, .val p]) R
  | 0, p, h, R, q => h.elim
  | n + 1, .int i, h, R, q => by
    have h1 : gIsi "tuple" (.int i) = some (.val (.bl false)) := rfl
    have h2 : gIsi "str" (.int i) = some (.val (.bl false)) := rfl
    show Gs (fnM 2 3 (bm_law_same (m_law_same n)) _) R
    unfold bm_law_same
    refine gs_fn (by rfl) ?_
    walk_at "z.st"
    walk_at "z.go"
    refine gs_isint ?_
    walk_at "z.go"
    exact ⟨_, _, .inl rfl, rfl, by simpa using q⟩
  | n + 1, .str i, h, R, q => by
    have h1 : gIsi "tuple" (.str i) = some (.val (.bl false)) := rfl
    have h2 : gIsi "str" (.str i) = some (.val (.bl true)) := rfl
    show Gs (fnM 2 3 (bm_law_same (m_law_same n)) _) R
    unfold bm_law_same
    refine gs_fn (by rfl) ?_
    walk_at "z.st"
    walk_at "z.go"
    exact ⟨_, _, .inl rfl, rfl, by simpa using q⟩
  | n + 1, .tup ps, h, R, q => by
    have h1 : gIsi "tuple" (.tup ps) = some (.val (.bl true)) := rfl
    show Gs (fnM 2 3 (bm_law_same (m_law_same n)) _) R
    obtain ⟨hl, hp⟩ := h
    unfold bm_law_same
    refine gs_fn (by rfl) ?_
    walk_at "z.st"
    walk_at "z.go"
    have hne : (!decide ((ps.length : Int) = ps.length)) = false := by simp
    rw [show (!true) = false from rfl]
    walk_at "z.go"
    rw [hne]
    walk_at "z.go"
    refine w_compM (fun k : Nat => .int k) (fun _ => .bl true) ?_
    walk_at "z.go"
    refine ⟨by omega, _, rfl, ?_⟩
    refine ⟨⟨_, by walk_at "z.at", (by walk_at "z.ok")⟩, ?_, fun x hx => ?_, ?_⟩
    · exact le_size (k := 1000) (by simpa using hl) (by omega)
    · walk_at "z.cs"
      have hx : x < ps.length := by simpa using hx
      have ha : atI ps (x : Int) = some ps[x] := by simp [atI, ixN, hx]
      walk_at "z.go"
      refine gs_same n ps[x] (hp _ (List.getElem_mem hx)) ?_
      walk_at "z.go"
      exact ⟨rfl, rfl⟩
    · have hb : ((List.range (ps.length : Int).toNat).map fun _ : Nat => P.bl true) = ((List.range ps.length).map fun _ : Nat => true).map P.bl := by
        rw [List.map_map, Int.toNat_natCast]; rfl
      rw [hb]
      have ho := o_all ((List.range ps.length).map fun _ : Nat => true)
      have hall : ((List.range ps.length).map fun _ : Nat => true).all id = true := List.all_eq_true.mpr fun b hb => by
        obtain ⟨_, _, e⟩ := List.mem_map.mp hb
        rw [← e]; rfl
      rw [hall] at ho
      walk_at "z.go"
      exact ⟨_, _, .inl rfl, rfl, q⟩
  | n + 1, .non, h, R, q => h.elim
  | n + 1, .bl _, h, R, q => h.elim
  | n + 1, .lst _, h, R, q => h.elim
  | n + 1, .scr _, h, R, q => h.elim
  | n + 1, .dK _ _, h, R, q => h.elim
  | n + 1, .dT _ _, h, R, q => h.elim


theorem add_tI {G H : List Int} (h : G.length + H.length ≤ 1000000) : gAdd (.tup (G.map .int)) (.tup (H.map .int)) = some (.val (.tup ((G ++ H).map .int))) := by
  rw [o_addt (le_size (k := 1000000) (by simpa using h) (by omega)), ← List.map_append]
theorem gs_labels_of : ∀ (n : Nat) (e : Ex), ExOk e → szX e ≤ n → szX e ≤ 1000 → ∀ {R : D → List D → Prop}, R (.val (.tup ((lbX e).map .int))) [.val (exP e)] → Gs (m_labels_of n [.val (exP e)]) R
  | 0, e, _, h, _, _, _ => by cases e <;> simp [szX] at h
  | n + 1, .stay, _, _, _, R, q => by
    have i0 : gIx (exP .stay) (.int 0) = some (.val (.str "stay")) := rfl
    show Gs (fnM 1 3 (bm_labels_of (m_labels_of n)) _) R
    unfold bm_labels_of
    refine gs_fn (by rfl) ?_
    walk_at "z.st"
    walk_at "z.go"
    rw [decide_eq_true (rfl : ("stay" : Str) = "stay")]
    walk_at "z.go"
    exact ⟨_, _, .inl rfl, rfl, q⟩
  | n + 1, .step l b, _, _, _, R, q => by
    have i0 : gIx (exP (.step l b)) (.int 0) = some (.val (.str "step")) := rfl
    have i1 : gIx (exP (.step l b)) (.int 1) = some (.val (.int l)) := rfl
    have i2 : gIx (exP (.step l b)) (.int 2) = some (.val (.int b)) := rfl
    show Gs (fnM 1 3 (bm_labels_of (m_labels_of n)) _) R
    unfold bm_labels_of
    refine gs_fn (by rfl) ?_
    walk_at "z.st"
    walk_at "z.go"
    rw [decide_eq_false (by decide +kernel : ¬ ("step" : Str) = "stay")]
    walk_at "z.go"
    rw [decide_eq_true (rfl : ("step" : Str) = "step")]
    walk_at "z.go"
    exact ⟨_, _, .inl rfl, rfl, q⟩
  | n + 1, .un w e, ok, h, h2, R, q => by
    simp only [szX] at h h2
    have i0 : gIx (exP (.un w e)) (.int 0) = some (.val (.str w)) := rfl
    have s1 : gSl (exP (.un w e)) (some 1) none = some (.val (.tup [exP e])) := sl_one
    have n1 : ¬ w = "stay" := by rcases ok.1 with rfl | rfl | rfl <;> decide +kernel
    have n2 : ¬ w = "step" := by rcases ok.1 with rfl | rfl | rfl <;> decide +kernel
    have hl := lt_sz e
    have a0 : gAdd (.tup []) (.tup ((lbX e).map .int)) = some (.val (.tup ((lbX e).map .int))) := add_tI (G := []) (by simp [lbX]; omega)
    show Gs (fnM 1 3 (bm_labels_of (m_labels_of n)) _) R
    unfold bm_labels_of
    refine gs_fn (by rfl) ?_
    walk_at "z.st"
    walk_at "z.go"
    rw [decide_eq_false n1]
    walk_at "z.go"
    rw [decide_eq_false n2]
    walk_at "z.go"
    refine w_fcons (gN_set (by walk_at "z.at")) ?_
    walk_at "z.go"
    refine gs_labels_of n e ok.2 (by omega) (by omega) ?_
    walk_at "z.go"
    refine ⟨rfl, w_fnil ?_⟩
    walk_at "z.go"
    exact ⟨_, _, .inl rfl, rfl, q⟩
  | n + 1, .bi w e f, ok, h, h2, R, q => by
    simp only [szX] at h h2
    have i0 : gIx (exP (.bi w e f)) (.int 0) = some (.val (.str w)) := rfl
    have s1 : gSl (exP (.bi w e f)) (some 1) none = some (.val (.tup [exP e, exP f])) := sl_one
    have n1 : ¬ w = "stay" := by rcases ok.1 with rfl | rfl <;> decide +kernel
    have n2 : ¬ w = "step" := by rcases ok.1 with rfl | rfl <;> decide +kernel
    have hl := lt_sz e
    have hl2 := lt_sz f
    have a0 : gAdd (.tup []) (.tup ((lbX e).map .int)) = some (.val (.tup ((lbX e).map .int))) := add_tI (G := []) (by simp [lbX]; omega)
    have a1 : gAdd (.tup ((lbX e).map .int)) (.tup ((lbX f).map .int)) = some (.val (.tup ((lbX (.bi w e f)).map .int))) := by
      rw [add_tI (by simp [lbX]; omega)]
      simp [lbX, ltX]
    show Gs (fnM 1 3 (bm_labels_of (m_labels_of n)) _) R
    unfold bm_labels_of
    refine gs_fn (by rfl) ?_
    walk_at "z.st"
    walk_at "z.go"
    rw [decide_eq_false n1]
    walk_at "z.go"
    rw [decide_eq_false n2]
    walk_at "z.go"
    refine w_fcons (gN_set (by walk_at "z.at")) ?_
    walk_at "z.go"
    refine gs_labels_of n e ok.2.1 (by omega) (by omega) ?_
    walk_at "z.go"
    refine ⟨rfl, w_fcons (gN_set (by walk_at "z.at")) ?_⟩
    walk_at "z.go"
    refine gs_labels_of n f ok.2.2 (by omega) (by omega) ?_
    walk_at "z.go"
    refine ⟨rfl, w_fnil ?_⟩
    walk_at "z.go"
    exact ⟨_, _, .inl rfl, rfl, q⟩
theorem gs_letters_in : ∀ (n : Nat) (e : Ex), ExOk e → szX e ≤ n → szX e ≤ 1000 → ∀ {R : D → List D → Prop}, R (.val (.lst ((ltX e).map tupI))) [.val (exP e)] → Gs (m_letters_in n [.val (exP e)]) R
  | 0, e, _, h, _, _, _ => by cases e <;> simp [szX] at h
  | n + 1, .stay, _, _, _, R, q => by
    have i0 : gIx (exP .stay) (.int 0) = some (.val (.str "stay")) := rfl
    show Gs (fnM 1 3 (bm_letters_in (m_letters_in n)) _) R
    unfold bm_letters_in
    refine gs_fn (by rfl) ?_
    walk_at "z.st"
    walk_at "z.go"
    rw [decide_eq_true (rfl : ("stay" : Str) = "stay")]
    walk_at "z.go"
    exact ⟨_, _, .inl rfl, rfl, q⟩
  | n + 1, .step l b, _, _, _, R, q => by
    have i0 : gIx (exP (.step l b)) (.int 0) = some (.val (.str "step")) := rfl
    have i1 : gIx (exP (.step l b)) (.int 1) = some (.val (.int l)) := rfl
    have i2 : gIx (exP (.step l b)) (.int 2) = some (.val (.int b)) := rfl
    show Gs (fnM 1 3 (bm_letters_in (m_letters_in n)) _) R
    unfold bm_letters_in
    refine gs_fn (by rfl) ?_
    walk_at "z.st"
    walk_at "z.go"
    rw [decide_eq_false (by decide +kernel : ¬ ("step" : Str) = "stay")]
    walk_at "z.go"
    rw [decide_eq_true (rfl : ("step" : Str) = "step")]
    walk_at "z.go"
    exact ⟨_, _, .inl rfl, rfl, q⟩
  | n + 1, .un w e, ok, h, h2, R, q => by
    simp only [szX] at h h2
    have i0 : gIx (exP (.un w e)) (.int 0) = some (.val (.str w)) := rfl
    have s1 : gSl (exP (.un w e)) (some 1) none = some (.val (.tup [exP e])) := sl_one
    have n1 : ¬ w = "stay" := by rcases ok.1 with rfl | rfl | rfl <;> decide +kernel
    have n2 : ¬ w = "step" := by rcases ok.1 with rfl | rfl | rfl <;> decide +kernel
    have hl := lt_sz e
    have a0 : gAdd (.lst []) (.lst ((ltX e).map tupI)) = some (.olst (((ltX e).map tupI).map .val)) := add_T (G := []) (by simp; omega)
    show Gs (fnM 1 3 (bm_letters_in (m_letters_in n)) _) R
    unfold bm_letters_in
    refine gs_fn (by rfl) ?_
    walk_at "z.st"
    walk_at "z.go"
    rw [decide_eq_false n1]
    walk_at "z.go"
    rw [decide_eq_false n2]
    walk_at "z.go"
    refine w_fcons (gN_set (by walk_at "z.at")) ?_
    walk_at "z.go"
    refine gs_letters_in n e ok.2 (by omega) (by omega) ?_
    walk_at "z.go"
    refine ⟨rfl, w_fnil ?_⟩
    walk_at "z.go"
    exact ⟨_, _, .inl rfl, rfl, q⟩
  | n + 1, .bi w e f, ok, h, h2, R, q => by
    simp only [szX] at h h2
    have i0 : gIx (exP (.bi w e f)) (.int 0) = some (.val (.str w)) := rfl
    have s1 : gSl (exP (.bi w e f)) (some 1) none = some (.val (.tup [exP e, exP f])) := sl_one
    have n1 : ¬ w = "stay" := by rcases ok.1 with rfl | rfl <;> decide +kernel
    have n2 : ¬ w = "step" := by rcases ok.1 with rfl | rfl <;> decide +kernel
    have hl := lt_sz e
    have hl2 := lt_sz f
    have a0 : gAdd (.lst []) (.lst ((ltX e).map tupI)) = some (.olst (((ltX e).map tupI).map .val)) := add_T (G := []) (by simp; omega)
    have a1 : gAdd (.lst ((ltX e).map tupI)) (.lst ((ltX f).map tupI)) = some (.olst (((ltX (.bi w e f)).map tupI).map .val)) := add_T (by omega)
    show Gs (fnM 1 3 (bm_letters_in (m_letters_in n)) _) R
    unfold bm_letters_in
    refine gs_fn (by rfl) ?_
    walk_at "z.st"
    walk_at "z.go"
    rw [decide_eq_false n1]
    walk_at "z.go"
    rw [decide_eq_false n2]
    walk_at "z.go"
    refine w_fcons (gN_set (by walk_at "z.at")) ?_
    walk_at "z.go"
    refine gs_letters_in n e ok.2.1 (by omega) (by omega) ?_
    walk_at "z.go"
    refine ⟨rfl, w_fcons (gN_set (by walk_at "z.at")) ?_⟩
    walk_at "z.go"
    refine gs_letters_in n f ok.2.2 (by omega) (by omega) ?_
    walk_at "z.go"
    refine ⟨rfl, w_fnil ?_⟩
    walk_at "z.go"
    exact ⟨_, _, .inl rfl, rfl, q⟩
theorem gs_pairs_between {as bs : List Int} {R : D → List D → Prop} (ha : as.length ≤ 1000) (hb : bs.length ≤ 1000) (q : R (.val (.lst ((prX as bs).map tupI))) [.val (.lst (as.map .int)), .val (.lst (bs.map .int))]) :
    Gs (m_pairs_between [.val (.lst (as.map .int)), .val (.lst (bs.map .int))]) R := by
  have hm : as.length * bs.length ≤ 1000000 := Nat.mul_le_mul ha hb
  have hpl := prX_len as bs
  have e1 : (as.flatMap fun a => bs.map fun b => tupI [a, b]) = (prX as bs).map tupI := by
    unfold prX
    rw [List.map_flatMap]
    refine flat_congr fun a _ => ?_
    rw [List.map_map]
    rfl
  unfold m_pairs_between bm_pairs_between
  refine gs_fn (by rfl) ?_
  walk_at "z.st"
  walk_at "z.go"
  refine w_comp2M P.int P.int (fun a b => tupI [a, b]) (fun _ => bs) (by decide) ?_
  walk_at "z.go"
  refine ⟨⟨_, by walk_at "z.at", .inl rfl⟩, ⟨_, by walk_at "z.at", .inl rfl⟩, ?_, fun x hx => ?_, fun x hx y hy => ?_, ?_⟩
  · rw [e1, List.length_map, hpl]
    exact le_size hm (by omega)
  · walk_at "z.cs"
    walk_at "z.go"
    exact ⟨rfl, rfl⟩
  · walk_at "z.cs"
    walk_at "z.go"
    exact ⟨rfl, rfl⟩
  rw [e1]
  walk_at "z.go"
  exact ⟨_, _, .inl rfl, rfl, q⟩
def fxT (f : Fx) : P := .tup [.bl f.em, .lst (f.fs.map .int), .lst (f.fo.map tupI), .lst (f.la.map .int)]
theorem fxT_0 (f : Fx) : gIx (fxT f) (.int 0) = some (.val (.bl f.em)) := rfl
theorem fxT_1 (f : Fx) : gIx (fxT f) (.int 1) = some (.val (.lst (f.fs.map .int))) := rfl
theorem fxT_2 (f : Fx) : gIx (fxT f) (.int 2) = some (.val (.lst (f.fo.map tupI))) := rfl
theorem fxT_3 (f : Fx) : gIx (fxT f) (.int 3) = some (.val (.lst (f.la.map .int))) := rfl
theorem gs_then_facts {e f : Ex} {R : D → List D → Prop} (h1 : szX e ≤ 64) (h2 : szX f ≤ 64) (h3 : (ltX e).length + (ltX f).length ≤ 16) (q : R (.val (fxT (fcX (.bi "then" e f)))) [.val (fxT (fcX e)), .val (fxT (fcX f))]) :
    Gs (m_then_facts [.val (fxT (fcX e)), .val (fxT (fcX f))]) R := by
  obtain ⟨l1, l2, l3⟩ := fc_len e
  obtain ⟨g1, g2, g3⟩ := fc_len f
  have l4 : szX e * ((ltX e).length * (ltX e).length) ≤ 64 * (16 * 16) := Nat.mul_le_mul (by omega) (Nat.mul_le_mul (by omega) (by omega))
  have g4 : szX f * ((ltX f).length * (ltX f).length) ≤ 64 * (16 * 16) := Nat.mul_le_mul (by omega) (Nat.mul_le_mul (by omega) (by omega))
  have j0 := fxT_0 (fcX e)
  have j1 := fxT_1 (fcX e)
  have j2 := fxT_2 (fcX e)
  have j3 := fxT_3 (fcX e)
  have k0 := fxT_0 (fcX f)
  have k1 := fxT_1 (fcX f)
  have k2 := fxT_2 (fcX f)
  have k3 := fxT_3 (fcX f)
  have a1 := add_I (G := (fcX e).fs) (H := (fcX f).fs) (by omega)
  have a1' : gAdd (.lst ((fcX e).fs.map .int)) (.lst []) = some (.olst (((fcX e).fs.map P.int).map .val)) := by
    have := add_I (G := (fcX e).fs) (H := []) (by simp; omega)
    rwa [List.append_nil] at this
  have a2 := add_T (G := (fcX e).fo) (H := (fcX f).fo) (by omega)
  have a4 := add_I (G := (fcX f).la) (H := (fcX e).la) (by omega)
  have a4' : gAdd (.lst ((fcX f).la.map .int)) (.lst []) = some (.olst (((fcX f).la.map P.int).map .val)) := by
    have := add_I (G := (fcX f).la) (H := []) (by simp; omega)
    rwa [List.append_nil] at this
  have mm := Nat.mul_le_mul (show (fcX e).la.length ≤ 16 by omega) (show (fcX f).fs.length ≤ 16 by omega)
  have a5 := add_T (G := (fcX e).fo ++ (fcX f).fo) (H := prX (fcX e).la (fcX f).fs) (by
    rw [prX_len, List.length_append]
    omega)
  have q2 : ∀ em fs la, em = ((fcX e).em && (fcX f).em) → fs = (if (fcX e).em then (fcX e).fs ++ (fcX f).fs else (fcX e).fs) → la = (if (fcX f).em then (fcX f).la ++ (fcX e).la else (fcX f).la) →
      R (.val (fxT ⟨em, fs, ((fcX e).fo ++ (fcX f).fo) ++ prX (fcX e).la (fcX f).fs, la⟩)) [.val (fxT (fcX e)), .val (fxT (fcX f))] := by
    rintro _ _ _ rfl rfl rfl
    have := q
    simp only [fcX, if_neg (show ¬ ("then" : Str) = "either" by decide)] at this
    exact this
  clear q
  cases he : (fcX e).em <;> cases hf : (fcX f).em <;> rw [he] at j0 <;> rw [hf] at k0 <;> simp only [he, hf] at q2
  all_goals
    unfold m_then_facts bm_then_facts
    refine gs_fn (by rfl) ?_
    walk_at "z.st"
    walk_at "z.go"
    refine gs_pairs_between (by omega) (by omega) ?_
    walk_at "z.go"
    refine ⟨_, _, .inl rfl, rfl, q2 _ _ _ rfl rfl rfl⟩
theorem gs_facts_of : ∀ (n : Nat) (e : Ex), ExOk e → szX e ≤ n → szX e ≤ 64 → (ltX e).length ≤ 16 → ∀ {R : D → List D → Prop}, R (.val (fxT (fcX e))) [.val (exP e)] → Gs (m_facts_of n [.val (exP e)]) R
  | 0, e, _, h, _, _, _, _ => by cases e <;> simp [szX] at h
  | n + 1, .stay, _, _, _, _, R, q => by
    have i0 : gIx (exP .stay) (.int 0) = some (.val (.str "stay")) := rfl
    show Gs (fnM 1 4 (bm_facts_of (m_facts_of n)) _) R
    unfold bm_facts_of
    refine gs_fn (by rfl) ?_
    walk_at "z.st"
    walk_at "z.go"
    rw [decide_eq_true (rfl : ("stay" : Str) = "stay")]
    walk_at "z.go"
    exact ⟨_, _, .inl rfl, rfl, q⟩
  | n + 1, .step l b, _, _, _, _, R, q => by
    have i0 : gIx (exP (.step l b)) (.int 0) = some (.val (.str "step")) := rfl
    have i1 : gIx (exP (.step l b)) (.int 1) = some (.val (.int l)) := rfl
    show Gs (fnM 1 4 (bm_facts_of (m_facts_of n)) _) R
    unfold bm_facts_of
    refine gs_fn (by rfl) ?_
    walk_at "z.st"
    walk_at "z.go"
    rw [decide_eq_false (by decide +kernel : ¬ ("step" : Str) = "stay")]
    walk_at "z.go"
    rw [decide_eq_true (rfl : ("step" : Str) = "step")]
    walk_at "z.go"
    exact ⟨_, _, .inl rfl, rfl, q⟩
  | n + 1, .un w e, ok, h, h2, h3, R, q => by
    simp only [szX] at h h2
    have h3 : (ltX e).length ≤ 16 := h3
    have i0 : gIx (exP (.un w e)) (.int 0) = some (.val (.str w)) := rfl
    have i1 : gIx (exP (.un w e)) (.int 1) = some (.val (exP e)) := rfl
    have n1 : ¬ w = "stay" := by rcases ok.1 with rfl | rfl | rfl <;> decide +kernel
    have n2 : ¬ w = "step" := by rcases ok.1 with rfl | rfl | rfl <;> decide +kernel
    have n3 : ¬ w = "then" := by rcases ok.1 with rfl | rfl | rfl <;> decide +kernel
    have n4 : ¬ w = "either" := by rcases ok.1 with rfl | rfl | rfl <;> decide +kernel
    obtain ⟨l1, l2, l3⟩ := fc_len e
    have l4 : szX e * ((ltX e).length * (ltX e).length) ≤ 64 * (16 * 16) := Nat.mul_le_mul (by omega) (Nat.mul_le_mul h3 h3)
    have j0 := fxT_0 (fcX e)
    have j1 := fxT_1 (fcX e)
    have j2 := fxT_2 (fcX e)
    have j3 := fxT_3 (fcX e)
    show Gs (fnM 1 4 (bm_facts_of (m_facts_of n)) _) R
    unfold bm_facts_of
    refine gs_fn (by rfl) ?_
    walk_at "z.st"
    walk_at "z.go"
    rw [decide_eq_false n1]
    walk_at "z.go"
    rw [decide_eq_false n2]
    walk_at "z.go"
    refine gs_facts_of n e ok.2 (by omega) (by omega) h3 ?_
    walk_at "z.go"
    rw [decide_eq_false n3]
    walk_at "z.go"
    rw [decide_eq_false n4]
    walk_at "z.go"
    by_cases hm : w = "maybe"
    · rw [decide_eq_true hm]
      walk_at "z.go"
      refine ⟨_, _, .inl rfl, rfl, ?_⟩
      simp only [fcX, if_pos hm] at q
      exact q
    · have a0 := add_T (G := (fcX e).fo) (H := prX (fcX e).la (fcX e).fs) (by
        rw [prX_len]
        have := Nat.mul_le_mul (Nat.le_trans l2 h3) (Nat.le_trans l1 h3)
        omega)
      simp only [fcX, if_neg hm] at q
      rw [decide_eq_false hm]
      walk_at "z.go"
      refine w_orV ?_
      walk_at "z.go"
      refine ⟨fun he => ?_, fun he => ?_⟩
      · rw [he] at q
        walk_at "z.go"
        refine gs_pairs_between (by omega) (by omega) ?_
        walk_at "z.go"
        exact ⟨_, _, .inl rfl, rfl, q⟩
      · rw [he] at q
        walk_at "z.go"
        refine gs_pairs_between (by omega) (by omega) ?_
        walk_at "z.go"
        exact ⟨_, _, .inl rfl, rfl, q⟩
  | n + 1, .bi w e f, ok, h, h2, h3, R, q => by
    simp only [szX, ltX, List.length_append] at h h2 h3
    have i0 : gIx (exP (.bi w e f)) (.int 0) = some (.val (.str w)) := rfl
    have i1 : gIx (exP (.bi w e f)) (.int 1) = some (.val (exP e)) := rfl
    have i2 : gIx (exP (.bi w e f)) (.int 2) = some (.val (exP f)) := rfl
    have n1 : ¬ w = "stay" := by rcases ok.1 with rfl | rfl <;> decide +kernel
    have n2 : ¬ w = "step" := by rcases ok.1 with rfl | rfl <;> decide +kernel
    obtain ⟨l1, l2, l3⟩ := fc_len e
    obtain ⟨g1, g2, g3⟩ := fc_len f
    have l4 : szX e * ((ltX e).length * (ltX e).length) ≤ 64 * (16 * 16) := Nat.mul_le_mul (by omega) (Nat.mul_le_mul (by omega) (by omega))
    have g4 : szX f * ((ltX f).length * (ltX f).length) ≤ 64 * (16 * 16) := Nat.mul_le_mul (by omega) (Nat.mul_le_mul (by omega) (by omega))
    have j0 := fxT_0 (fcX e)
    have j1 := fxT_1 (fcX e)
    have j2 := fxT_2 (fcX e)
    have j3 := fxT_3 (fcX e)
    have k0 := fxT_0 (fcX f)
    have k1 := fxT_1 (fcX f)
    have k2 := fxT_2 (fcX f)
    have k3 := fxT_3 (fcX f)
    have a1 := add_I (G := (fcX e).fs) (H := (fcX f).fs) (by omega)
    have a2 := add_T (G := (fcX e).fo) (H := (fcX f).fo) (by omega)
    have a3 := add_I (G := (fcX e).la) (H := (fcX f).la) (by omega)
    show Gs (fnM 1 4 (bm_facts_of (m_facts_of n)) _) R
    unfold bm_facts_of
    refine gs_fn (by rfl) ?_
    walk_at "z.st"
    walk_at "z.go"
    rw [decide_eq_false n1]
    walk_at "z.go"
    rw [decide_eq_false n2]
    walk_at "z.go"
    refine gs_facts_of n e ok.2.1 (by omega) (by omega) (by omega) ?_
    walk_at "z.go"
    by_cases hm : w = "then"
    · subst hm
      rw [decide_eq_true rfl]
      walk_at "z.go"
      refine gs_facts_of n f ok.2.2 (by omega) (by omega) (by omega) ?_
      walk_at "z.go"
      refine gs_then_facts (by omega) (by omega) (by omega) ?_
      walk_at "z.go"
      exact ⟨_, _, .inl rfl, rfl, q⟩
    · have hw : w = "either" := ok.1.resolve_left hm
      subst hw
      rw [decide_eq_false hm]
      walk_at "z.go"
      rw [decide_eq_true rfl]
      walk_at "z.go"
      refine gs_facts_of n f ok.2.2 (by omega) (by omega) (by omega) ?_
      walk_at "z.go"
      simp only [fcX, if_pos] at q
      refine w_orV ?_
      walk_at "z.go"
      refine ⟨fun he => ?_, fun he => ?_⟩
      · rw [he] at q
        walk_at "z.go"
        exact ⟨_, _, .inl rfl, rfl, q⟩
      · rw [he] at q
        walk_at "z.go"
        exact ⟨_, _, .inl rfl, rfl, q⟩


structure ExpOk (b : Bk) (x : Int) (G A S T : List (List Int)) : Prop where
  snd : Snd b x G S
  cls : Cls b x G S
  ndS : S.Nodup
  ndA : A.Nodup
  a2 : P2 A
  gate : ∀ n l, [n, l] ∈ A ↔ Opn b x S n l
  tch : T.Perm (G.filter fun g => inB b g && decide (gtE b g ∈ A))
def edG (b : Bk) (G : List (List Int)) (u : List Int) : List (List Int) := G.filter fun g => inB b g && decide (gtE b g = u)
def seP (b : Bk) (g : List Int) : P := .tup [tupI (sfE b g), tupI g]
theorem vl_step (b : Bk) (G : List (List Int)) (u : List Int) : vlM (stepX b G) (kI u) = (edG b G u).map (seP b) := by
  unfold vlM stepX edG
  rw [List.filter_map, List.map_map, List.filter_filter]
  refine congrArg (List.map _) (List.filter_congr fun g _ => ?_)
  show (decide (kI (gtE b g) = kI u) && inB b g) = _
  rw [Bool.and_comm]
  exact congrArg _ (decide_eq_decide.mpr ⟨kI_eq, fun e => by rw [e]⟩)
structure ExI (b : Bk) (x : Int) (G A S T W : List (List Int)) : Prop where
  snd : Snd b x G S
  ndS : S.Nodup
  ndA : A.Nodup
  a2 : P2 A
  w2 : P2 W
  opn : ∀ n l, [n, l] ∈ A ∨ [n, l] ∈ W → Opn b x S n l
  fst : ∀ l ∈ b.fs, [x, l] ∈ A ∨ [x, l] ∈ W
  nxt : ∀ n p, [n, p] ∈ S → ∀ l, [p, l] ∈ b.fo → [n, l] ∈ A ∨ [n, l] ∈ W
  done : ∀ g ∈ G, inB b g = true → gtE b g ∈ A → sfE b g ∈ S
  tch : T.Perm (G.filter fun g => inB b g && decide (gtE b g ∈ A))
theorem Opn.mono {b : Bk} {x : Int} {S S2 : List (List Int)} {n l : Int} (h : Opn b x S n l) (hs : ∀ s ∈ S, s ∈ S2) : Opn b x S2 n l :=
  h.elim .inl fun ⟨p, h1, h2⟩ => .inr ⟨p, h1, hs _ h2⟩
theorem ExI.start (b : Bk) (x : Int) (G : List (List Int)) : ExI b x G [] [] [] (b.fs.map fun l => [x, l]) where
  snd := fun _ no => nomatch no
  ndS := List.nodup_nil
  ndA := List.nodup_nil
  a2 := fun _ no => nomatch no
  w2 := fun s hs => by
    obtain ⟨l, _, rfl⟩ := List.mem_map.mp hs
    exact ⟨x, l, rfl⟩
  opn := fun n l h => by
    rcases h with h | h
    · cases h
    · obtain ⟨l2, h2, e⟩ := List.mem_map.mp h
      injection e with e1 e2
      injection e2 with e2 _
      subst e1 e2
      exact .inl ⟨rfl, h2⟩
  fst := fun l hl => .inr (List.mem_map.mpr ⟨l, hl, rfl⟩)
  nxt := fun _ _ no => nomatch no
  done := fun _ _ _ no => nomatch no
  tch := by simp
theorem ExI.skip {b : Bk} {x : Int} {G A S T W : List (List Int)} {u : List Int} (h : ExI b x G A S T (W ++ [u])) (hu : u ∈ A) : ExI b x G A S T W where
  snd := h.snd
  ndS := h.ndS
  ndA := h.ndA
  a2 := h.a2
  w2 := fun s hs => h.w2 s (List.mem_append_left _ hs)
  opn := fun n l hn => h.opn n l (hn.imp id (List.mem_append_left _))
  fst := fun l hl => (h.fst l hl).elim .inl fun z => (List.mem_append.mp z).elim .inr fun z => .inl (by rw [List.mem_singleton.mp z]; exact hu)
  nxt := fun n p hs l hl => (h.nxt n p hs l hl).elim .inl fun z => (List.mem_append.mp z).elim .inr fun z => .inl (by rw [List.mem_singleton.mp z]; exact hu)
  done := h.done
  tch := h.tch
theorem ExI.stop {b : Bk} {x : Int} {ls : List Lab} {G A S T : List (List Int)} (ok : BkOk ls b) (hG : E3 G) (h : ExI b x G A S T []) : ExpOk b x G A S T where
  snd := h.snd
  cls := fun s l t g hg hl ho => by
    have hin : inB b [s, l, t] = true := by
      unfold inB
      exact decide_eq_true (show l ∈ lbB b from Classical.byContradiction fun no => by rw [ltr_none.mpr no] at hl; cases hl)
    have e1 : gtE b [s, l, t] = [wa (bkE g) s t, l] := by
      show [wa (dirE b l) s t, l] = _
      rw [dir_at hl]
    have e2 : sfE b [s, l, t] = [wb (bkE g) s t, l] := by
      show [wb (dirE b l) s t, l] = _
      rw [dir_at hl]
    have hA : [wa (bkE g) s t, l] ∈ A := by
      rcases ho with ⟨e, hf⟩ | ⟨p, hp, hs⟩
      · rw [e]
        exact (h.fst l hf).resolve_right fun no => nomatch no
      · exact (h.nxt _ p hs l hp).resolve_right fun no => nomatch no
    have := h.done _ hg hin (by rw [e1]; exact hA)
    rwa [e2] at this
  ndS := h.ndS
  ndA := h.ndA
  a2 := h.a2
  gate := fun n l => ⟨fun hA => h.opn n l (.inl hA), fun ho => by
    rcases ho with ⟨rfl, hf⟩ | ⟨p, hp, hs⟩
    · exact (h.fst l hf).resolve_right fun no => nomatch no
    · exact (h.nxt n p hs l hp).resolve_right fun no => nomatch no⟩
  tch := h.tch
structure ExJ (b : Bk) (x : Int) (G A S T W : List (List Int)) (u : List Int) (pre : List (List Int)) : Prop where
  snd : Snd b x G S
  ndS : S.Nodup
  ndA : (A ++ [u]).Nodup
  a2 : P2 (A ++ [u])
  w2 : P2 W
  opn : ∀ n l, [n, l] ∈ A ++ [u] ∨ [n, l] ∈ W → Opn b x S n l
  fst : ∀ l ∈ b.fs, [x, l] ∈ A ++ [u] ∨ [x, l] ∈ W
  nxt : ∀ n p, [n, p] ∈ S → ∀ l, [p, l] ∈ b.fo → [n, l] ∈ A ++ [u] ∨ [n, l] ∈ W
  done : ∀ g ∈ G, inB b g = true → gtE b g ∈ A → sfE b g ∈ S
  part : ∀ g ∈ pre, sfE b g ∈ S
  tch : T.Perm ((G.filter fun g => inB b g && decide (gtE b g ∈ A)) ++ pre)
theorem ExI.open_ {b : Bk} {x : Int} {G A S T W : List (List Int)} {u : List Int} (h : ExI b x G A S T (W ++ [u])) (hu : u ∉ A) : ExJ b x G A S T W u [] where
  snd := h.snd
  ndS := h.ndS
  ndA := by
    rw [List.nodup_append]
    exact ⟨h.ndA, by simp, fun a ha c hc e => hu (by rw [← List.mem_singleton.mp hc, ← e]; exact ha)⟩
  a2 := fun s hs => (List.mem_append.mp hs).elim (h.a2 s) fun z => h.w2 s (List.mem_append_right _ z)
  w2 := fun s hs => h.w2 s (List.mem_append_left _ hs)
  opn := fun n l hn => h.opn n l (by
    rcases hn with hn | hn
    · exact (List.mem_append.mp hn).imp id (List.mem_append_right _)
    · exact .inr (List.mem_append_left _ hn))
  fst := fun l hl => (h.fst l hl).elim (fun z => .inl (List.mem_append_left _ z)) fun z => (List.mem_append.mp z).elim .inr fun z => .inl (List.mem_append_right _ z)
  nxt := fun n p hs l hl => (h.nxt n p hs l hl).elim (fun z => .inl (List.mem_append_left _ z)) fun z => (List.mem_append.mp z).elim .inr fun z => .inl (List.mem_append_right _ z)
  done := h.done
  part := fun _ no => nomatch no
  tch := by rw [List.append_nil]; exact h.tch
theorem ExJ.old {b : Bk} {x : Int} {G A S T W : List (List Int)} {u g : List Int} {pre : List (List Int)} (h : ExJ b x G A S T W u pre) (hg : sfE b g ∈ S) : ExJ b x G A S (T ++ [g]) W u (pre ++ [g]) where
  snd := h.snd
  ndS := h.ndS
  ndA := h.ndA
  a2 := h.a2
  w2 := h.w2
  opn := h.opn
  fst := h.fst
  nxt := h.nxt
  done := h.done
  part := fun z hz => (List.mem_append.mp hz).elim (h.part z) fun z2 => by rw [List.mem_singleton.mp z2]; exact hg
  tch := by rw [← List.append_assoc]; exact h.tch.append_right _
theorem ExJ.new {b : Bk} {x : Int} {G A S T W : List (List Int)} {u g : List Int} {pre : List (List Int)} {n p : Int} (hfo : ∀ g ∈ b.fo, ∃ a c : Int, g = [a, c]) (h : ExJ b x G A S T W u pre) (e : sfE b g = [n, p]) (hr : Rs b x G n p) (hn : [n, p] ∉ S) :
    ExJ b x G A (addS S [n, p]) (T ++ [g]) (W ++ (nxB b p).map fun r => [n, r]) u (pre ++ [g]) := by
  have sub : ∀ s ∈ S, s ∈ addS S [n, p] := fun s hs => mem_addS.mpr (.inl hs)
  have me : [n, p] ∈ addS S [n, p] := mem_addS.mpr (.inr rfl)
  refine ⟨h.snd.add hr, nd_addS h.ndS, h.ndA, h.a2, fun s hs => ?_, fun n2 l hl => ?_, fun l hl => (h.fst l hl).imp id (List.mem_append_left _), fun n2 p2 hs l hl => ?_, fun z h1 h2 h3 => sub _ (h.done z h1 h2 h3), fun z hz => ?_, by rw [← List.append_assoc]; exact h.tch.append_right _⟩
  · rcases List.mem_append.mp hs with z | z
    · exact h.w2 s z
    · obtain ⟨r, _, rfl⟩ := List.mem_map.mp z
      exact ⟨n, r, rfl⟩
  · rcases hl with z | z
    · exact (h.opn n2 l (.inl z)).mono sub
    · rcases List.mem_append.mp z with z | z
      · exact (h.opn n2 l (.inr z)).mono sub
      · obtain ⟨r, hr2, e2⟩ := List.mem_map.mp z
        injection e2 with e2 e3
        injection e3 with e3 _
        subst e2 e3
        exact .inr ⟨p, (mem_nxB hfo).mp hr2, me⟩
  · rcases mem_addS.mp hs with z | z
    · exact (h.nxt n2 p2 z l hl).imp id (List.mem_append_left _)
    · injection z with e2 e3
      injection e3 with e3 _
      subst e2 e3
      exact .inr (List.mem_append_right _ (List.mem_map.mpr ⟨l, (mem_nxB hfo).mpr hl, rfl⟩))
  · rcases List.mem_append.mp hz with z2 | z2
    · exact sub _ (h.part z z2)
    · rw [List.mem_singleton.mp z2, e]
      exact me
theorem ExJ.close {b : Bk} {x : Int} {G A S T W : List (List Int)} {u : List Int} (h : ExJ b x G A S T W u (edG b G u)) : ExI b x G (A ++ [u]) S T W where
  snd := h.snd
  ndS := h.ndS
  ndA := h.ndA
  a2 := h.a2
  w2 := h.w2
  opn := h.opn
  fst := h.fst
  nxt := h.nxt
  done := fun g h1 h2 h3 => (List.mem_append.mp h3).elim (h.done g h1 h2) fun z => h.part g (by
    unfold edG
    rw [List.mem_filter, h2, decide_eq_true (List.mem_singleton.mp z)]
    exact ⟨h1, rfl⟩)
  tch := by
    refine h.tch.trans ?_
    unfold edG
    have hu : u ∉ A := fun z => (List.nodup_append.mp h.ndA).2.2 u z u (by simp) rfl
    refine (perm_or _ _ G fun g _ hh => ?_).trans (List.Perm.of_eq (List.filter_congr fun g _ => ?_))
    · simp only [Bool.and_eq_true, decide_eq_true_eq] at hh
      exact hu (hh.2.2 ▸ hh.1.2)
    · cases inB b g with
      | false => rfl
      | true =>
        simp only [Bool.true_and, List.mem_append, List.mem_singleton]
        by_cases h1 : gtE b g ∈ A <;> by_cases h2 : gtE b g = u <;> simp [h1, h2]
theorem ExI.lenA {b : Bk} {x : Int} {G A S T W : List (List Int)} (h : ExI b x G A S T W) : S.length ≤ G.length := h.snd.len h.ndS
theorem ExJ.lenS {b : Bk} {x : Int} {G A S T W : List (List Int)} {u : List Int} {pre : List (List Int)} (h : ExJ b x G A S T W u pre) : S.length ≤ G.length := h.snd.len h.ndS
theorem edG_len {b : Bk} {G : List (List Int)} {u : List Int} : (edG b G u).length ≤ G.length := List.length_filter_le _ _
def expP (A S T : List (List Int)) : P := .tup [fS A, fS S, .lst (T.map tupI)]
theorem gs_explored {ls : List Lab} {b : Bk} {G : List (List Int)} {x : Int} {R : D → List D → Prop} (ok : BkOk ls b) (hG : E3 G) (hGl : G.length ≤ 1001)
    (q : ∀ A S T, ExpOk b x G A S T → R (.val (expP A S T)) [.val (bkP b), .val (fMT (stepX b G)), .val (.int x)]) : Gs (m_explored [.val (bkP b), .val (fMT (stepX b G)), .val (.int x)]) R := by
  have hfo : ∀ g ∈ b.fo, ∃ a c : Int, g = [a, c] := fun g hg => by
    obtain ⟨a, _, c, _, e⟩ := ok.fom g hg
    exact ⟨a, c, e⟩
  have hfs := fs_len ok
  unfold m_explored bm_explored
  refine gs_fn (by rfl) ?_
  walk_at "z.st"
  walk_at "z.go"
  refine gs_next_labels ok ?_
  walk_at "z.go"
  refine gs_first_gates ok ?_
  walk_at "z.go"
  rw [show D.odT [] [] = dS [] from rfl]
  refine while_r (fun n e => ∃ (A S T W : List (List Int)) (s8 s9 s10 : Sl), (ExI b x G A S T W ∧ (W.length + A.length ≤ 64 * S.length + 64 ∧ T.length ≤ G.length) ∧ W.length + 65 * (G.length - S.length) = n) ∧
    e = [.par (.val (bkP b)), .par (.val (fMT (stepX b G))), .par (.val (.int x)), .loc (.val (fMK (nextX b))), .loc (dS A), .loc (dS S), .loc (.olst ((T.map tupI).map .val)), .loc (.olst ((W.map tupI).map .val)), s8, s9, s10])
    (fun n e hI => ?_) fuel (b.fs.length + 65 * G.length) _ (by show b.fs.length + 65 * G.length < 1000000; omega) ⟨[], [], [], _, _, _, _, ⟨ExI.start b x G, ⟨by simp; omega, by simp⟩, by simp⟩, rfl⟩
  obtain ⟨A, S, T, W, s8, s9, s10, ⟨hE, ⟨hWA, hTl⟩, hn⟩, rfl⟩ := hI
  have hSl := hE.lenA
  have hlenW : gLen (.lst (W.map tupI)) = some (.val (.int W.length)) := by
    show some (D.val (.int (W.map tupI).length)) = _
    rw [List.length_map]
  walk_at "z.go"
  refine ⟨fun hc => ?_, fun hc => ?_⟩
  rotate_left
  · have hW : W = [] := by
      have : ¬ (W.length : Int) > 0 := by simpa using hc
      exact List.eq_nil_of_length_eq_zero (by omega)
    subst hW
    walk_at "z.go"
    exact ⟨_, _, .inl rfl, rfl, q A S T (hE.stop ok hG)⟩
  · have hne : W ≠ [] := fun e => by subst e; simp at hc
    obtain ⟨W0, u, rfl⟩ : ∃ W0 u, W = W0 ++ [u] := ⟨W.dropLast, W.getLast hne, (List.dropLast_concat_getLast hne).symm⟩
    clear hc hlenW
    have hpop : hPop (((W0 ++ [u]).map tupI).map .val) [] = some (.val (tupI u), (W0.map tupI).map .val) := by
      rw [List.map_append (f := tupI)]
      exact pop_end
    have hk := ky_I u
    have hat := dS_atI A u
    rw [List.length_append, List.length_singleton] at hWA hn
    have hput := dS_putI (S := A) u (by omega)
    walk_at "z.go"
    refine ⟨fun hc => ?_, fun hc => ?_⟩
    · have hu : u ∈ A := by rw [inS_some] at hc; simpa using hc
      walk_at "z.go"
      exact .inl ⟨.inr rfl, W0.length + 65 * (G.length - S.length), by omega, A, S, T, W0, _, _, _, ⟨hE.skip hu, ⟨by omega, hTl⟩, rfl⟩, rfl⟩
    · have hu : u ∉ A := by rw [inS_some] at hc; simpa using hc
      obtain ⟨o, ho1, ho2⟩ := get_MT (stepX b G) (kI u)
      rw [vl_step] at ho2
      have eA : addS A u = A ++ [u] := by unfold addS; rw [if_neg hu]
      rw [eA] at hput
      have hed := edG_len (b := b) (G := G) (u := u)
      walk_at "z.go"
      refine for_invM (seP b) (fun rest e => ∃ (pre S T W : List (List Int)) (s9 s10 : Sl), (pre ++ rest = edG b G u ∧ ExJ b x G A S T W u pre ∧ (W.length + (A.length + 1) ≤ 64 * S.length + 64) ∧ W.length + 65 * (G.length - S.length) < n) ∧
        e = [.par (.val (bkP b)), .par (.val (fMT (stepX b G))), .par (.val (.int x)), .loc (.val (fMK (nextX b))), .loc (dS (A ++ [u])), .loc (dS S), .loc (.olst ((T.map tupI).map .val)), .loc (.olst ((W.map tupI).map .val)), .loc (.val (tupI u)), s9, s10])
        (edG b G u) _ ⟨[], S, T, W0, _, _, ⟨rfl, hE.open_ hu, by omega, by omega⟩, rfl⟩ (fun g r e hg hI => ?_) fun e hI => ?_
      · obtain ⟨pre, S, T, W, s9, s10, ⟨hp, hJ, hWA, hn⟩, rfl⟩ := hI
        obtain ⟨hgG, hgc⟩ := List.mem_filter.mp hg
        rw [Bool.and_eq_true] at hgc
        obtain ⟨s, l, t, rfl⟩ := hG g hgG
        have hl : l ∈ lbB b := of_decide_eq_true hgc.1
        obtain ⟨gl, hgl⟩ := ltr_mem hl
        have e1 : gtE b [s, l, t] = [wa (bkE gl) s t, l] := by
          show [wa (dirE b l) s t, l] = _
          rw [dir_at hgl]
        have e2 : sfE b [s, l, t] = [wb (bkE gl) s t, l] := by
          show [wb (dirE b l) s t, l] = _
          rw [dir_at hgl]
        have hug := of_decide_eq_true hgc.2
        have hr : Rs b x G (wb (bkE gl) s t) l := hJ.snd.opn hgG hgl (hJ.opn _ _ (.inl (by rw [← e1, hug]; simp)))
        refine ⟨_, gT2 (a := tupI (sfE b [s, l, t])) (b := tupI [s, l, t]) (by walk_at "z.at") (by walk_at "z.at"), ?_⟩
        rw [e2]
        have hk2 := ky_I [wb (bkE gl) s t, l]
        have hat2 := dS_atI S [wb (bkE gl) s t, l]
        have hSl := hJ.lenS
        have hput2 := dS_putI (S := S) [wb (bkE gl) s t, l] (by omega)
        have hTl2 : T.length ≤ 1001 + 1001 := by
          have := hJ.tch.length_eq
          have h1 := List.length_filter_le (fun g => inB b g && decide (gtE b g ∈ A)) G
          have h2 := congrArg List.length hp
          rw [List.length_append] at this h2
          omega
        have happ : hApp ((T.map tupI).map .val) [.val (tupI [s, l, t])] = some (.val .non, ((T ++ [[s, l, t]]).map tupI).map .val) := app_T [s, l, t] (lt_size (k := 10000) (by omega) (by omega))
        have hnx := nxB_len ok l
        have hext : hExt ((W.map tupI).map .val) [.val (.lst (((nxB b l).map fun r => [wb (bkE gl) s t, r]).map tupI))] = some (.val .non, ((W ++ (nxB b l).map fun r => [wb (bkE gl) s t, r]).map tupI).map .val) := by
          rw [o_extL (by simp only [List.length_map]; omega), List.map_append (f := tupI), List.map_append (f := D.val)]
        have hp2 : (pre ++ [[s, l, t]]) ++ r = edG b G u := by rw [List.append_assoc]; exact hp
        walk_at "z.go"
        refine ⟨fun hc => ?_, fun hc => ?_⟩
        · have hns : [wb (bkE gl) s t, l] ∉ S := by rw [inS_some] at hc; simpa using hc
          have eS : addS S [wb (bkE gl) s t, l] = S ++ [[wb (bkE gl) s t, l]] := by unfold addS; rw [if_neg hns]
          have hJ2 := hJ.new hfo e2 hr hns
          have hSl2 := hJ2.lenS
          rw [eS, List.length_append, List.length_singleton] at hSl2
          walk_at "z.go"
          refine gs_gates_behind ok ?_
          walk_at "z.go"
          exact .inl ⟨.inl rfl, pre ++ [[s, l, t]], _, _, _, _, _, ⟨hp2, hJ2, by rw [eS, List.length_append, List.length_append, List.length_map, List.length_singleton]; omega, by rw [eS, List.length_append, List.length_append, List.length_map, List.length_singleton]; omega⟩, rfl⟩
        · have hns : [wb (bkE gl) s t, l] ∈ S := by rw [inS_some] at hc; simpa using hc
          walk_at "z.go"
          exact .inl ⟨.inl rfl, pre ++ [[s, l, t]], S, _, W, _, _, ⟨hp2, hJ.old (by rw [e2]; exact hns), hWA, hn⟩, rfl⟩
      · obtain ⟨pre, S, T, W, s9, s10, ⟨hp, hJ, hWA, hn⟩, rfl⟩ := hI
        rw [List.append_nil] at hp
        subst hp
        have hE2 := hJ.close
        refine .inl ⟨.inl rfl, _, hn, A ++ [u], S, T, W, _, _, _, ⟨hE2, ⟨by rw [List.length_append, List.length_singleton]; omega, ?_⟩, rfl⟩, rfl⟩
        rw [hE2.tch.length_eq]
        exact List.length_filter_le _ _


def JoinP (b : Bk) (x y : Int) (G : List (List Int)) : Prop := (b.em = 1 ∧ x = y) ∨ ∃ l ∈ b.la, Rs b x G y l
theorem gs_ends_of {ls : List Lab} {b : Bk} {G A S T : List (List Int)} {x : Int} {R : D → List D → Prop} (ok : BkOk ls b) (hE : ExpOk b x G A S T) (hf : (S.map fun s => s.getD 0 0).Nodup ∨ True) (hl : ∀ F : List Int, F.Nodup → (∀ n ∈ F, JoinP b x n G) → F.length < 64) (hSl : S.length ≤ 10000)
    (q : ∀ F : List Int, (∀ y, y ∈ F ↔ JoinP b x y G) → R (.val (.tup ((upL F).map .int))) [.val (bkP b), .val (.int x), .val (fS S)]) : Gs (m_ends_of [.val (bkP b), .val (.int x), .val (fS S)]) R := by
  have b1 := ix_b1 b
  have b5 := ix_b5 b
  unfold m_ends_of bm_ends_of
  refine gs_fn (by rfl) ?_
  walk_at "z.st"
  walk_at "z.gi"
  rw [dB_new]
  refine w_mid (fun e => ∃ F : List Int, ((F.Nodup ∧ ∀ n ∈ F, JoinP b x n G) ∧ (b.em = 1 → x ∈ F)) ∧ e = [.par (.val (bkP b)), .par (.val (.int x)), .par (.val (fS S)), .loc (dB F), .un]) ?_ ?_
  · have hput := dB_putI (S := []) x (by simp)
    walk_at "z.go"
    refine ⟨fun hc => ?_, fun hc => ?_⟩
    · have hc : b.em = 1 := by simpa using hc
      walk_at "z.go"
      refine ⟨rfl, addI [] x, ⟨⟨nd_addI List.nodup_nil, fun n hn => ?_⟩, fun _ => mem_addI.mpr (.inr rfl)⟩, rfl⟩
      rcases mem_addI.mp hn with no | rfl
      · cases no
      · exact .inl ⟨hc, rfl⟩
    · have hc : ¬ b.em = 1 := by simpa using hc
      walk_at "z.go"
      exact ⟨rfl, [], ⟨⟨List.nodup_nil, fun _ no => nomatch no⟩, fun h => absurd h hc⟩, rfl⟩
  rintro _ ⟨F0, ⟨⟨hF1, hF2⟩, hF3⟩, rfl⟩
  walk_at "z.go"
  refine w_forR (w_np (by walk_at "z.at") ⟨_, fS_keys S, ?_⟩)
  refine for_invM tupI (fun rest e => ∃ (pre : List (List Int)) (F : List Int) (s4 : Sl), (pre ++ rest = S ∧ (F.Nodup ∧ ∀ n ∈ F, JoinP b x n G) ∧ (b.em = 1 → x ∈ F) ∧ ∀ n l, [n, l] ∈ pre → l ∈ b.la → n ∈ F) ∧ e = [.par (.val (bkP b)), .par (.val (.int x)), .par (.val (fS S)), .loc (dB F), s4])
    S _ ⟨[], F0, _, ⟨rfl, ⟨hF1, hF2⟩, hF3, fun _ _ no => nomatch no⟩, rfl⟩ (fun s r e hs hI => ?_) fun e hI => ?_
  · obtain ⟨pre, F, s4, ⟨hp, ⟨hF1, hF2⟩, hF3, hF4⟩, rfl⟩ := hI
    obtain ⟨n, l, rfl, hr⟩ := hE.snd s hs
    have i0 : gIx (tupI [n, l]) (.int 0) = some (.val (.int n)) := rfl
    have i1 : gIx (tupI [n, l]) (.int 1) = some (.val (.int l)) := rfl
    have hin := o_inIt l b.la
    have hFl := hl F hF1 hF2
    have hput := dB_putI (S := F) n (by omega)
    have hp2 : (pre ++ [[n, l]]) ++ r = S := by rw [List.append_assoc]; exact hp
    refine ⟨_, gN_set (by walk_at "z.at"), ?_⟩
    walk_at "z.go"
    refine ⟨fun hc => ?_, fun hc => ?_⟩
    · have hc := of_decide_eq_true hc
      walk_at "z.go"
      refine .inl ⟨.inl rfl, pre ++ [[n, l]], addI F n, _, ⟨hp2, ⟨nd_addI hF1, fun m hm => ?_⟩, fun h => mem_addI.mpr (.inl (hF3 h)), fun m k hm hk => ?_⟩, rfl⟩
      · rcases mem_addI.mp hm with z | rfl
        · exact hF2 m z
        · exact .inr ⟨l, hc, hr⟩
      · rcases List.mem_append.mp hm with z | z
        · exact mem_addI.mpr (.inl (hF4 m k z hk))
        · have z := (List.mem_singleton.mp z)
          injection z with e1 e2
          exact mem_addI.mpr (.inr e1)
    · have hc := of_decide_eq_false hc
      walk_at "z.go"
      refine .inl ⟨.inl rfl, pre ++ [[n, l]], F, _, ⟨hp2, ⟨hF1, hF2⟩, hF3, fun m k hm hk => ?_⟩, rfl⟩
      rcases List.mem_append.mp hm with z | z
      · exact hF4 m k z hk
      · have z := (List.mem_singleton.mp z)
        injection z with e1 e2
        injection e2 with e2 _
        exact absurd (e2 ▸ hk) hc
  · obtain ⟨pre, F, s4, ⟨hp, ⟨hF1, hF2⟩, hF3, hF4⟩, rfl⟩ := hI
    rw [List.append_nil] at hp
    subst hp
    have hso : gSortedD (fB F) = some (.olst (((upL F).map .int).map .val)) := o_sortD _ (hl F hF1 hF2)
    walk_at "z.go"
    refine w_w (by walk_at "z.at") (dB_view F) ?_
    walk_at "z.go"
    refine ⟨_, _, .inl rfl, rfl, q F fun y => ⟨hF2 y, fun hj => ?_⟩⟩
    rcases hj with ⟨h1, rfl⟩ | ⟨l, h1, h2⟩
    · exact hF3 h1
    · exact hF4 y l (hE.cls.all h2) h1
def IsJn (b : Bk) (G : List (List Int)) (x : Int) (F : List Int) : Prop := ∀ y, y ∈ F ↔ JoinP b x y G
theorem gs_pairs_joined {ls : List Lab} {b : Bk} {G : List (List Int)} {X : List Int} {R : D → List D → Prop} (ok : BkOk ls b) (hG : E3 G) (hGl : G.length ≤ 1001) (hX : X.length ≤ 24) (hl : ∀ x ∈ X, ∀ F : List Int, F.Nodup → (∀ n ∈ F, JoinP b x n G) → F.length < 64)
    (q : ∀ f : Int → List Int, (∀ x ∈ X, IsJn b G x (f x)) → R (.val (.tup ((X.flatMap fun x => (upL (f x)).map fun y => [x, y]).map tupI))) [.val (.tup (G.map tupI)), .val (bkP b), .val (.tup (X.map .int))]) :
    Gs (m_pairs_joined [.val (.tup (G.map tupI)), .val (bkP b), .val (.tup (X.map .int))]) R := by
  unfold m_pairs_joined bm_pairs_joined
  refine gs_fn (by rfl) ?_
  walk_at "z.st"
  walk_at "z.go"
  refine gs_steps_of ok hG (by omega) ?_
  walk_at "z.go"
  refine for_invM P.int (fun rest e => ∃ (pre : List Int) (f : Int → List Int) (s5 : Sl), (pre ++ rest = X ∧ ∀ x ∈ pre, IsJn b G x (f x)) ∧
    e = [.par (.val (.tup (G.map tupI))), .par (.val (bkP b)), .par (.val (.tup (X.map .int))), .loc (.val (fMT (stepX b G))), .loc (.olst (((pre.flatMap fun x => (upL (f x)).map fun y => [x, y]).map tupI).map .val)), s5, .un])
    X _ ⟨[], fun _ => [], _, ⟨rfl, fun _ no => nomatch no⟩, rfl⟩ (fun x r e hx hI => ?_) fun e hI => ?_
  · obtain ⟨pre, f, s5, ⟨hp, hf⟩, rfl⟩ := hI
    refine ⟨_, gN_set (by walk_at "z.at"), ?_⟩
    walk_at "z.go"
    refine w_compM P.int (fun y => tupI [x, y]) ?_
    walk_at "z.go"
    refine gs_explored ok hG hGl fun A S T hE => ?_
    have hSl : S.length ≤ 1001 := Nat.le_trans (hE.snd.len hE.ndS) hGl
    have ie : gIx (expP A S T) (.int 1) = some (.val (fS S)) := rfl
    walk_at "z.go"
    refine gs_ends_of ok hE (.inr trivial) (hl x hx) (by omega) fun F hF => ?_
    have hUl : (upL F).length < 64 := hl x hx _ (nd_up (up_upL F)) fun n hn => (hF n).mp ((mem_upL n F).mp hn)
    walk_at "z.go"
    refine ⟨⟨_, by walk_at "z.at", (by walk_at "z.ok")⟩, ?_, fun x hx => ?_, ?_⟩
    · exact le_size (k := 64) (by omega) (by omega)
    · walk_at "z.cs"
      walk_at "z.go"
      exact ⟨rfl, rfl⟩
    have e1 : ((upL F).map fun y => tupI [x, y]) = ((upL F).map fun y => [x, y]).map tupI := by rw [List.map_map]; rfl
    rw [e1]
    have hpl : pre.length ≤ 24 := by
      have := congrArg List.length hp
      rw [List.length_append] at this
      omega
    have hacc : (pre.flatMap fun x => (upL (f x)).map fun y => [x, y]).length ≤ 64 * pre.length := by
      have key : ∀ L : List Int, (∀ x ∈ L, x ∈ X ∧ IsJn b G x (f x)) → (L.flatMap fun x => (upL (f x)).map fun y => [x, y]).length ≤ 64 * L.length := by
        intro L
        induction L with
        | nil => simp
        | cons a L ih =>
          intro h
          have h1 := ih fun x hx => h x (List.mem_cons_of_mem _ hx)
          obtain ⟨h2, h3⟩ := h a List.mem_cons_self
          have h4 := hl a h2 _ (nd_up (up_upL (f a))) fun n hn => (h3 n).mp ((mem_upL n (f a)).mp hn)
          rw [List.flatMap_cons, List.length_append, List.length_map, List.length_cons]
          omega
      exact key pre fun x hx => ⟨by rw [← hp]; exact List.mem_append_left _ hx, hf x hx⟩
    by_cases hxp : x ∈ pre
    · have hsame : upL F = upL (f x) := upL_eq (up_upL _) fun k => by rw [mem_upL, hf x hxp k, hF k]
      have happ : hExt (((pre.flatMap fun x => (upL (f x)).map fun y => [x, y]).map tupI).map .val) [.val (.lst (((upL F).map fun y => [x, y]).map tupI))] = some (.val .non, (((pre ++ [x]).flatMap fun x => (upL (f x)).map fun y => [x, y]).map tupI).map .val) := by
        rw [o_extL (by simp only [List.length_map]; omega), List.flatMap_append, List.map_append (f := tupI), List.map_append (f := D.val), hsame]
        simp
      walk_at "z.go"
      refine .inl ⟨.inl rfl, pre ++ [x], f, _, ⟨by rw [List.append_assoc]; exact hp, fun z hz => (List.mem_append.mp hz).elim (hf z) fun h => by rw [List.mem_singleton.mp h]; exact hf x hxp⟩, rfl⟩
    · have hcong : (pre.flatMap fun z => (upL ((fun k => if k = x then F else f k) z)).map fun y => [z, y]) = pre.flatMap fun x => (upL (f x)).map fun y => [x, y] := flat_congr fun z hz => by
        show (upL (if z = x then F else f z)).map _ = _
        rw [if_neg (show ¬ z = x from fun e => hxp (e ▸ hz))]
      have happ : hExt (((pre.flatMap fun x => (upL (f x)).map fun y => [x, y]).map tupI).map .val) [.val (.lst (((upL F).map fun y => [x, y]).map tupI))] = some (.val .non, (((pre ++ [x]).flatMap fun z => (upL ((fun k => if k = x then F else f k) z)).map fun y => [z, y]).map tupI).map .val) := by
        rw [o_extL (by simp only [List.length_map]; omega), List.flatMap_append, hcong, List.map_append (f := tupI), List.map_append (f := D.val)]
        simp
      walk_at "z.go"
      refine .inl ⟨.inl rfl, pre ++ [x], fun k => if k = x then F else f k, _, ⟨by rw [List.append_assoc]; exact hp, fun z hz => ?_⟩, rfl⟩
      by_cases e : z = x
      · subst e
        show IsJn b G z (if z = z then F else f z)
        rw [if_pos rfl]
        exact hF
      · show IsJn b G z (if z = x then F else f z)
        rw [if_neg e]
        exact hf z ((List.mem_append.mp hz).resolve_right fun h => e (List.mem_singleton.mp h))
  · obtain ⟨pre, f, s5, ⟨hp, hf⟩, rfl⟩ := hI
    rw [List.append_nil] at hp
    subst hp
    walk_at "z.go"
    exact ⟨_, _, .inl rfl, rfl, q f hf⟩


theorem up_sort {X : List (List Int)} (nd : X.Nodup) : UpT (sortT X) := by
  have h1 := sortT_srt X
  have h2 : (sortT X).Nodup := (sortT_perm X).nodup_iff.mpr nd
  exact (h1.and h2).imp fun {a b} h => lex_or h.1 fun e => h.2 e.symm
theorem Lts.nd {ls : List Lab} {Li : List Int} {A : List (List Int)} (hL : Lbs ls Li) (hA : Lts ls Li A) : A.Nodup := by
  have h : (A.map fun g => g.getD 0 0).Nodup := by rw [hA.hd]; exact hL.nd
  exact (List.pairwise_map.mp h).imp fun h e => h (by rw [e])
theorem gs_check_once {ks : List (Str × Nat)} {ls : List Lab} {Li : List Int} {R : D → List D → Prop} (hn : Li.Nodup) (hl : Li.length ≤ 100) (q : R (.val .non) [.val (schP ks ls), .val (.tup (Li.map .int))]) :
    Gs (m_check_labels_once [.val (schP ks ls), .val (.tup (Li.map .int))]) R := by
  unfold m_check_labels_once bm_check_labels_once
  refine gs_fn (by rfl) ?_
  walk_at "z.st"
  walk_at "z.go"
  rw [dB_new]
  refine for_invM P.int (fun rest e => ∃ (pre : List Int) (s3 : Sl), pre ++ rest = Li ∧ e = [.par (.val (schP ks ls)), .par (.val (.tup (Li.map .int))), .loc (dB pre), s3]) Li _ ⟨[], _, rfl, rfl⟩ (fun l r e hx hI => ?_) fun e hI => ?_
  · obtain ⟨pre, s3, hp, rfl⟩ := hI
    have hnp : l ∉ pre := fun h => by
      rw [← hp, List.nodup_append] at hn
      exact hn.2.2 l h l List.mem_cons_self rfl
    have hpl : pre.length ≤ 100 := by
      have := congrArg List.length hp
      rw [List.length_append] at this
      omega
    have hput := dB_put (ns := pre) (x := l) (by omega) hnp
    have hat := dB_at pre l
    rw [if_neg hnp] at hat
    refine ⟨_, gN_set (by walk_at "z.at"), ?_⟩
    walk_at "z.go"
    refine And.intro (fun hc => absurd hc (by simp)) fun _ => ?_
    walk_at "z.go"
    exact .inl ⟨.inl rfl, pre ++ [l], _, by rw [List.append_assoc]; exact hp, rfl⟩
  · obtain ⟨pre, s3, hp, rfl⟩ := hI
    walk_at "z.go"
    exact ⟨_, _, .inr ⟨rfl, rfl⟩, rfl, q⟩
theorem gs_ascIv {ns : List Int} {R : D → List D → Prop} (h : ns.length ≤ 4000 ∧ (upL ns).length < 64) (q : R (.val (.tup ((upL ns).map .int))) [.val (.lst (ns.map .int))]) : Gs (m_ascending [.val (.lst (ns.map .int))]) R := by
  have o := o_upl5 h
  unfold m_ascending bm_ascending; refine gs_fn (by rfl) ?_; walk_at "z.st"; walk_at "z.go"
  exact ⟨_, _, .inl rfl, rfl, q⟩
theorem gs_ascTv {G : List (List Int)} {R : D → List D → Prop} (hne : ∀ g ∈ G, g ≠ []) (h : (upT G).length < 305) (q : R (.val (.tup ((upT G).map tupI))) [.val (.lst (G.map tupI))]) : Gs (m_ascending [.val (.lst (G.map tupI))]) R := by
  have o := o_upT5 hne h
  unfold m_ascending bm_ascending; refine gs_fn (by rfl) ?_; walk_at "z.st"; walk_at "z.go"
  exact ⟨_, _, .inl rfl, rfl, q⟩
theorem book_facts {ls : List Lab} {Li : List Int} {e : Ex} (hs : szX e ≤ 64) (hL : Lbs ls Li) (hA : Lts ls Li (ltX e)) : BkOk ls (bX e) ∧ (ltX e).length ≤ 8 ∧ ((fcX e).fs.length ≤ 4000 ∧ (upL (fcX e).fs).length < 64) ∧ ((fcX e).la.length ≤ 4000 ∧ (upL (fcX e).la).length < 64) ∧
    (upT (fcX e).fo).length < 305 ∧ (∀ g ∈ (fcX e).fo, g ≠ []) ∧ (upT (ltX e)).length < 305 ∧ ∀ g ∈ ltX e, g ≠ [] := by
  have hll : (ltX e).length = Li.length := by
    have := congrArg List.length hA.hd
    rwa [List.length_map] at this
  have hf := hL.few
  obtain ⟨m1, m2, m3⟩ := fc_mem e
  have hlb : lbX e = Li := hA.hd
  rw [hlb] at m1 m2 m3
  obtain ⟨l1, l2, l3⟩ := fc_len e
  have u1 := few_upL2 m1
  have u2 := few_upL2 m2
  have hok : BkOk ls (bX e) := bkOk_of hL hA (by split <;> simp) m1 m3 m2
  have hlf : (upT (ltX e)).length < 305 := by
    have hn : ((ltX e).map fun g => g.getD 0 0).Nodup := by rw [hA.hd]; exact hL.nd
    rw [len_heads hn]
    omega
  exact ⟨hok, by omega, ⟨by omega, by omega⟩, ⟨by omega, by omega⟩, few_fo hf m3, ne_two m3, hlf, ne_ltr hA.ok⟩
theorem gs_book_of {ks : List (Str × Nat)} {ls : List Lab} {Li : List Int} {e : Ex} {R : D → List D → Prop} (ok : ExOk e) (hs : szX e ≤ 64) (hL : Lbs ls Li) (hA : Lts ls Li (ltX e)) (q : R (.val (bkP (bX e))) [.val (schP ks ls), .val (exP e)]) :
    Gs (m_book_of [.val (schP ks ls), .val (exP e)]) R := by
  obtain ⟨hok, hl, hf1, hf2, hfo, hfn, hlt, hln⟩ := book_facts hs hL hA
  have hlb : lbX e = Li := hA.hd
  have hlen : gLen (.tup (Li.map .int)) = some (.val (.int Li.length)) := by
    show some (D.val (.int (Li.map P.int).length)) = _
    rw [List.length_map]
  have hll : Li.length ≤ 8 := hL.few
  have hgt : gGt (.int Li.length) (.int 8) = some (.val (.bl false)) := by
    rw [o_gt, decide_eq_false (by omega)]
  have j0 := fxT_0 (fcX e)
  have j1 := fxT_1 (fcX e)
  have j2 := fxT_2 (fcX e)
  have j3 := fxT_3 (fcX e)
  have hso : sortT (ltX e) = upT (ltX e) := (upT_eq (up_sort (Lts.nd hL hA)) fun k => (sortT_perm _).mem_iff).symm
  have hsort : gSorted (.lst ((ltX e).map tupI)) = some (.olst (((upT (ltX e)).map tupI).map .val)) := by
    rw [o_sortTl hln, hso]
  unfold m_book_of bm_book_of
  refine gs_fn (by rfl) ?_
  walk_at "z.st"
  walk_at "z.go"
  refine gs_labels_of 70 e ok (by omega) (by omega) ?_
  rw [hlb]
  walk_at "z.go"
  refine gs_check_once hL.nd (by omega) ?_
  walk_at "z.go"
  refine gs_facts_of 70 e ok (by omega) hs (by omega) ?_
  walk_at "z.go"
  refine gs_letters_in 70 e ok (by omega) (by omega) ?_
  walk_at "z.go"
  refine gs_ascIv hf1 ?_
  walk_at "z.go"
  refine gs_ascTv hfn hfo ?_
  walk_at "z.go"
  refine gs_ascIv hf2 ?_
  walk_at "z.go"
  exact ⟨_, _, .inl rfl, rfl, q⟩
theorem gs_lbook {ls : List Lab} {Li : List Int} {e : Ex} {R : D → List D → Prop} (ok : ExOk e) (hs : szX e ≤ 64) (hL : Lbs ls Li) (hA : Lts ls Li (ltX e)) (q : R (.val (bkP (bX e))) [.val (exP e)]) : Gs (m_law_book [.val (exP e)]) R := by
  obtain ⟨hok, hl, hf1, hf2, hfo, hfn, hlt, hln⟩ := book_facts hs hL hA
  have j0 : gIx (fxP (fcX e)) (.int 0) = some (.val (.bl (fcX e).em)) := rfl
  have j1 : gIx (fxP (fcX e)) (.int 1) = some (.val (.lst ((fcX e).fs.map .int))) := rfl
  have j2 : gIx (fxP (fcX e)) (.int 2) = some (.val (.lst ((fcX e).fo.map tupI))) := rfl
  have j3 : gIx (fxP (fcX e)) (.int 3) = some (.val (.lst ((fcX e).la.map .int))) := rfl
  unfold m_law_book bm_law_book; refine gs_fn (by rfl) ?_; walk_at "z.st"; walk_at "z.go"
  refine gs_facts 70 e ok (by omega) hs (by omega) ?_
  walk_at "z.go"
  refine gs_letters 70 e ok (by omega) (by omega) ?_
  walk_at "z.go"
  refine gs_upTv hln hlt ?_
  walk_at "z.go"
  refine gs_upIv hf1 ?_
  walk_at "z.go"
  refine gs_upTv hfn hfo ?_
  walk_at "z.go"
  refine gs_upIv hf2 ?_
  walk_at "z.go"
  exact ⟨_, _, .inl rfl, rfl, q⟩
theorem rs_nod {ks : List (Str × Nat)} {ls : List Lab} {b : Bk} {G : List (List Int)} {x n l : Int} (hG : IsN ks ls G) (h : Rs b x G n l) : Nod ks n := by
  have step : ∀ {s l t : Int} (k : Int), [s, l, t] ∈ G → Nod ks (wb k s t) := fun {s l t} k hg => by
    obtain ⟨s2, l2, t2, e, _, h1, h2⟩ := hG _ hg
    injection e with e1 e
    injection e with e2 e
    injection e with e3 _
    subst e1 e3
    unfold wb
    split
    · exact h1
    · exact h2
  cases h with
  | fst hg => exact step _ hg
  | nxt hg => exact step _ hg
theorem jn_few {ks : List (Str × Nat)} {ls : List Lab} {b : Bk} {G : List (List Int)} {x : Int} (hG : IsN ks ls G) (hx : Nod ks x) (h24 : totl ks ≤ 24) {F : List Int} (nd : F.Nodup) (h : ∀ n ∈ F, JoinP b x n G) : F.length < 64 := by
  have := List.Nodup.length_le_of_subset nd (l₂ := (List.range 24).map fun k : Nat => (k : Int)) fun n hn => by
    have : Nod ks n := by
      rcases h n hn with ⟨_, rfl⟩ | ⟨l, _, hr⟩
      · exact hx
      · exact rs_nod hG hr
    obtain ⟨n1, n2⟩ := this
    exact List.mem_map.mpr ⟨n.toNat, List.mem_range.mpr (by omega), by omega⟩
  rw [List.length_map, List.length_range] at this
  omega
theorem up_nodes (ks : List (Str × Nat)) (k : Nat) : (nodesL ks k).Pairwise (· < ·) := by
  unfold nodesL
  refine List.pairwise_map.mpr (List.pairwise_lt_range.imp fun h => ?_)
  omega
noncomputable def jnB (b : Bk) (G : List (List Int)) (x y : Int) : Bool := @decide (JoinP b x y G) (Classical.propDecidable _)
theorem jnB_iff {b : Bk} {G : List (List Int)} {x y : Int} : jnB b G x y = true ↔ JoinP b x y G := by
  unfold jnB
  exact @decide_eq_true_iff _ (Classical.propDecidable _)
noncomputable def prsL (b : Bk) (G : List (List Int)) (X Y : List Int) : List (List Int) := X.flatMap fun x => (Y.filter (jnB b G x)).map fun y => [x, y]
theorem fit_prs {b : Bk} {G : List (List Int)} {f : Int → List Int} {Y : List Int} (hY : Y.Pairwise (· < ·)) : ∀ {X : List Int}, (∀ x ∈ X, IsJn b G x (f x)) →
    (X.flatMap fun x => (upL (f x)).map fun y => [x, y]).filter (fun g => decide (g.getD 1 0 ∈ Y)) = prsL b G X Y
  | [], _ => rfl
  | x :: X, h => by
    have ih := fit_prs hY (X := X) fun z hz => h z (List.mem_cons_of_mem _ hz)
    unfold prsL at ih ⊢
    rw [List.flatMap_cons, List.flatMap_cons, List.filter_append, ih]
    congr 1
    rw [List.filter_map]
    refine congrArg (List.map _) ?_
    refine up_uniq ((up_upL (f x)).filter _) (hY.filter _) fun k => ?_
    rw [List.mem_filter, List.mem_filter, mem_upL, h x List.mem_cons_self k, jnB_iff]
    show (JoinP b x k G ∧ decide (k ∈ Y) = true) ↔ _
    rw [decide_eq_true_eq]
    exact and_comm
theorem prs_len {b : Bk} {G : List (List Int)} {Y : List Int} : ∀ X : List Int, (prsL b G X Y).length ≤ X.length * Y.length
  | [] => by simp [prsL]
  | x :: X => by
    have ih := prs_len (b := b) (G := G) (Y := Y) X
    unfold prsL at ih ⊢
    rw [List.flatMap_cons, List.length_append, List.length_map, List.length_cons, Nat.add_mul]
    have := List.length_filter_le (jnB b G x) Y
    omega
noncomputable def idxP (b : Bk) (ks : List (Str × Nat)) (G : List (List Int)) (e : Ex) (a c : Nat) : P := .tup [.str "index", exP e, .int a, .int c, .tup ((prsL b G (nodesL ks a) (nodesL ks c)).map tupI)]
theorem gs_index_of {ks : List (Str × Nat)} {ls : List Lab} {G : List (List Int)} {Li : List Int} {e : Ex} {a c : Nat} {R : D → List D → Prop} (h : WfS ks ls) (h24 : totl ks ≤ 24) (hG : IsN ks ls G) (hGl : G.length ≤ 200) (ok : ExOk e) (hs : szX e ≤ 64) (hL : Lbs ls Li) (hA : Lts ls Li (ltX e)) (ha : a < ks.length) (hc : c < ks.length)
    (q : R (.val (idxP (bX e) ks G e a c)) [.val (schP ks ls), .val (.tup (G.map tupI)), .val (exP e), .val (.int a), .val (.int c)]) :
    Gs (m_index_of [.val (schP ks ls), .val (.tup (G.map tupI)), .val (exP e), .val (.int a), .val (.int c)]) R := by
  obtain ⟨hok, _⟩ := book_facts hs hL hA
  have hnl := nodes_len h a
  unfold m_index_of bm_index_of
  refine gs_fn (by rfl) ?_
  walk_at "z.st"
  walk_at "z.go"
  refine gs_book_of ok hs hL hA ?_
  walk_at "z.go"
  refine gs_nodes_of h ha ?_
  walk_at "z.go"
  refine gs_pairs_joined hok hG.g.e3 (by omega) hnl (fun x hx F nd hF => jn_few hG (nod_mem hx) h24 nd hF) fun f hf => ?_
  have hfit := fit_prs (Y := nodesL ks c) (up_nodes ks c) hf
  have hbig : ((nodesL ks a).flatMap fun x => (upL (f x)).map fun y => [x, y]).length ≤ 64 * 24 := by
    have key : ∀ L : List Int, (∀ x ∈ L, x ∈ nodesL ks a) → (L.flatMap fun x => (upL (f x)).map fun y => [x, y]).length ≤ 64 * L.length := by
      intro L
      induction L with
      | nil => simp
      | cons z L ih =>
        intro hz
        have h1 := ih fun x hx => hz x (List.mem_cons_of_mem _ hx)
        have h2 := hz z List.mem_cons_self
        have h4 := jn_few hG (nod_mem h2) h24 (nd_up (up_upL (f z))) fun n hn => (hf z h2 n).mp ((mem_upL n (f z)).mp hn)
        rw [List.flatMap_cons, List.length_append, List.length_map, List.length_cons]
        omega
    have := key _ fun _ hx => hx
    omega
  have hform : ∀ g ∈ (nodesL ks a).flatMap (fun x => (upL (f x)).map fun y => [x, y]), ∃ x y : Int, g = [x, y] := fun g hg => by
    obtain ⟨x, _, hg⟩ := List.mem_flatMap.mp hg
    obtain ⟨y, _, rfl⟩ := List.mem_map.mp hg
    exact ⟨x, y, rfl⟩
  generalize (nodesL ks a).flatMap (fun x => (upL (f x)).map fun y => [x, y]) = Z at hfit hbig hform
  walk_at "z.go"
  refine w_compV tupI (fun g => decide (g.getD 1 0 ∈ nodesL ks c)) tupI ?_
  walk_at "z.go"
  refine ⟨⟨_, by walk_at "z.at", (by walk_at "z.ok")⟩, ?_, fun x hx => ?_, fun x hx hc => ?_, ?_⟩
  · exact le_size hbig (by omega)
  · obtain ⟨u, v, rfl⟩ := hform x hx
    have i1 : gIx (tupI [u, v]) (.int 1) = some (.val (.int v)) := rfl
    walk_at "z.cs"
    walk_at "z.go"
    refine gs_has_node h hc ?_
    walk_at "z.go"
    exact ⟨rfl, rfl⟩
  · walk_at "z.cs"
    walk_at "z.go"
    exact ⟨rfl, rfl⟩
  rw [hfit]
  walk_at "z.go"
  exact ⟨_, _, .inl rfl, rfl, q⟩
theorem gs_law_index {ks : List (Str × Nat)} {ls : List Lab} {G : List (List Int)} {Li : List Int} {e : Ex} {a c : Nat} {R : D → List D → Prop} (h : WfS ks ls) (hG : IsN ks ls G) (hGl : G.length ≤ 200) (ok : ExOk e) (hs : szX e ≤ 64) (hL : Lbs ls Li) (hA : Lts ls Li (ltX e)) (ha : a < ks.length) (hc : c < ks.length)
    (q : R (.val (idxP (bX e) ks G e a c)) [.val (schP ks ls), .val (.tup (G.map tupI)), .val (exP e), .val (.int a), .val (.int c)]) :
    Gs (m_law_index [.val (schP ks ls), .val (.tup (G.map tupI)), .val (exP e), .val (.int a), .val (.int c)]) R := by
  obtain ⟨hok, _⟩ := book_facts hs hL hA
  have hla := la_len hok
  have hnl := nodes_len h a
  have hnl2 := nodes_len h c
  unfold m_law_index bm_law_index
  refine gs_fn (by rfl) ?_
  walk_at "z.st"
  walk_at "z.go"
  refine gs_lbook ok hs hL hA ?_
  walk_at "z.go"
  refine gs_nodes h ha ?_
  walk_at "z.go"
  refine for_invM P.int (fun rest e2 => ∃ (pre : List Int) (s7 s8 s9 : Sl), (pre ++ rest = nodesL ks a ∧ okS s9) ∧
    e2 = [.par (.val (schP ks ls)), .par (.val (.tup (G.map tupI))), .par (.val (exP e)), .par (.val (.int a)), .par (.val (.int c)), .loc (.val (bkP (bX e))), .loc (.olst (((prsL (bX e) G pre (nodesL ks c)).map tupI).map .val)), s7, s8, s9])
    (nodesL ks a) _ ⟨[], _, _, _, ⟨rfl, .inl rfl⟩, rfl⟩ (fun x r e2 hx hI => ?_) fun e2 hI => ?_
  · obtain ⟨pre, s7, s8, s9, ⟨hp, hs9⟩, rfl⟩ := hI
    have hpl : pre.length + 1 ≤ 24 := by
      have := congrArg List.length hp
      rw [List.length_append, List.length_cons] at this
      omega
    have hpr := prs_len (b := bX e) (G := G) (Y := nodesL ks c) pre
    have hmul : pre.length * (nodesL ks c).length ≤ 24 * 24 := Nat.mul_le_mul (by omega) hnl2
    refine ⟨_, gN_set (by walk_at "z.at"), ?_⟩
    walk_at "z.go"
    refine gs_states hok hG.g.e3 hGl fun S hS1 hS2 hS3 => ?_
    have hadd : gAdd (.lst ((prsL (bX e) G pre (nodesL ks c)).map tupI)) (.lst (((nodesL ks c).filter (jnB (bX e) G x)).map fun y => tupI [x, y])) = some (.olst (((prsL (bX e) G (pre ++ [x]) (nodesL ks c)).map tupI).map .val)) := by
      have hfl := List.length_filter_le (jnB (bX e) G x) (nodesL ks c)
      rw [o_addl (le_size (k := 10000) (by simp only [List.length_map]; omega) (by omega))]
      have e1 : prsL (bX e) G (pre ++ [x]) (nodesL ks c) = prsL (bX e) G pre (nodesL ks c) ++ ((nodesL ks c).filter (jnB (bX e) G x)).map fun y => [x, y] := by
        unfold prsL
        rw [List.flatMap_append]
        simp
      rw [e1, List.map_append (f := tupI), List.map_map]
      rfl
    walk_at "z.go"
    refine w_compV P.int (jnB (bX e) G x) (fun y => tupI [x, y]) ?_
    walk_at "z.go"
    refine gs_nodes h hc ?_
    walk_at "z.go"
    refine ⟨⟨_, by walk_at "z.at", hs9⟩, ?_, fun y hy => ?_, fun y hy hcy => ?_, ?_⟩
    · exact le_size hnl2 (by omega)
    · walk_at "z.cs"
      walk_at "z.go"
      refine gs_endsG (by omega) (.inl rfl) fun v hv => ?_
      walk_at "z.go"
      refine ⟨?_, rfl⟩
      have key : v = true ↔ jnB (bX e) G x y = true := by
        rw [hv, jnB_iff]
        constructor
        · intro hn
          by_cases h0 : (bX e).em = 1 ∧ x = y
          · exact .inl h0
          · refine .inr (Classical.byContradiction fun hj => hn ⟨h0, fun l hl hm => hj ⟨l, hl, ?_⟩⟩)
            obtain ⟨n, p, e5, hr⟩ := hS1 _ hm
            injection e5 with e1 e2
            injection e2 with e2 _
            subst e1 e2
            exact hr
        · rintro (h0 | ⟨l, hl, hr⟩) ho
          · exact ho.1 h0
          · exact ho.2 l hl (hS2.all hr)
      cases v <;> cases hj : jnB (bX e) G x y <;> simp_all
    · walk_at "z.cs"
      walk_at "z.go"
      exact ⟨rfl, rfl⟩
    walk_at "z.go"
    exact .inl ⟨.inl rfl, pre ++ [x], _, _, _, ⟨by rw [List.append_assoc]; exact hp, hs9⟩, rfl⟩
  · obtain ⟨pre, s7, s8, s9, ⟨hp, hs9⟩, rfl⟩ := hI
    rw [List.append_nil] at hp
    subst hp
    walk_at "z.go"
    exact ⟨_, _, .inl rfl, rfl, q⟩


theorem totl_bd2 {ks : List (Str × Nat)} {mo : Int} (h : ∀ k ∈ ks, (k.2 : Int) ≤ mo) : totl ks ≤ ks.length * mo := totl_bd h
theorem gs_chained {d : Dw} {kn lb mo : Int} {R : D → List D → Prop} (hk : 1 ≤ kn ∧ kn ≤ 3) (hlb : 1 ≤ lb ∧ lb ≤ 8) (hmo : 1 ≤ mo ∧ mo ≤ 12) (hpr : kn * mo ≤ 12)
    (q : ∀ (ks : List (Str × Nat)) (ls : List Lab) (d' : Dw), WfS ks ls → totl ks ≤ 12 → (ks.length : Int) = kn → (ls.length : Int) = lb → R (.val (schP ks ls)) [.olst (dl d'), .val (.int kn), .val (.int lb), .val (.int mo)]) :
    Gs (m_law_chained [.olst (dl d), .val (.int kn), .val (.int lb), .val (.int mo)]) R := by
  unfold m_law_chained bm_law_chained
  refine gs_fn (by rfl) ?_
  walk_at "z.st"
  walk_at "z.go"
  refine gs_schemaF (by omega) (by omega) (by omega) fun ks ls d1 h hkl hll hkm hF => ?_
  have hs1 := ix_s1 ks ls
  have hs2 := ix_s2 ks ls
  have hll2 := h.ll
  walk_at "z.go"
  refine gs_draw (by omega) (by omega) fun at0 d2 ha0 ha1 => ?_
  obtain ⟨at0, rfl⟩ : ∃ a : Nat, at0 = a := ⟨at0.toNat, by omega⟩
  walk_at "z.go"
  refine for_invM labP (fun rest e => ∃ (d : Dw) (ms : List Lab) (a : Nat) (s7 s8 s9 : Sl), (ms.length + rest.length = ls.length ∧ a < ks.length ∧ ∀ m ∈ ms, m.a < ks.length ∧ m.b < ks.length) ∧
    e = [.par (.olst (dl d)), .par (.val (.int kn)), .par (.val (.int lb)), .par (.val (.int mo)), .loc (.val (schP ks ls)), .loc (.olst ((ms.map labP).map .val)), .loc (.val (.int a)), s7, s8, s9, .un, .un])
    ls _ ⟨d2, [], at0, _, _, _, ⟨by simp, by omega, fun _ no => nomatch no⟩, rfl⟩ (fun c rest e hc hI => ?_) (fun e hI => ?_)
  · obtain ⟨d3, ms, a, s7, s8, s9, ⟨hml, hak, hmm⟩, rfl⟩ := hI
    have x0 := ix_l0 c
    have x1 := ix_l1 c
    have x2 := ix_l2 c
    have x3 := ix_l3 c
    have x4 := ix_l4 c
    have hcl := h.lab c hc
    refine ⟨_, gN_set (by walk_at "z.at"), ?_⟩
    walk_at "z.go"
    refine w_par (by decide) ?_
    walk_at "z.go"
    refine ⟨_, _, rfl, by simp, by simp, ?_⟩
    walk_at "z.cs"
    refine And.intro (fun _ => ?_) (fun no => (no (by simp)).elim)
    walk_at "z.gi"
    refine w_mid (fun e => ∃ (d : Dw) (s t : Nat), (s < ks.length ∧ t < ks.length) ∧
      e = [.par (.olst (dl d)), .par (.val (.int kn)), .par (.val (.int lb)), .par (.val (.int mo)), .loc (.val (schP ks ls)), .loc (.olst ((ms.map labP).map .val)), .loc (.val (.int a)), .loc (.val (labP c)), .loc (.val (.int s)), .loc (.val (.int t)), .un, .un]) ?_ ?_
    · walk_at "z.go"
      refine gs_draw (by omega) (by omega) fun w d4 _ _ => ?_
      walk_at "z.go"
      refine ⟨fun _ => ?_, fun _ => ?_⟩
      · walk_at "z.go"
        refine ⟨fun _ => ?_, fun _ => ?_⟩
        · walk_at "z.go"
          exact ⟨rfl, d4, a, a, ⟨hak, hak⟩, rfl⟩
        · walk_at "z.go"
          exact ⟨rfl, d4, a, c.b, ⟨hak, hcl.2⟩, rfl⟩
      · walk_at "z.go"
        exact ⟨rfl, d4, c.a, c.b, hcl, rfl⟩
    rintro _ ⟨d4, s, t, ⟨hs, ht⟩, rfl⟩
    have hpush : hApp ((ms.map labP).map .val) [.val (.tup [.str c.nm, .int s, .int t, .int c.pr, .str c.rule])] = some (.val .non, ((ms ++ [(⟨c.nm, s, t, c.pr, c.rule⟩ : Lab)]).map labP).map .val) := by
      rw [app_V (lt_size (k := 1000) (by rw [List.length_map]; omega) (by omega)), List.map_append (f := labP)]
      rfl
    walk_at "z.go"
    refine .inl ⟨.inl rfl, d4, ms ++ [⟨c.nm, s, t, c.pr, c.rule⟩], t, _, _, _, ⟨?_, ht, fun m hm => ?_⟩, rfl⟩
    · rw [List.length_append]; rw [List.length_singleton]
      rw [List.length_cons] at hml
      omega
    · rcases List.mem_append.mp hm with z | z
      · exact hmm m z
      · rw [(List.mem_singleton.mp z)]
        exact ⟨hs, ht⟩
  · obtain ⟨d3, ms, a, s7, s8, s9, ⟨hml, hak, hmm⟩, rfl⟩ := hI
    rw [List.length_nil, Nat.add_zero] at hml
    have hli := o_listt (ks.map kindP)
    have fin : ∀ ks2 : List (Str × Nat), ks2.length = ks.length → (∀ k ∈ ks2, (k.2 : Int) ≤ mo) → WfS ks2 ms ∧ totl ks2 ≤ 12 := fun ks2 e1 e2 => by
      refine ⟨⟨by rw [e1]; exact h.kl, fun k hk => by have := e2 k hk; omega, by rw [hml]; exact h.ll, fun m hm => by rw [e1]; exact hmm m hm⟩, ?_⟩
      have := totl_bd2 e2
      rw [e1, hkl] at this
      omega
    walk_at "z.gi"
    refine w_mid (fun e => ∃ (d : Dw) (ks2 : List (Str × Nat)) (s11 : Sl), ((WfS ks2 ms ∧ totl ks2 ≤ 12) ∧ ks2.length = ks.length) ∧
      e = [.par (.olst (dl d)), .par (.val (.int kn)), .par (.val (.int lb)), .par (.val (.int mo)), .loc (.val (schP ks ls)), .loc (.olst ((ms.map labP).map .val)), .loc (.val (.int a)), s7, s8, s9, .loc (.olst ((ks2.map kindP).map .val)), s11]) ?_ ?_
    · have hno := fin ks rfl hkm
      walk_at "z.go"
      refine ⟨fun hc => ?_, fun _ => ?_⟩
      · walk_at "z.go"
        refine gs_rare (by omega) (by omega) fun v d5 => ?_
        walk_at "z.go"
        refine ⟨fun _ => ?_, fun _ => ?_⟩
        · walk_at "z.go"
          refine gs_draw (by omega) (by omega) fun k d6 hk0 hk1 => ?_
          obtain ⟨k, rfl⟩ : ∃ a : Nat, k = a := ⟨k.toNat, by omega⟩
          have hkk : k < ks.length := by omega
          have x0 : gIx (.lst (ks.map kindP)) (.int k) = some (.val (kindP ks[k])) := o_ixl (at_map (by simp [hkk]))
          have x1 := ix_k0 ks[k]
          walk_at "z.go"
          refine ex_putV (p := kindP (ks[k].1, 0)) (by walk_at "z.at") (by omega) (by simp; omega) (by walk_at "z.at") ?_
          refine ⟨rfl, d6, ks.set k (ks[k].1, 0), .loc (.val (.int k)), ⟨fin _ (by simp) fun z hz => ?_, by simp⟩, ?_⟩
          · rcases List.mem_or_eq_of_mem_set hz with hz | rfl
            · exact hkm z hz
            · show (0 : Int) ≤ mo
              omega
          · simp only [Int.toNat_natCast, List.map_set]
        · walk_at "z.go"
          exact ⟨rfl, d5, ks, _, ⟨hno, rfl⟩, rfl⟩
      · walk_at "z.go"
        exact ⟨rfl, d3, ks, _, ⟨hno, rfl⟩, rfl⟩
    rintro _ ⟨d5, ks2, s11, ⟨⟨hW, hT⟩, hkl2⟩, rfl⟩
    walk_at "z.go"
    exact ⟨_, _, .inl rfl, rfl, q ks2 ms d5 hW hT (by omega) (by omega)⟩
theorem cut_drop {α : Type} (xs : List α) (k : Nat) : cutP xs (some (k : Int)) none = xs.drop k := by
  unfold cutP
  have h1 : HT.sIx xs.length xs.length none = xs.length := rfl
  have h0 : HT.sIx xs.length 0 (some (k : Int)) = min k xs.length := by
    simp only [HT.sIx]
    split <;> omega
  rw [h1, h0]
  by_cases h : k ≤ xs.length
  · rw [Nat.min_eq_left h]
    exact (List.take_of_length_le (by simp))
  · rw [Nat.min_eq_right (by omega), List.drop_eq_nil_of_le (Nat.le_refl _), List.drop_eq_nil_of_le (by omega)]
    simp
theorem len_l2 (w : List Int) : gLen (.lst (w.map .int)) = some (.val (.int w.length)) := by
  show some (D.val (.int (w.map P.int).length)) = _
  rw [List.length_map]
theorem lbs_sub {ls : List Lab} {Li A : List Int} (h : Lbs ls Li) (s : A.Sublist Li) : Lbs ls A := ⟨h.nd.sublist s, fun x hx => h.ok x (s.subset hx), Nat.le_trans s.length_le h.few⟩
theorem gs_joins {d : Dw} {ks : List (Str × Nat)} {ls : List Lab} {Li : List Int} {R : D → List D → Prop} (hL : Lbs ls Li) (q : ∀ (e : Ex) (d' : Dw), ExOk e → szX e ≤ 64 → Lts ls Li (ltX e) → ∀ v, R (.val (exP e)) [.olst (dl d'), .val (schP ks ls), v]) :
    Gs (m_law_joins [.olst (dl d), .val (schP ks ls), .olst ((Li.map .int).map .val)]) R := by
  have hf := hL.few
  have hlen := len_l2 Li
  unfold m_law_joins bm_law_joins
  refine gs_fn (by rfl) ?_
  walk_at "z.st"
  have one : ∀ d0 : Dw, W (sRet (mCall m_law_expression (mAn 0 (mAn 1 (mAn 2 mAnil)))) [.par (.olst (dl d0)), .par (.val (schP ks ls)), .par (.olst ((Li.map .int).map .val)), .un, .un]) (fun o e => ∃ d2 ds', (o = .ret d2 ∨ o = .nx ∧ d2 = .val .non) ∧ outs [.olst (dl d), .val (schP ks ls), .olst ((Li.map .int).map .val)] e = some ds' ∧ R d2 ds') := fun d0 => by
    walk_at "z.go"
    refine gs_expression hL fun e d2 ok hs hA => ?_
    walk_at "z.go"
    exact ⟨_, _, .inl rfl, rfl, q e d2 ok (by omega) hA _⟩
  walk_at "z.go"
  refine ⟨fun hc => ?_, fun hc => ?_⟩
  · have hc : 1 < (Li.length : Int) := by simpa using hc
    walk_at "z.go"
    refine gs_draw (by omega) (by omega) fun w d2 _ _ => ?_
    walk_at "z.go"
    refine ⟨fun _ => ?_, fun _ => ?_⟩
    · walk_at "z.go"
      refine gs_draw (by omega) (by omega) fun k d3 hk0 hk1 => ?_
      obtain ⟨j, hj⟩ : ∃ j : Nat, 1 + k = j := ⟨(1 + k).toNat, by omega⟩
      have hadd : gAdd (.int 1) (.int k) = some (.val (.int (j : Int))) := by
        rw [← hj]
        exact o_add 1 k
      have s1 : gSl (.lst (Li.map .int)) none (some (j : Int)) = some (.olst (((Li.take j).map P.int).map .val)) := by
        show some (D.olst ((cutP (Li.map P.int) none (some ((j : Nat) : Int))).map .val)) = _
        rw [cut_take, ← List.map_take]
      have s2 : gSl (.lst (Li.map .int)) (some (j : Int)) none = some (.olst (((Li.drop j).map P.int).map .val)) := by
        show some (D.olst ((cutP (Li.map P.int) (some ((j : Nat) : Int)) none).map .val)) = _
        rw [cut_drop, ← List.map_drop]
      walk_at "z.go"
      refine gs_expression (lbs_sub hL (List.take_sublist j Li)) fun e1 d4 ok1 hs1 hA1 => ?_
      walk_at "z.go"
      refine gs_expression (lbs_sub hL (List.drop_sublist j Li)) fun e2 d5 ok2 hs2 hA2 => ?_
      walk_at "z.go"
      refine ⟨_, _, .inl rfl, rfl, q (.bi "then" e1 e2) d5 ⟨.inl rfl, ok1, ok2⟩ (by simp only [szX]; omega) ⟨fun g hg => ?_, ?_⟩ _⟩
      · exact (List.mem_append.mp hg).elim (hA1.ok g) (hA2.ok g)
      · show ((ltX e1 ++ ltX e2).map fun g => g.getD 0 0) = Li
        rw [List.map_append, hA1.hd, hA2.hd, List.take_append_drop]
    · exact ⟨.nx, _, rfl, sq_nx (one d2)⟩
  · refine ⟨fun h => (nomatch h), fun _ => ?_⟩
    exact ⟨.nx, _, rfl, sq_nx (one d)⟩
theorem take_nats {n : Nat} {ys : List Nat} (hp : ys.Perm (List.range n)) (m : Nat) {ls : List Lab} (hn : n = ls.length) (hm : n ≤ 8) : Lbs ls ((ys.take m).map fun k : Nat => (k : Int)) := by
  have hnd : ys.Nodup := hp.nodup_iff.mpr List.nodup_range
  have hl := hp.length_eq
  rw [List.length_range] at hl
  refine ⟨?_, fun x hx => ?_, ?_⟩
  · refine List.pairwise_map.mpr ((hnd.sublist (List.take_sublist m ys)).imp fun h e => h (by omega))
  · obtain ⟨k, hk, rfl⟩ := List.mem_map.mp hx
    have := List.mem_range.mp (hp.mem_iff.mp (List.mem_of_mem_take hk))
    omega
  · simp only [List.length_map, List.length_take]
    omega
theorem GP_mono : ∀ (n : Nat) (p : P), GP n p → GP (n + 1) p
  | 0, p, h => h.elim
  | n + 1, .int i, _ => trivial
  | n + 1, .str s, _ => trivial
  | n + 1, .tup ps, h => ⟨h.1, fun p hp => GP_mono n p (h.2 p hp)⟩
  | n + 1, .non, h => h.elim
  | n + 1, .bl _, h => h.elim
  | n + 1, .lst _, h => h.elim
  | n + 1, .scr _, h => h.elim
  | n + 1, .dK _ _, h => h.elim
  | n + 1, .dT _ _, h => h.elim
theorem GP_le {n m : Nat} {p : P} (h : GP n p) (hl : n ≤ m) : GP m p := by
  induction hl with
  | refl => exact h
  | step _ ih => exact GP_mono _ _ ih
theorem GP_ex : ∀ e : Ex, GP (szX e + 1) (exP e)
  | .stay => ⟨by simp, fun p hp => by rw [List.mem_singleton.mp hp]; trivial⟩
  | .step l b => ⟨by simp, fun p hp => by
    simp only [List.mem_cons, List.not_mem_nil, or_false] at hp
    rcases hp with rfl | rfl | rfl <;> trivial⟩
  | .un w e => ⟨by simp, fun p hp => by
    simp only [List.mem_cons, List.not_mem_nil, or_false] at hp
    rcases hp with rfl | rfl
    · trivial
    · exact GP_ex e⟩
  | .bi w e f => ⟨by simp, fun p hp => by
    simp only [List.mem_cons, List.not_mem_nil, or_false] at hp
    rcases hp with rfl | rfl | rfl
    · trivial
    · exact GP_le (GP_ex e) (by simp only [szX]; omega)
    · exact GP_le (GP_ex f) (by simp only [szX]; omega)⟩
theorem GP_tups (n : Nat) (Z : List (List Int)) (h : Z.length ≤ 1000) (h2 : ∀ g ∈ Z, g.length ≤ 1000) : GP (n + 3) (.tup (Z.map tupI)) := ⟨by simpa using h, fun p hp => by
  obtain ⟨g, hg, rfl⟩ := List.mem_map.mp hp
  exact ⟨by simpa using h2 g hg, fun p hp => by
    obtain ⟨i, _, rfl⟩ := List.mem_map.mp hp
    trivial⟩⟩
theorem isn_G {ks : List (Str × Nat)} {ls : List Lab} {G : List (List Int)} (h : GOk ks ls G) : IsN ks ls G := fun g hg => by
  obtain ⟨s, l, t, hl, _, hm⟩ := h.el g hg
  exact isn_let hl g hm
def asP (z : List (List Int) × Nat × Nat) : P := .tup [.tup (z.1.map tupI), .int z.2.1, .int z.2.2]
theorem gp_idx {b : Bk} {ks : List (Str × Nat)} {ls : List Lab} {G : List (List Int)} {e : Ex} {a c : Nat} (h : WfS ks ls) (hs : szX e ≤ 64) : GP 70 (idxP b ks G e a c) := by
  refine ⟨by simp, fun p hp => ?_⟩
  simp only [List.mem_cons, List.not_mem_nil, or_false] at hp
  rcases hp with rfl | rfl | rfl | rfl | rfl
  · trivial
  · exact GP_le (GP_ex e) (Nat.le_trans (Nat.succ_le_succ hs) (by decide))
  · trivial
  · trivial
  · have h1 := nodes_len h a
    have h2 := nodes_len h c
    have h3 := prs_len (b := b) (G := G) (Y := nodesL ks c) (nodesL ks a)
    have h4 : (nodesL ks a).length * (nodesL ks c).length ≤ 24 * 24 := Nat.mul_le_mul h1 h2
    refine GP_tups 66 _ (by omega) fun g hg => ?_
    unfold prsL at hg
    obtain ⟨x, _, hg⟩ := List.mem_flatMap.mp hg
    obtain ⟨y, _, rfl⟩ := List.mem_map.mp hg
    simp
theorem gs_law {ns : List Int} (hn : ns.length ≤ 63) : Gs (m_law [.val (.scr ns)]) (fun d _ => d = .val (.bl true)) := by
  unfold m_law bm_law
  refine gs_fn (by rfl) ?_
  walk_at "z.st"
  walk_at "z.go"
  refine gs_begin hn ?_
  walk_at "z.go"
  refine gs_draw (by omega) (by omega) fun k0 d1 hk0 hk1 => ?_
  obtain ⟨kn, hkn⟩ : ∃ kn : Nat, 1 + k0 = kn := ⟨(1 + k0).toNat, by omega⟩
  have hkn3 : 1 ≤ kn ∧ kn ≤ 3 := by omega
  have hadd : gAdd (.int 1) (.int k0) = some (.val (.int (kn : Int))) := by
    rw [← hkn]
    exact o_add 1 k0
  have hdv : gFdiv (.int kn) (.int 2) = some (.val (.int ((kn : Int).fdiv 2))) := o_fdiv (by omega)
  have hdv2 : gFdiv (.int 12) (.int kn) = some (.val (.int ((12 : Int).fdiv kn))) := o_fdiv (by omega)
  walk_at "z.go"
  clear hadd hkn hk0 hk1
  refine w_par3 (by decide) (by decide) (by decide) ?_
  walk_at "z.go"
  refine gs_draw (by omega) (by omega) fun l0 d2 hl0 hl1 => ?_
  walk_at "z.go"
  refine ⟨_, _, _, rfl, ⟨by simp, by simp, by simp⟩, ?_⟩
  walk_at "z.cs"
  refine And.intro (fun _ => ?_) (fun no => (no (by simp)).elim)
  walk_at "z.gi"
  refine w_mid (fun e => ∃ (d : Dw) (lb : Nat) (mo sz : Int), ((1 ≤ lb ∧ lb ≤ 8) ∧ (1 ≤ mo ∧ mo ≤ 12) ∧ kn * mo ≤ 12 ∧ 0 ≤ sz ∧ sz ≤ 20) ∧
    e = [.par (.val (.scr ns)), .loc (.olst (dl d)), .loc (.val (.int kn)), .loc (.val (.int lb)), .loc (.val (.int mo)), .loc (.val (.int sz)), .un, .un, .un, .un, .un, .un, .un, .un, .un, .un, .un]) ?_ ?_
  · walk_at "z.go"
    refine gs_rare (by omega) (by omega) fun v d3 => ?_
    walk_at "z.go"
    refine ⟨fun _ => ?_, fun _ => ?_⟩
    · walk_at "z.go"
      refine w_par3 (by decide) (by decide) (by decide) ?_
      walk_at "z.go"
      refine ⟨_, _, _, rfl, ⟨by simp, by simp, by simp⟩, ?_⟩
      walk_at "z.cs"
      refine ⟨trivial, d3, 8, (12 : Int).fdiv kn, 20, ⟨by omega, ?_⟩, rfl⟩
      have : kn = 1 ∨ kn = 2 ∨ kn = 3 := by omega
      rcases this with rfl | rfl | rfl <;> decide
    · walk_at "z.go"
      obtain ⟨lb, hlb⟩ : ∃ lb : Nat, 1 + l0 = lb := ⟨(1 + l0).toNat, by omega⟩
      refine ⟨rfl, d3, lb, _, 12, ⟨by omega, ?_⟩, by rw [← hlb]⟩
      have : kn = 1 ∨ kn = 2 ∨ kn = 3 := by omega
      rcases this with rfl | rfl | rfl <;> decide
  rintro _ ⟨d3, lb, mo, sz, ⟨hlb, hmo, hprod, hsz⟩, rfl⟩
  clear hdv hdv2
  walk_at "z.go"
  refine gs_chained (by omega) (by omega) hmo hprod fun ks ls d4 h h12 hkl hll => ?_
  have hkl : ks.length = kn := by omega
  have hll : lb = ls.length := by omega
  walk_at "z.go"
  refine gs_draw (by omega) (by omega) fun m1 d5 hm0 hm1 => ?_
  walk_at "z.go"
  refine gs_graph h (by omega) (by omega) fun G1 d6 hG1 hGl1 => ?_
  walk_at "z.go"
  refine gs_draw (by omega) (by omega) fun m2 d7 hm2 hm3 => ?_
  walk_at "z.go"
  refine gs_graph h (by omega) (by omega) fun G2 d8 hG2 hGl2 => ?_
  have hrg := o_lrng (n := lb) (by omega)
  walk_at "z.gi"
  refine w_mid (fun e => ∃ (d : Dw) (ys : List Nat) (yd : D), (ys.Perm (List.range lb) ∧ EiL (ys.map fun k : Nat => P.int k) yd) ∧
    e = [.par (.val (.scr ns)), .loc (.olst (dl d)), .loc (.val (.int kn)), .loc (.val (.int lb)), .loc (.val (.int mo)), .loc (.val (.int sz)), .loc (.val (schP ks ls)), .loc (.val (.tup (G1.map tupI))), .loc (.val (.tup (G2.map tupI))), .loc yd, .un, .un, .un, .un, .un, .un, .un]) ?_ ?_
  · walk_at "z.go"
    refine gs_draw (by omega) (by omega) fun w d9 _ _ => ?_
    walk_at "z.go"
    refine ⟨fun _ => ?_, fun _ => ?_⟩
    · walk_at "z.go"
      refine gs_shufP (fun k : Nat => P.int k) (xs := List.range lb) (by simp; omega) fun ys d10 hp => ?_
      walk_at "z.go"
      exact ⟨rfl, d10, ys, _, ⟨hp, .inr rfl⟩, rfl⟩
    · walk_at "z.go"
      exact ⟨rfl, d9, List.range lb, _, ⟨List.Perm.refl _, .inl rfl⟩, rfl⟩
  rintro _ ⟨d10, ys, yd, ⟨hys, hyd⟩, rfl⟩
  have hsl : ∀ m : Nat, gSl (.lst (ys.map fun k : Nat => P.int k)) none (some (m : Int)) = some (.olst ((((ys.take m).map fun k : Nat => (k : Int)).map P.int).map .val)) := fun m => by
    show some (D.olst ((cutP (ys.map fun k : Nat => P.int k) none (some ((m : Nat) : Int))).map .val)) = _
    rw [cut_take, ← List.map_take, List.map_map (f := fun k : Nat => (k : Int))]
    rfl
  refine w_seq ?_
  refine w_mid (fun e => ∃ (d : Dw) (ex : Ex) (s9 : Sl), (ExOk ex ∧ szX ex ≤ 64 ∧ ∃ Li, Lbs ls Li ∧ Lts ls Li (ltX ex)) ∧
    e = [.par (.val (.scr ns)), .loc (.olst (dl d)), .loc (.val (.int kn)), .loc (.val (.int lb)), .loc (.val (.int mo)), .loc (.val (.int sz)), .loc (.val (schP ks ls)), .loc (.val (.tup (G1.map tupI))), .loc (.val (.tup (G2.map tupI))), s9, .loc (.val (exP ex)), .un, .un, .un, .un, .un, .un]) ?_ ?_
  · rcases hyd with rfl | rfl
    · walk_at "z.go"
      refine gs_draw (by omega) (by omega) fun m d11 hm0 hm1 => ?_
      obtain ⟨m, rfl⟩ : ∃ k : Nat, m = k := ⟨m.toNat, by omega⟩
      have hs := hsl m
      walk_at "z.go"
      refine gs_joins (take_nats hys m hll hlb.2) fun ex d12 ok hs hA v => ?_
      walk_at "z.go"
      exact ⟨rfl, d12, ex, _, ⟨ok, hs, _, take_nats hys m hll hlb.2, hA⟩, rfl⟩
    · walk_at "z.go"
      refine gs_draw (by omega) (by omega) fun m d11 hm0 hm1 => ?_
      obtain ⟨m, rfl⟩ : ∃ k : Nat, m = k := ⟨m.toNat, by omega⟩
      have hs := hsl m
      walk_at "z.go"
      refine gs_joins (take_nats hys m hll hlb.2) fun ex d12 ok hs hA v => ?_
      walk_at "z.go"
      exact ⟨rfl, d12, ex, _, ⟨ok, hs, _, take_nats hys m hll hlb.2, hA⟩, rfl⟩
  rintro _ ⟨d12, ex, s9, ⟨hok, hsz2, Li, hL, hA⟩, rfl⟩
  clear hsl hys hyd ys yd
  have i1 : IsN ks ls G1 := isn_G hG1
  have i2 : IsN ks ls G2 := isn_G hG2
  walk_at "z.go"
  refine ⟨by omega, ?_⟩
  refine for_rng (n := kn) (by simp) (fun k e => ∃ (K : List (List (List Int) × Nat × Nat)) (s12 s15 : Sl), (K.length = k * kn ∧ (∀ z ∈ K, z.1 = G1 ∧ z.2.1 < ks.length ∧ z.2.2 < ks.length) ∧ okS s15) ∧
    e = [.par (.val (.scr ns)), .loc (.olst (dl d12)), .loc (.val (.int kn)), .loc (.val (.int lb)), .loc (.val (.int mo)), .loc (.val (.int sz)), .loc (.val (schP ks ls)), .loc (.val (.tup (G1.map tupI))), .loc (.val (.tup (G2.map tupI))), s9, .loc (.val (exP ex)), .loc (.olst ((K.map asP).map .val)), s12, .un, .un, s15, .un])
    _ ⟨[], _, _, ⟨by simp, (fun _ no => nomatch no), .inl rfl⟩, rfl⟩ (fun k e hk hI => ?_) fun e hI => ?_
  · obtain ⟨K, s12, s15, ⟨hKl, hK, hs15⟩, rfl⟩ := hI
    refine ⟨_, gN_set (by walk_at "z.at"), ?_⟩
    have hadd : gAdd (.lst (K.map asP)) (.lst ((List.range kn).map fun c : Nat => asP (G1, k, c))) = some (.olst (((K ++ (List.range kn).map fun c : Nat => (G1, k, c)).map asP).map .val)) := by
      have hb : k * kn ≤ 3 * 3 := Nat.mul_le_mul (by omega) (by omega)
      rw [o_addl (le_size (k := 100) (by simp only [List.length_map, List.length_range]; omega) (by omega)), List.map_append (f := asP), List.map_map]
      rfl
    walk_at "z.go"
    refine w_compM (fun c : Nat => P.int c) (fun c : Nat => asP (G1, k, c)) ?_
    walk_at "z.go"
    refine ⟨by omega, ?_⟩
    refine ⟨List.range kn, by simp, ⟨_, by walk_at "z.at", hs15⟩, le_size (k := 10) (by simp; omega) (by omega), fun c hc => ?_, ?_⟩
    · walk_at "z.cs"
      walk_at "z.go"
      exact ⟨rfl, rfl⟩
    walk_at "z.go"
    refine .inl ⟨.inl rfl, K ++ (List.range kn).map fun c : Nat => (G1, k, c), _, _, ⟨?_, fun z hz => ?_, hs15⟩, rfl⟩
    · rw [List.length_append, List.length_map, List.length_range, hKl, Nat.add_mul, Nat.one_mul]
    · rcases List.mem_append.mp hz with hz | hz
      · exact hK z hz
      · obtain ⟨c, hc, rfl⟩ := List.mem_map.mp hz
        have := List.mem_range.mp hc
        exact ⟨rfl, by show k < ks.length; omega, by show c < ks.length; omega⟩
  obtain ⟨K, s12, s15, ⟨hKl, hK, hs15⟩, rfl⟩ := hI
  walk_at "z.go"
  refine gs_draw (by omega) (by omega) fun a0 d13 ha0 ha1 => ?_
  obtain ⟨a, rfl⟩ : ∃ a : Nat, a0 = a := ⟨a0.toNat, by omega⟩
  walk_at "z.go"
  refine gs_draw (by omega) (by omega) fun c0 d14 hc0 hc1 => ?_
  obtain ⟨c, rfl⟩ : ∃ c : Nat, c0 = c := ⟨c0.toNat, by omega⟩
  have hadd2 : gAdd (.lst (K.map asP)) (.lst ([G2, [], G1].map fun g => asP (g, a, c))) = some (.olst (((K ++ [(G2, a, c), ([], a, c), (G1, a, c)]).map asP).map .val)) := by
    have hb : kn * kn ≤ 3 * 3 := Nat.mul_le_mul (by omega) (by omega)
    rw [o_addl (le_size (k := 100) (by simp only [List.length_map, List.length_cons, List.length_nil]; omega) (by omega)), List.map_append (f := asP)]
    rfl
  walk_at "z.go"
  refine w_compM (fun g : List (List Int) => .tup (g.map tupI)) (fun g => asP (g, a, c)) ?_
  walk_at "z.go"
  refine ⟨[G2, [], G1], rfl, ⟨_, by walk_at "z.at", .inl rfl⟩, le_size (k := 3) (by simp) (by omega), fun g hg => ?_, ?_⟩
  · have hadd : gAdd (.tup [.tup (g.map tupI)]) (.tup [.int a, .int c]) = some (.val (asP (g, a, c))) := rfl
    walk_at "z.cs"
    walk_at "z.go"
    exact ⟨rfl, rfl⟩
  walk_at "z.go"
  have hall : ∀ z ∈ K ++ [(G2, a, c), ([], a, c), (G1, a, c)], (IsN ks ls z.1 ∧ z.1.length ≤ 100) ∧ z.2.1 < ks.length ∧ z.2.2 < ks.length := fun z hz => by
    have ha : a < ks.length := by omega
    have hc : c < ks.length := by omega
    rcases (List.mem_append.mp hz) with (hz | hz)
    · obtain ⟨e1, e2⟩ := hK z hz
      exact ⟨by rw [e1]; exact ⟨i1, hGl1⟩, e2⟩
    · simp only [List.mem_cons, List.not_mem_nil, or_false] at hz
      rcases hz with rfl | rfl | rfl
      · exact ⟨⟨i2, hGl2⟩, ha, hc⟩
      · exact ⟨⟨fun g no => (by simp at no), by simp⟩, ha, hc⟩
      · exact ⟨⟨i1, hGl1⟩, ha, hc⟩
  generalize K ++ [(G2, a, c), ([], a, c), (G1, a, c)] = K2 at hall
  refine for_invM asP (fun rest e => ∃ (s12 s14 s15 s16 : Sl), e = [.par (.val (.scr ns)), .loc (.olst (dl d14)), .loc (.val (.int kn)), .loc (.val (.int lb)), .loc (.val (.int mo)), .loc (.val (.int sz)), .loc (.val (schP ks ls)), .loc (.val (.tup (G1.map tupI))), .loc (.val (.tup (G2.map tupI))), s9, .loc (.val (exP ex)), .hol, s12, .loc (.val (.tup [.int a, .int c])), s14, s15, s16])
    K2 _ ⟨_, _, _, _, rfl⟩ (fun z rest e hz hI => ?_) fun e hI => ?_
  · obtain ⟨s12, s14, s15, s16, rfl⟩ := hI
    obtain ⟨⟨hN, hNl⟩, hza, hzc⟩ := hall z hz
    refine ⟨_, gT3 (by walk_at "z.at") (by walk_at "z.at") (by walk_at "z.at"), ?_⟩
    walk_at "z.cs"
    walk_at "z.go"
    refine gs_law_index h hN (by omega) hok hsz2 hL hA hza hzc ?_
    walk_at "z.go"
    refine gs_index_of h (by omega) hN (by omega) hok hsz2 hL hA hza hzc ?_
    walk_at "z.go"
    refine gs_same 70 _ (gp_idx h hsz2) ?_
    walk_at "z.go"
    refine ⟨fun no => (nomatch no), fun _ => ?_⟩
    walk_at "z.go"
    exact .inl ⟨.inl rfl, _, _, _, _, rfl⟩
  · obtain ⟨s12, s14, s15, s16, rfl⟩ := hI
    refine ⟨by walk_at "z.at", _, by walk_at "z.at", ?_⟩
    walk_at "z.go"
    exact ⟨_, _, .inl rfl, rfl, rfl⟩
theorem main (ns : List Int) (hn : ns.length ≤ 63) : ∃ r, m_law [.val (.scr ns)] = some (.val (.bl true), r) := by
  obtain ⟨d, ds, h, rfl⟩ := gs_law hn
  exact ⟨_, h⟩

end ZL
namespace ZL
open PySem.Spec PyProof.Rows L2 Z PySem
set_option maxHeartbeats 0 in
theorem all_mk {l : PySem.W.OpenLaw} {w : World} {K : PySem.W.Frag} {h : Heap} {mg : Str → Option Value} {fa : Addr} (X : K.In h) (G : h.Ns mainGlobals mg) (hfa : mg "law" = some (.ref fa))
    {f0 : Addr} {od0 an0 : Option Addr} {sl0 : Array (Option Value)} {oc0 kV0 dc0 pm0 cd0 ct0 : Value}
    {f1 : Addr} {od1 an1 : Option Addr} {sl1 : Array (Option Value)} {oc1 kV1 dc1 pm1 cd1 ct1 : Value}
    {f2 : Addr} {od2 an2 : Option Addr} {sl2 : Array (Option Value)} {oc2 kV2 dc2 pm2 cd2 ct2 : Value}
    {f3 : Addr} {od3 an3 : Option Addr} {sl3 : Array (Option Value)} {oc3 kV3 dc3 pm3 cd3 ct3 : Value}
    {f4 : Addr} {od4 an4 : Option Addr} {sl4 : Array (Option Value)} {oc4 kV4 dc4 pm4 cd4 ct4 : Value}
    {f5 : Addr} {od5 an5 : Option Addr} {sl5 : Array (Option Value)} {oc5 kV5 dc5 pm5 cd5 ct5 : Value}
    {f6 : Addr} {od6 an6 : Option Addr} {sl6 : Array (Option Value)} {oc6 kV6 dc6 pm6 cd6 ct6 : Value}
    {f7 : Addr} {od7 an7 : Option Addr} {sl7 : Array (Option Value)} {oc7 kV7 dc7 pm7 cd7 ct7 : Value}
    {f8 : Addr} {od8 an8 : Option Addr} {sl8 : Array (Option Value)} {oc8 kV8 dc8 pm8 cd8 ct8 : Value}
    {f9 : Addr} {od9 an9 : Option Addr} {sl9 : Array (Option Value)} {oc9 kV9 dc9 pm9 cd9 ct9 : Value}
    {f10 : Addr} {od10 an10 : Option Addr} {sl10 : Array (Option Value)} {oc10 kV10 dc10 pm10 cd10 ct10 : Value}
    {f11 : Addr} {od11 an11 : Option Addr} {sl11 : Array (Option Value)} {oc11 kV11 dc11 pm11 cd11 ct11 : Value}
    {f12 : Addr} {od12 an12 : Option Addr} {sl12 : Array (Option Value)} {oc12 kV12 dc12 pm12 cd12 ct12 : Value}
    {f13 : Addr} {od13 an13 : Option Addr} {sl13 : Array (Option Value)} {oc13 kV13 dc13 pm13 cd13 ct13 : Value}
    {f14 : Addr} {od14 an14 : Option Addr} {sl14 : Array (Option Value)} {oc14 kV14 dc14 pm14 cd14 ct14 : Value}
    {f15 : Addr} {od15 an15 : Option Addr} {sl15 : Array (Option Value)} {oc15 kV15 dc15 pm15 cd15 ct15 : Value}
    {f16 : Addr} {od16 an16 : Option Addr} {sl16 : Array (Option Value)} {oc16 kV16 dc16 pm16 cd16 ct16 : Value}
    {f17 : Addr} {od17 an17 : Option Addr} {sl17 : Array (Option Value)} {oc17 kV17 dc17 pm17 cd17 ct17 : Value}
    {f18 : Addr} {od18 an18 : Option Addr} {sl18 : Array (Option Value)} {oc18 kV18 dc18 pm18 cd18 ct18 : Value}
    {f19 : Addr} {od19 an19 : Option Addr} {sl19 : Array (Option Value)} {oc19 kV19 dc19 pm19 cd19 ct19 : Value}
    {f20 : Addr} {od20 an20 : Option Addr} {sl20 : Array (Option Value)} {oc20 kV20 dc20 pm20 cd20 ct20 : Value}
    {f21 : Addr} {od21 an21 : Option Addr} {sl21 : Array (Option Value)} {oc21 kV21 dc21 pm21 cd21 ct21 : Value}
    {f22 : Addr} {od22 an22 : Option Addr} {sl22 : Array (Option Value)} {oc22 kV22 dc22 pm22 cd22 ct22 : Value}
    {f23 : Addr} {od23 an23 : Option Addr} {sl23 : Array (Option Value)} {oc23 kV23 dc23 pm23 cd23 ct23 : Value}
    {f24 : Addr} {od24 an24 : Option Addr} {sl24 : Array (Option Value)} {oc24 kV24 dc24 pm24 cd24 ct24 : Value}
    {f25 : Addr} {od25 an25 : Option Addr} {sl25 : Array (Option Value)} {oc25 kV25 dc25 pm25 cd25 ct25 : Value}
    {f26 : Addr} {od26 an26 : Option Addr} {sl26 : Array (Option Value)} {oc26 kV26 dc26 pm26 cd26 ct26 : Value}
    {f27 : Addr} {od27 an27 : Option Addr} {sl27 : Array (Option Value)} {oc27 kV27 dc27 pm27 cd27 ct27 : Value}
    {f28 : Addr} {od28 an28 : Option Addr} {sl28 : Array (Option Value)} {oc28 kV28 dc28 pm28 cd28 ct28 : Value}
    {f29 : Addr} {od29 an29 : Option Addr} {sl29 : Array (Option Value)} {oc29 kV29 dc29 pm29 cd29 ct29 : Value}
    {f30 : Addr} {od30 an30 : Option Addr} {sl30 : Array (Option Value)} {oc30 kV30 dc30 pm30 cd30 ct30 : Value}
    {f31 : Addr} {od31 an31 : Option Addr} {sl31 : Array (Option Value)} {oc31 kV31 dc31 pm31 cd31 ct31 : Value}
    {f32 : Addr} {od32 an32 : Option Addr} {sl32 : Array (Option Value)} {oc32 kV32 dc32 pm32 cd32 ct32 : Value}
    {f33 : Addr} {od33 an33 : Option Addr} {sl33 : Array (Option Value)} {oc33 kV33 dc33 pm33 cd33 ct33 : Value}
    {f34 : Addr} {od34 an34 : Option Addr} {sl34 : Array (Option Value)} {oc34 kV34 dc34 pm34 cd34 ct34 : Value}
    {f35 : Addr} {od35 an35 : Option Addr} {sl35 : Array (Option Value)} {oc35 kV35 dc35 pm35 cd35 ct35 : Value}
    {f36 : Addr} {od36 an36 : Option Addr} {sl36 : Array (Option Value)} {oc36 kV36 dc36 pm36 cd36 ct36 : Value}
    {f37 : Addr} {od37 an37 : Option Addr} {sl37 : Array (Option Value)} {oc37 kV37 dc37 pm37 cd37 ct37 : Value}
    {f38 : Addr} {od38 an38 : Option Addr} {sl38 : Array (Option Value)} {oc38 kV38 dc38 pm38 cd38 ct38 : Value}
    {f39 : Addr} {od39 an39 : Option Addr} {sl39 : Array (Option Value)} {oc39 kV39 dc39 pm39 cd39 ct39 : Value}
    {f40 : Addr} {od40 an40 : Option Addr} {sl40 : Array (Option Value)} {oc40 kV40 dc40 pm40 cd40 ct40 : Value}
    {f41 : Addr} {od41 an41 : Option Addr} {sl41 : Array (Option Value)} {oc41 kV41 dc41 pm41 cd41 ct41 : Value}
    {f42 : Addr} {od42 an42 : Option Addr} {sl42 : Array (Option Value)} {oc42 kV42 dc42 pm42 cd42 ct42 : Value}
    {f43 : Addr} {od43 an43 : Option Addr} {sl43 : Array (Option Value)} {oc43 kV43 dc43 pm43 cd43 ct43 : Value}
    {f44 : Addr} {od44 an44 : Option Addr} {sl44 : Array (Option Value)} {oc44 kV44 dc44 pm44 cd44 ct44 : Value}
    {f45 : Addr} {od45 an45 : Option Addr} {sl45 : Array (Option Value)} {oc45 kV45 dc45 pm45 cd45 ct45 : Value}
    {f46 : Addr} {od46 an46 : Option Addr} {sl46 : Array (Option Value)} {oc46 kV46 dc46 pm46 cd46 ct46 : Value}
    {f47 : Addr} {od47 an47 : Option Addr} {sl47 : Array (Option Value)} {oc47 kV47 dc47 pm47 cd47 ct47 : Value}
    {f48 : Addr} {od48 an48 : Option Addr} {sl48 : Array (Option Value)} {oc48 kV48 dc48 pm48 cd48 ct48 : Value}
    {f49 : Addr} {od49 an49 : Option Addr} {sl49 : Array (Option Value)} {oc49 kV49 dc49 pm49 cd49 ct49 : Value}
    {f50 : Addr} {od50 an50 : Option Addr} {sl50 : Array (Option Value)} {oc50 kV50 dc50 pm50 cd50 ct50 : Value}
    {f51 : Addr} {od51 an51 : Option Addr} {sl51 : Array (Option Value)} {oc51 kV51 dc51 pm51 cd51 ct51 : Value}
    (a0 : PySem.W.nsIn K mainGlobals "first_node" = some (some (.ref f0))) (l0 : K.lookup f0 = some ⟨oc0, od0, .func (PySem.W.fnOf "first_node" "first_node" (defArgs sm_first_node) (defBody sm_first_node) (defScope sm_first_node) .none kV0 dc0 pm0 an0 cd0 ct0), sl0⟩) (c0 : PySem.W.codeIn K cd0 "first_node" = true) (k0 : PySem.W.keepIn K (.ref f0) = true)
    (a1 : PySem.W.nsIn K mainGlobals "nodes_of" = some (some (.ref f1))) (l1 : K.lookup f1 = some ⟨oc1, od1, .func (PySem.W.fnOf "nodes_of" "nodes_of" (defArgs sm_nodes_of) (defBody sm_nodes_of) (defScope sm_nodes_of) .none kV1 dc1 pm1 an1 cd1 ct1), sl1⟩) (c1 : PySem.W.codeIn K cd1 "nodes_of" = true) (k1 : PySem.W.keepIn K (.ref f1) = true)
    (a2 : PySem.W.nsIn K mainGlobals "has_node" = some (some (.ref f2))) (l2 : K.lookup f2 = some ⟨oc2, od2, .func (PySem.W.fnOf "has_node" "has_node" (defArgs sm_has_node) (defBody sm_has_node) (defScope sm_has_node) .none kV2 dc2 pm2 an2 cd2 ct2), sl2⟩) (c2 : PySem.W.codeIn K cd2 "has_node" = true) (k2 : PySem.W.keepIn K (.ref f2) = true)
    (a3 : PySem.W.nsIn K mainGlobals "walk_ends" = some (some (.ref f3))) (l3 : K.lookup f3 = some ⟨oc3, od3, .func (PySem.W.fnOf "walk_ends" "walk_ends" (defArgs sm_walk_ends) (defBody sm_walk_ends) (defScope sm_walk_ends) .none kV3 dc3 pm3 an3 cd3 ct3), sl3⟩) (c3 : PySem.W.codeIn K cd3 "walk_ends" = true) (k3 : PySem.W.keepIn K (.ref f3) = true)
    (a4 : PySem.W.nsIn K mainGlobals "letters_by_label" = some (some (.ref f4))) (l4 : K.lookup f4 = some ⟨oc4, od4, .func (PySem.W.fnOf "letters_by_label" "letters_by_label" (defArgs sm_letters_by_label) (defBody sm_letters_by_label) (defScope sm_letters_by_label) .none kV4 dc4 pm4 an4 cd4 ct4), sl4⟩) (c4 : PySem.W.codeIn K cd4 "letters_by_label" = true) (k4 : PySem.W.keepIn K (.ref f4) = true)
    (a5 : PySem.W.nsIn K mainGlobals "labels_of" = some (some (.ref f5))) (l5 : K.lookup f5 = some ⟨oc5, od5, .func (PySem.W.fnOf "labels_of" "labels_of" (defArgs sm_labels_of) (defBody sm_labels_of) (defScope sm_labels_of) .none kV5 dc5 pm5 an5 cd5 ct5), sl5⟩) (c5 : PySem.W.codeIn K cd5 "labels_of" = true) (k5 : PySem.W.keepIn K (.ref f5) = true)
    (a6 : PySem.W.nsIn K mainGlobals "letters_in" = some (some (.ref f6))) (l6 : K.lookup f6 = some ⟨oc6, od6, .func (PySem.W.fnOf "letters_in" "letters_in" (defArgs sm_letters_in) (defBody sm_letters_in) (defScope sm_letters_in) .none kV6 dc6 pm6 an6 cd6 ct6), sl6⟩) (c6 : PySem.W.codeIn K cd6 "letters_in" = true) (k6 : PySem.W.keepIn K (.ref f6) = true)
    (a7 : PySem.W.nsIn K mainGlobals "pairs_between" = some (some (.ref f7))) (l7 : K.lookup f7 = some ⟨oc7, od7, .func (PySem.W.fnOf "pairs_between" "pairs_between" (defArgs sm_pairs_between) (defBody sm_pairs_between) (defScope sm_pairs_between) .none kV7 dc7 pm7 an7 cd7 ct7), sl7⟩) (c7 : PySem.W.codeIn K cd7 "pairs_between" = true) (k7 : PySem.W.keepIn K (.ref f7) = true)
    (a8 : PySem.W.nsIn K mainGlobals "then_facts" = some (some (.ref f8))) (l8 : K.lookup f8 = some ⟨oc8, od8, .func (PySem.W.fnOf "then_facts" "then_facts" (defArgs sm_then_facts) (defBody sm_then_facts) (defScope sm_then_facts) .none kV8 dc8 pm8 an8 cd8 ct8), sl8⟩) (c8 : PySem.W.codeIn K cd8 "then_facts" = true) (k8 : PySem.W.keepIn K (.ref f8) = true)
    (a9 : PySem.W.nsIn K mainGlobals "facts_of" = some (some (.ref f9))) (l9 : K.lookup f9 = some ⟨oc9, od9, .func (PySem.W.fnOf "facts_of" "facts_of" (defArgs sm_facts_of) (defBody sm_facts_of) (defScope sm_facts_of) .none kV9 dc9 pm9 an9 cd9 ct9), sl9⟩) (c9 : PySem.W.codeIn K cd9 "facts_of" = true) (k9 : PySem.W.keepIn K (.ref f9) = true)
    (a10 : PySem.W.nsIn K mainGlobals "ascending" = some (some (.ref f10))) (l10 : K.lookup f10 = some ⟨oc10, od10, .func (PySem.W.fnOf "ascending" "ascending" (defArgs sm_ascending) (defBody sm_ascending) (defScope sm_ascending) .none kV10 dc10 pm10 an10 cd10 ct10), sl10⟩) (c10 : PySem.W.codeIn K cd10 "ascending" = true) (k10 : PySem.W.keepIn K (.ref f10) = true)
    (a11 : PySem.W.nsIn K mainGlobals "check_labels_once" = some (some (.ref f11))) (l11 : K.lookup f11 = some ⟨oc11, od11, .func (PySem.W.fnOf "check_labels_once" "check_labels_once" (defArgs sm_check_labels_once) (defBody sm_check_labels_once) (defScope sm_check_labels_once) .none kV11 dc11 pm11 an11 cd11 ct11), sl11⟩) (c11 : PySem.W.codeIn K cd11 "check_labels_once" = true) (k11 : PySem.W.keepIn K (.ref f11) = true)
    (a12 : PySem.W.nsIn K mainGlobals "book_of" = some (some (.ref f12))) (l12 : K.lookup f12 = some ⟨oc12, od12, .func (PySem.W.fnOf "book_of" "book_of" (defArgs sm_book_of) (defBody sm_book_of) (defScope sm_book_of) .none kV12 dc12 pm12 an12 cd12 ct12), sl12⟩) (c12 : PySem.W.codeIn K cd12 "book_of" = true) (k12 : PySem.W.keepIn K (.ref f12) = true)
    (a13 : PySem.W.nsIn K mainGlobals "steps_of" = some (some (.ref f13))) (l13 : K.lookup f13 = some ⟨oc13, od13, .func (PySem.W.fnOf "steps_of" "steps_of" (defArgs sm_steps_of) (defBody sm_steps_of) (defScope sm_steps_of) .none kV13 dc13 pm13 an13 cd13 ct13), sl13⟩) (c13 : PySem.W.codeIn K cd13 "steps_of" = true) (k13 : PySem.W.keepIn K (.ref f13) = true)
    (a14 : PySem.W.nsIn K mainGlobals "next_labels" = some (some (.ref f14))) (l14 : K.lookup f14 = some ⟨oc14, od14, .func (PySem.W.fnOf "next_labels" "next_labels" (defArgs sm_next_labels) (defBody sm_next_labels) (defScope sm_next_labels) .none kV14 dc14 pm14 an14 cd14 ct14), sl14⟩) (c14 : PySem.W.codeIn K cd14 "next_labels" = true) (k14 : PySem.W.keepIn K (.ref f14) = true)
    (a15 : PySem.W.nsIn K mainGlobals "first_gates" = some (some (.ref f15))) (l15 : K.lookup f15 = some ⟨oc15, od15, .func (PySem.W.fnOf "first_gates" "first_gates" (defArgs sm_first_gates) (defBody sm_first_gates) (defScope sm_first_gates) .none kV15 dc15 pm15 an15 cd15 ct15), sl15⟩) (c15 : PySem.W.codeIn K cd15 "first_gates" = true) (k15 : PySem.W.keepIn K (.ref f15) = true)
    (a16 : PySem.W.nsIn K mainGlobals "gates_behind" = some (some (.ref f16))) (l16 : K.lookup f16 = some ⟨oc16, od16, .func (PySem.W.fnOf "gates_behind" "gates_behind" (defArgs sm_gates_behind) (defBody sm_gates_behind) (defScope sm_gates_behind) .none kV16 dc16 pm16 an16 cd16 ct16), sl16⟩) (c16 : PySem.W.codeIn K cd16 "gates_behind" = true) (k16 : PySem.W.keepIn K (.ref f16) = true)
    (a17 : PySem.W.nsIn K mainGlobals "explored" = some (some (.ref f17))) (l17 : K.lookup f17 = some ⟨oc17, od17, .func (PySem.W.fnOf "explored" "explored" (defArgs sm_explored) (defBody sm_explored) (defScope sm_explored) .none kV17 dc17 pm17 an17 cd17 ct17), sl17⟩) (c17 : PySem.W.codeIn K cd17 "explored" = true) (k17 : PySem.W.keepIn K (.ref f17) = true)
    (a18 : PySem.W.nsIn K mainGlobals "ends_of" = some (some (.ref f18))) (l18 : K.lookup f18 = some ⟨oc18, od18, .func (PySem.W.fnOf "ends_of" "ends_of" (defArgs sm_ends_of) (defBody sm_ends_of) (defScope sm_ends_of) .none kV18 dc18 pm18 an18 cd18 ct18), sl18⟩) (c18 : PySem.W.codeIn K cd18 "ends_of" = true) (k18 : PySem.W.keepIn K (.ref f18) = true)
    (a19 : PySem.W.nsIn K mainGlobals "pairs_joined" = some (some (.ref f19))) (l19 : K.lookup f19 = some ⟨oc19, od19, .func (PySem.W.fnOf "pairs_joined" "pairs_joined" (defArgs sm_pairs_joined) (defBody sm_pairs_joined) (defScope sm_pairs_joined) .none kV19 dc19 pm19 an19 cd19 ct19), sl19⟩) (c19 : PySem.W.codeIn K cd19 "pairs_joined" = true) (k19 : PySem.W.keepIn K (.ref f19) = true)
    (a20 : PySem.W.nsIn K mainGlobals "index_of" = some (some (.ref f20))) (l20 : K.lookup f20 = some ⟨oc20, od20, .func (PySem.W.fnOf "index_of" "index_of" (defArgs sm_index_of) (defBody sm_index_of) (defScope sm_index_of) .none kV20 dc20 pm20 an20 cd20 ct20), sl20⟩) (c20 : PySem.W.codeIn K cd20 "index_of" = true) (k20 : PySem.W.keepIn K (.ref f20) = true)
    (a21 : PySem.W.nsIn K mainGlobals "_law_begin" = some (some (.ref f21))) (l21 : K.lookup f21 = some ⟨oc21, od21, .func (PySem.W.fnOf "_law_begin" "_law_begin" (defArgs sm_law_begin) (defBody sm_law_begin) (defScope sm_law_begin) .none kV21 dc21 pm21 an21 cd21 ct21), sl21⟩) (c21 : PySem.W.codeIn K cd21 "_law_begin" = true) (k21 : PySem.W.keepIn K (.ref f21) = true)
    (a22 : PySem.W.nsIn K mainGlobals "_law_draw" = some (some (.ref f22))) (l22 : K.lookup f22 = some ⟨oc22, od22, .func (PySem.W.fnOf "_law_draw" "_law_draw" (defArgs sm_law_draw) (defBody sm_law_draw) (defScope sm_law_draw) .none kV22 dc22 pm22 an22 cd22 ct22), sl22⟩) (c22 : PySem.W.codeIn K cd22 "_law_draw" = true) (k22 : PySem.W.keepIn K (.ref f22) = true)
    (a23 : PySem.W.nsIn K mainGlobals "_law_pick" = some (some (.ref f23))) (l23 : K.lookup f23 = some ⟨oc23, od23, .func (PySem.W.fnOf "_law_pick" "_law_pick" (defArgs sm_law_pick) (defBody sm_law_pick) (defScope sm_law_pick) .none kV23 dc23 pm23 an23 cd23 ct23), sl23⟩) (c23 : PySem.W.codeIn K cd23 "_law_pick" = true) (k23 : PySem.W.keepIn K (.ref f23) = true)
    (a24 : PySem.W.nsIn K mainGlobals "_law_pop" = some (some (.ref f24))) (l24 : K.lookup f24 = some ⟨oc24, od24, .func (PySem.W.fnOf "_law_pop" "_law_pop" (defArgs sm_law_pop) (defBody sm_law_pop) (defScope sm_law_pop) .none kV24 dc24 pm24 an24 cd24 ct24), sl24⟩) (c24 : PySem.W.codeIn K cd24 "_law_pop" = true) (k24 : PySem.W.keepIn K (.ref f24) = true)
    (a25 : PySem.W.nsIn K mainGlobals "_law_rare" = some (some (.ref f25))) (l25 : K.lookup f25 = some ⟨oc25, od25, .func (PySem.W.fnOf "_law_rare" "_law_rare" (defArgs sm_law_rare) (defBody sm_law_rare) (defScope sm_law_rare) .none kV25 dc25 pm25 an25 cd25 ct25), sl25⟩) (c25 : PySem.W.codeIn K cd25 "_law_rare" = true) (k25 : PySem.W.keepIn K (.ref f25) = true)
    (a26 : PySem.W.nsIn K mainGlobals "_law_shuffled" = some (some (.ref f26))) (l26 : K.lookup f26 = some ⟨oc26, od26, .func (PySem.W.fnOf "_law_shuffled" "_law_shuffled" (defArgs sm_law_shuffled) (defBody sm_law_shuffled) (defScope sm_law_shuffled) .none kV26 dc26 pm26 an26 cd26 ct26), sl26⟩) (c26 : PySem.W.codeIn K cd26 "_law_shuffled" = true) (k26 : PySem.W.keepIn K (.ref f26) = true)
    (a27 : PySem.W.nsIn K mainGlobals "_law_pool" = some (some (.ref f27))) (l27 : K.lookup f27 = some ⟨oc27, od27, .func (PySem.W.fnOf "_law_pool" "_law_pool" (defArgs sm_law_pool) (defBody sm_law_pool) (defScope sm_law_pool) .none kV27 dc27 pm27 an27 cd27 ct27), sl27⟩) (c27 : PySem.W.codeIn K cd27 "_law_pool" = true) (k27 : PySem.W.keepIn K (.ref f27) = true)
    (a28 : PySem.W.nsIn K mainGlobals "_law_is_int" = some (some (.ref f28))) (l28 : K.lookup f28 = some ⟨oc28, od28, .func (PySem.W.fnOf "_law_is_int" "_law_is_int" (defArgs sm_law_is_int) (defBody sm_law_is_int) (defScope sm_law_is_int) .none kV28 dc28 pm28 an28 cd28 ct28), sl28⟩) (c28 : PySem.W.codeIn K cd28 "_law_is_int" = true) (k28 : PySem.W.keepIn K (.ref f28) = true)
    (a29 : PySem.W.nsIn K mainGlobals "_law_first" = some (some (.ref f29))) (l29 : K.lookup f29 = some ⟨oc29, od29, .func (PySem.W.fnOf "_law_first" "_law_first" (defArgs sm_law_first) (defBody sm_law_first) (defScope sm_law_first) .none kV29 dc29 pm29 an29 cd29 ct29), sl29⟩) (c29 : PySem.W.codeIn K cd29 "_law_first" = true) (k29 : PySem.W.keepIn K (.ref f29) = true)
    (a30 : PySem.W.nsIn K mainGlobals "_law_nodes" = some (some (.ref f30))) (l30 : K.lookup f30 = some ⟨oc30, od30, .func (PySem.W.fnOf "_law_nodes" "_law_nodes" (defArgs sm_law_nodes) (defBody sm_law_nodes) (defScope sm_law_nodes) .none kV30 dc30 pm30 an30 cd30 ct30), sl30⟩) (c30 : PySem.W.codeIn K cd30 "_law_nodes" = true) (k30 : PySem.W.keepIn K (.ref f30) = true)
    (a31 : PySem.W.nsIn K mainGlobals "_law_let" = some (some (.ref f31))) (l31 : K.lookup f31 = some ⟨oc31, od31, .func (PySem.W.fnOf "_law_let" "_law_let" (defArgs sm_law_let) (defBody sm_law_let) (defScope sm_law_let) .none kV31 dc31 pm31 an31 cd31 ct31), sl31⟩) (c31 : PySem.W.codeIn K cd31 "_law_let" = true) (k31 : PySem.W.keepIn K (.ref f31) = true)
    (a32 : PySem.W.nsIn K mainGlobals "_law_schema" = some (some (.ref f32))) (l32 : K.lookup f32 = some ⟨oc32, od32, .func (PySem.W.fnOf "_law_schema" "_law_schema" (defArgs sm_law_schema) (defBody sm_law_schema) (defScope sm_law_schema) .none kV32 dc32 pm32 an32 cd32 ct32), sl32⟩) (c32 : PySem.W.codeIn K cd32 "_law_schema" = true) (k32 : PySem.W.keepIn K (.ref f32) = true)
    (a33 : PySem.W.nsIn K mainGlobals "_law_held_by" = some (some (.ref f33))) (l33 : K.lookup f33 = some ⟨oc33, od33, .func (PySem.W.fnOf "_law_held_by" "_law_held_by" (defArgs sm_law_held_by) (defBody sm_law_held_by) (defScope sm_law_held_by) .none kV33 dc33 pm33 an33 cd33 ct33), sl33⟩) (c33 : PySem.W.codeIn K cd33 "_law_held_by" = true) (k33 : PySem.W.keepIn K (.ref f33) = true)
    (a34 : PySem.W.nsIn K mainGlobals "_law_graph" = some (some (.ref f34))) (l34 : K.lookup f34 = some ⟨oc34, od34, .func (PySem.W.fnOf "_law_graph" "_law_graph" (defArgs sm_law_graph) (defBody sm_law_graph) (defScope sm_law_graph) .none kV34 dc34 pm34 an34 cd34 ct34), sl34⟩) (c34 : PySem.W.codeIn K cd34 "_law_graph" = true) (k34 : PySem.W.keepIn K (.ref f34) = true)
    (a35 : PySem.W.nsIn K mainGlobals "_law_step" = some (some (.ref f35))) (l35 : K.lookup f35 = some ⟨oc35, od35, .func (PySem.W.fnOf "_law_step" "_law_step" (defArgs sm_law_step) (defBody sm_law_step) (defScope sm_law_step) .none kV35 dc35 pm35 an35 cd35 ct35), sl35⟩) (c35 : PySem.W.codeIn K cd35 "_law_step" = true) (k35 : PySem.W.keepIn K (.ref f35) = true)
    (a36 : PySem.W.nsIn K mainGlobals "_law_expression" = some (some (.ref f36))) (l36 : K.lookup f36 = some ⟨oc36, od36, .func (PySem.W.fnOf "_law_expression" "_law_expression" (defArgs sm_law_expression) (defBody sm_law_expression) (defScope sm_law_expression) .none kV36 dc36 pm36 an36 cd36 ct36), sl36⟩) (c36 : PySem.W.codeIn K cd36 "_law_expression" = true) (k36 : PySem.W.keepIn K (.ref f36) = true)
    (a37 : PySem.W.nsIn K mainGlobals "_law_letters" = some (some (.ref f37))) (l37 : K.lookup f37 = some ⟨oc37, od37, .func (PySem.W.fnOf "_law_letters" "_law_letters" (defArgs sm_law_letters) (defBody sm_law_letters) (defScope sm_law_letters) .none kV37 dc37 pm37 an37 cd37 ct37), sl37⟩) (c37 : PySem.W.codeIn K cd37 "_law_letters" = true) (k37 : PySem.W.keepIn K (.ref f37) = true)
    (a38 : PySem.W.nsIn K mainGlobals "_law_pairs" = some (some (.ref f38))) (l38 : K.lookup f38 = some ⟨oc38, od38, .func (PySem.W.fnOf "_law_pairs" "_law_pairs" (defArgs sm_law_pairs) (defBody sm_law_pairs) (defScope sm_law_pairs) .none kV38 dc38 pm38 an38 cd38 ct38), sl38⟩) (c38 : PySem.W.codeIn K cd38 "_law_pairs" = true) (k38 : PySem.W.keepIn K (.ref f38) = true)
    (a39 : PySem.W.nsIn K mainGlobals "_law_facts" = some (some (.ref f39))) (l39 : K.lookup f39 = some ⟨oc39, od39, .func (PySem.W.fnOf "_law_facts" "_law_facts" (defArgs sm_law_facts) (defBody sm_law_facts) (defScope sm_law_facts) .none kV39 dc39 pm39 an39 cd39 ct39), sl39⟩) (c39 : PySem.W.codeIn K cd39 "_law_facts" = true) (k39 : PySem.W.keepIn K (.ref f39) = true)
    (a40 : PySem.W.nsIn K mainGlobals "_law_up" = some (some (.ref f40))) (l40 : K.lookup f40 = some ⟨oc40, od40, .func (PySem.W.fnOf "_law_up" "_law_up" (defArgs sm_law_up) (defBody sm_law_up) (defScope sm_law_up) .none kV40 dc40 pm40 an40 cd40 ct40), sl40⟩) (c40 : PySem.W.codeIn K cd40 "_law_up" = true) (k40 : PySem.W.keepIn K (.ref f40) = true)
    (a41 : PySem.W.nsIn K mainGlobals "_law_book" = some (some (.ref f41))) (l41 : K.lookup f41 = some ⟨oc41, od41, .func (PySem.W.fnOf "_law_book" "_law_book" (defArgs sm_law_book) (defBody sm_law_book) (defScope sm_law_book) .none kV41 dc41 pm41 an41 cd41 ct41), sl41⟩) (c41 : PySem.W.codeIn K cd41 "_law_book" = true) (k41 : PySem.W.keepIn K (.ref f41) = true)
    (a42 : PySem.W.nsIn K mainGlobals "_law_back" = some (some (.ref f42))) (l42 : K.lookup f42 = some ⟨oc42, od42, .func (PySem.W.fnOf "_law_back" "_law_back" (defArgs sm_law_back) (defBody sm_law_back) (defScope sm_law_back) .none kV42 dc42 pm42 an42 cd42 ct42), sl42⟩) (c42 : PySem.W.codeIn K cd42 "_law_back" = true) (k42 : PySem.W.keepIn K (.ref f42) = true)
    (a43 : PySem.W.nsIn K mainGlobals "_law_walk" = some (some (.ref f43))) (l43 : K.lookup f43 = some ⟨oc43, od43, .func (PySem.W.fnOf "_law_walk" "_law_walk" (defArgs sm_law_walk) (defBody sm_law_walk) (defScope sm_law_walk) .none kV43 dc43 pm43 an43 cd43 ct43), sl43⟩) (c43 : PySem.W.codeIn K cd43 "_law_walk" = true) (k43 : PySem.W.keepIn K (.ref f43) = true)
    (a44 : PySem.W.nsIn K mainGlobals "_law_gates" = some (some (.ref f44))) (l44 : K.lookup f44 = some ⟨oc44, od44, .func (PySem.W.fnOf "_law_gates" "_law_gates" (defArgs sm_law_gates) (defBody sm_law_gates) (defScope sm_law_gates) .none kV44 dc44 pm44 an44 cd44 ct44), sl44⟩) (c44 : PySem.W.codeIn K cd44 "_law_gates" = true) (k44 : PySem.W.keepIn K (.ref f44) = true)
    (a45 : PySem.W.nsIn K mainGlobals "_law_states" = some (some (.ref f45))) (l45 : K.lookup f45 = some ⟨oc45, od45, .func (PySem.W.fnOf "_law_states" "_law_states" (defArgs sm_law_states) (defBody sm_law_states) (defScope sm_law_states) .none kV45 dc45 pm45 an45 cd45 ct45), sl45⟩) (c45 : PySem.W.codeIn K cd45 "_law_states" = true) (k45 : PySem.W.keepIn K (.ref f45) = true)
    (a46 : PySem.W.nsIn K mainGlobals "_law_ends_there" = some (some (.ref f46))) (l46 : K.lookup f46 = some ⟨oc46, od46, .func (PySem.W.fnOf "_law_ends_there" "_law_ends_there" (defArgs sm_law_ends_there) (defBody sm_law_ends_there) (defScope sm_law_ends_there) .none kV46 dc46 pm46 an46 cd46 ct46), sl46⟩) (c46 : PySem.W.codeIn K cd46 "_law_ends_there" = true) (k46 : PySem.W.keepIn K (.ref f46) = true)
    (a47 : PySem.W.nsIn K mainGlobals "_law_same" = some (some (.ref f47))) (l47 : K.lookup f47 = some ⟨oc47, od47, .func (PySem.W.fnOf "_law_same" "_law_same" (defArgs sm_law_same) (defBody sm_law_same) (defScope sm_law_same) .none kV47 dc47 pm47 an47 cd47 ct47), sl47⟩) (c47 : PySem.W.codeIn K cd47 "_law_same" = true) (k47 : PySem.W.keepIn K (.ref f47) = true)
    (a48 : PySem.W.nsIn K mainGlobals "_law_chained" = some (some (.ref f48))) (l48 : K.lookup f48 = some ⟨oc48, od48, .func (PySem.W.fnOf "_law_chained" "_law_chained" (defArgs sm_law_chained) (defBody sm_law_chained) (defScope sm_law_chained) .none kV48 dc48 pm48 an48 cd48 ct48), sl48⟩) (c48 : PySem.W.codeIn K cd48 "_law_chained" = true) (k48 : PySem.W.keepIn K (.ref f48) = true)
    (a49 : PySem.W.nsIn K mainGlobals "_law_joins" = some (some (.ref f49))) (l49 : K.lookup f49 = some ⟨oc49, od49, .func (PySem.W.fnOf "_law_joins" "_law_joins" (defArgs sm_law_joins) (defBody sm_law_joins) (defScope sm_law_joins) .none kV49 dc49 pm49 an49 cd49 ct49), sl49⟩) (c49 : PySem.W.codeIn K cd49 "_law_joins" = true) (k49 : PySem.W.keepIn K (.ref f49) = true)
    (a50 : PySem.W.nsIn K mainGlobals "_law_index" = some (some (.ref f50))) (l50 : K.lookup f50 = some ⟨oc50, od50, .func (PySem.W.fnOf "_law_index" "_law_index" (defArgs sm_law_index) (defBody sm_law_index) (defScope sm_law_index) .none kV50 dc50 pm50 an50 cd50 ct50), sl50⟩) (c50 : PySem.W.codeIn K cd50 "_law_index" = true) (k50 : PySem.W.keepIn K (.ref f50) = true)
    (a51 : PySem.W.nsIn K mainGlobals "law" = some (some (.ref f51))) (l51 : K.lookup f51 = some ⟨oc51, od51, .func (PySem.W.fnOf "law" "law" (defArgs sm_law) (defBody sm_law) (defScope sm_law) .none kV51 dc51 pm51 an51 cd51 ct51), sl51⟩) (c51 : PySem.W.codeIn K cd51 "law" = true) (k51 : PySem.W.keepIn K (.ref f51) = true)
    {tk0 : Tok} (e0 : PySem.W.nsIn K mainGlobals "MOST_STEPS" = some (some (.int 8 tk0)))
    (z0 : PySem.W.nsIn K mainGlobals "abs" = some none)
    (z1 : PySem.W.nsIn K mainGlobals "all" = some none)
    (z2 : PySem.W.nsIn K mainGlobals "bool" = some none)
    (z3 : PySem.W.nsIn K mainGlobals "int" = some none)
    (z4 : PySem.W.nsIn K mainGlobals "isinstance" = some none)
    (z5 : PySem.W.nsIn K mainGlobals "len" = some none)
    (z6 : PySem.W.nsIn K mainGlobals "list" = some none)
    (z7 : PySem.W.nsIn K mainGlobals "range" = some none)
    (z8 : PySem.W.nsIn K mainGlobals "set" = some none)
    (z9 : PySem.W.nsIn K mainGlobals "sorted" = some none)
    (z10 : PySem.W.nsIn K mainGlobals "str" = some none)
    (z11 : PySem.W.nsIn K mainGlobals "sum" = some none)
    (z12 : PySem.W.nsIn K mainGlobals "tuple" = some none) :
    ∃ fd : FuncData, (∀ (s : Shared) (v : Value), BindsTo s fd ⟨[v], []⟩ [("_law_script", v)]) ∧ ∀ base : Heap, K.In base → base.Ns mainGlobals mg → FnOk l.prog w K mg base CX0 75 fa fd ["_law_script"] (spF K m_law) := by
  have e := hfa.symm.trans (PySem.W.mg_of X G a51)
  cases e
  have F0 := fun_mk (st := sm_first_node) l0 c0 k0
  have b0 := F0.binds (ps := ["schema", "kind"]) fun _ _ _ _ _ _ us hl => match us, hl with | [_, _], _ => rfl
  have F1 := fun_mk (st := sm_nodes_of) l1 c1 k1
  have b1 := F1.binds (ps := ["schema", "kind"]) fun _ _ _ _ _ _ us hl => match us, hl with | [_, _], _ => rfl
  have F2 := fun_mk (st := sm_has_node) l2 c2 k2
  have b2 := F2.binds (ps := ["schema", "kind", "node"]) fun _ _ _ _ _ _ us hl => match us, hl with | [_, _, _], _ => rfl
  have F3 := fun_mk (st := sm_walk_ends) l3 c3 k3
  have b3 := F3.binds (ps := ["letter", "edge"]) fun _ _ _ _ _ _ us hl => match us, hl with | [_, _], _ => rfl
  have F4 := fun_mk (st := sm_letters_by_label) l4 c4 k4
  have b4 := F4.binds (ps := ["book"]) fun _ _ _ _ _ _ us hl => match us, hl with | [_], _ => rfl
  have F5 := fun_mk (st := sm_labels_of) l5 c5 k5
  have b5 := F5.binds (ps := ["expression"]) fun _ _ _ _ _ _ us hl => match us, hl with | [_], _ => rfl
  have F6 := fun_mk (st := sm_letters_in) l6 c6 k6
  have b6 := F6.binds (ps := ["expression"]) fun _ _ _ _ _ _ us hl => match us, hl with | [_], _ => rfl
  have F7 := fun_mk (st := sm_pairs_between) l7 c7 k7
  have b7 := F7.binds (ps := ["lasts", "firsts"]) fun _ _ _ _ _ _ us hl => match us, hl with | [_, _], _ => rfl
  have F8 := fun_mk (st := sm_then_facts) l8 c8 k8
  have b8 := F8.binds (ps := ["left", "right"]) fun _ _ _ _ _ _ us hl => match us, hl with | [_, _], _ => rfl
  have F9 := fun_mk (st := sm_facts_of) l9 c9 k9
  have b9 := F9.binds (ps := ["expression"]) fun _ _ _ _ _ _ us hl => match us, hl with | [_], _ => rfl
  have F10 := fun_mk (st := sm_ascending) l10 c10 k10
  have b10 := F10.binds (ps := ["things"]) fun _ _ _ _ _ _ us hl => match us, hl with | [_], _ => rfl
  have F11 := fun_mk (st := sm_check_labels_once) l11 c11 k11
  have b11 := F11.binds (ps := ["schema", "labels"]) fun _ _ _ _ _ _ us hl => match us, hl with | [_, _], _ => rfl
  have F12 := fun_mk (st := sm_book_of) l12 c12 k12
  have b12 := F12.binds (ps := ["schema", "expression"]) fun _ _ _ _ _ _ us hl => match us, hl with | [_, _], _ => rfl
  have F13 := fun_mk (st := sm_steps_of) l13 c13 k13
  have b13 := F13.binds (ps := ["book", "graph"]) fun _ _ _ _ _ _ us hl => match us, hl with | [_, _], _ => rfl
  have F14 := fun_mk (st := sm_next_labels) l14 c14 k14
  have b14 := F14.binds (ps := ["book"]) fun _ _ _ _ _ _ us hl => match us, hl with | [_], _ => rfl
  have F15 := fun_mk (st := sm_first_gates) l15 c15 k15
  have b15 := F15.binds (ps := ["book", "x"]) fun _ _ _ _ _ _ us hl => match us, hl with | [_, _], _ => rfl
  have F16 := fun_mk (st := sm_gates_behind) l16 c16 k16
  have b16 := F16.binds (ps := ["nexts", "state"]) fun _ _ _ _ _ _ us hl => match us, hl with | [_, _], _ => rfl
  have F17 := fun_mk (st := sm_explored) l17 c17 k17
  have b17 := F17.binds (ps := ["book", "steps", "x"]) fun _ _ _ _ _ _ us hl => match us, hl with | [_, _, _], _ => rfl
  have F18 := fun_mk (st := sm_ends_of) l18 c18 k18
  have b18 := F18.binds (ps := ["book", "x", "states"]) fun _ _ _ _ _ _ us hl => match us, hl with | [_, _, _], _ => rfl
  have F19 := fun_mk (st := sm_pairs_joined) l19 c19 k19
  have b19 := F19.binds (ps := ["graph", "book", "sources"]) fun _ _ _ _ _ _ us hl => match us, hl with | [_, _, _], _ => rfl
  have F20 := fun_mk (st := sm_index_of) l20 c20 k20
  have b20 := F20.binds (ps := ["schema", "graph", "expression", "start", "end"]) fun _ _ _ _ _ _ us hl => match us, hl with | [_, _, _, _, _], _ => rfl
  have F21 := fun_mk (st := sm_law_begin) l21 c21 k21
  have b21 := F21.binds (ps := ["_law_script"]) fun _ _ _ _ _ _ us hl => match us, hl with | [_], _ => rfl
  have F22 := fun_mk (st := sm_law_draw) l22 c22 k22
  have b22 := F22.binds (ps := ["_law_d", "_law_many"]) fun _ _ _ _ _ _ us hl => match us, hl with | [_, _], _ => rfl
  have F23 := fun_mk (st := sm_law_pick) l23 c23 k23
  have b23 := F23.binds (ps := ["_law_d", "_law_row"]) fun _ _ _ _ _ _ us hl => match us, hl with | [_, _], _ => rfl
  have F24 := fun_mk (st := sm_law_pop) l24 c24 k24
  have b24 := F24.binds (ps := ["_law_d", "_law_row"]) fun _ _ _ _ _ _ us hl => match us, hl with | [_, _], _ => rfl
  have F25 := fun_mk (st := sm_law_rare) l25 c25 k25
  have b25 := F25.binds (ps := ["_law_d", "_law_many"]) fun _ _ _ _ _ _ us hl => match us, hl with | [_, _], _ => rfl
  have F26 := fun_mk (st := sm_law_shuffled) l26 c26 k26
  have b26 := F26.binds (ps := ["_law_d", "_law_row"]) fun _ _ _ _ _ _ us hl => match us, hl with | [_, _], _ => rfl
  have F27 := fun_mk (st := sm_law_pool) l27 c27 k27
  have b27 := F27.binds (ps := []) fun _ _ _ _ _ _ us hl => match us, hl with | [], _ => rfl
  have F28 := fun_mk (st := sm_law_is_int) l28 c28 k28
  have b28 := F28.binds (ps := ["_law_thing"]) fun _ _ _ _ _ _ us hl => match us, hl with | [_], _ => rfl
  have F29 := fun_mk (st := sm_law_first) l29 c29 k29
  have b29 := F29.binds (ps := ["_law_schema_here", "_law_kind"]) fun _ _ _ _ _ _ us hl => match us, hl with | [_, _], _ => rfl
  have F30 := fun_mk (st := sm_law_nodes) l30 c30 k30
  have b30 := F30.binds (ps := ["_law_schema_here", "_law_kind"]) fun _ _ _ _ _ _ us hl => match us, hl with | [_, _], _ => rfl
  have F31 := fun_mk (st := sm_law_let) l31 c31 k31
  have b31 := F31.binds (ps := ["_law_schema_here", "_law_label"]) fun _ _ _ _ _ _ us hl => match us, hl with | [_, _], _ => rfl
  have F32 := fun_mk (st := sm_law_schema) l32 c32 k32
  have b32 := F32.binds (ps := ["_law_d", "_law_kinds", "_law_labels", "_law_most"]) fun _ _ _ _ _ _ us hl => match us, hl with | [_, _, _, _], _ => rfl
  have F33 := fun_mk (st := sm_law_held_by) l33 c33 k33
  have b33 := F33.binds (ps := ["_law_schema_here", "_law_graph_here", "_law_edge"]) fun _ _ _ _ _ _ us hl => match us, hl with | [_, _, _], _ => rfl
  have F34 := fun_mk (st := sm_law_graph) l34 c34 k34
  have b34 := F34.binds (ps := ["_law_d", "_law_schema_here", "_law_most"]) fun _ _ _ _ _ _ us hl => match us, hl with | [_, _, _], _ => rfl
  have F35 := fun_mk (st := sm_law_step) l35 c35 k35
  have b35 := F35.binds (ps := ["_law_d", "_law_schema_here", "_law_label"]) fun _ _ _ _ _ _ us hl => match us, hl with | [_, _, _], _ => rfl
  have F36 := fun_mk (st := sm_law_expression) l36 c36 k36
  have b36 := F36.binds (ps := ["_law_d", "_law_schema_here", "_law_labels"]) fun _ _ _ _ _ _ us hl => match us, hl with | [_, _, _], _ => rfl
  have F37 := fun_mk (st := sm_law_letters) l37 c37 k37
  have b37 := F37.binds (ps := ["_law_expression_here"]) fun _ _ _ _ _ _ us hl => match us, hl with | [_], _ => rfl
  have F38 := fun_mk (st := sm_law_pairs) l38 c38 k38
  have b38 := F38.binds (ps := ["_law_lasts", "_law_firsts"]) fun _ _ _ _ _ _ us hl => match us, hl with | [_, _], _ => rfl
  have F39 := fun_mk (st := sm_law_facts) l39 c39 k39
  have b39 := F39.binds (ps := ["_law_expression_here"]) fun _ _ _ _ _ _ us hl => match us, hl with | [_], _ => rfl
  have F40 := fun_mk (st := sm_law_up) l40 c40 k40
  have b40 := F40.binds (ps := ["_law_things"]) fun _ _ _ _ _ _ us hl => match us, hl with | [_], _ => rfl
  have F41 := fun_mk (st := sm_law_book) l41 c41 k41
  have b41 := F41.binds (ps := ["_law_expression_here"]) fun _ _ _ _ _ _ us hl => match us, hl with | [_], _ => rfl
  have F42 := fun_mk (st := sm_law_back) l42 c42 k42
  have b42 := F42.binds (ps := ["_law_book_here"]) fun _ _ _ _ _ _ us hl => match us, hl with | [_], _ => rfl
  have F43 := fun_mk (st := sm_law_walk) l43 c43 k43
  have b43 := F43.binds (ps := ["_law_back_here", "_law_edge"]) fun _ _ _ _ _ _ us hl => match us, hl with | [_, _], _ => rfl
  have F44 := fun_mk (st := sm_law_gates) l44 c44 k44
  have b44 := F44.binds (ps := ["_law_book_here", "_law_x", "_law_states_here"]) fun _ _ _ _ _ _ us hl => match us, hl with | [_, _, _], _ => rfl
  have F45 := fun_mk (st := sm_law_states) l45 c45 k45
  have b45 := F45.binds (ps := ["_law_graph_here", "_law_book_here", "_law_x"]) fun _ _ _ _ _ _ us hl => match us, hl with | [_, _, _], _ => rfl
  have F46 := fun_mk (st := sm_law_ends_there) l46 c46 k46
  have b46 := F46.binds (ps := ["_law_book_here", "_law_x", "_law_y", "_law_states_here"]) fun _ _ _ _ _ _ us hl => match us, hl with | [_, _, _, _], _ => rfl
  have F47 := fun_mk (st := sm_law_same) l47 c47 k47
  have b47 := F47.binds (ps := ["_law_told", "_law_due"]) fun _ _ _ _ _ _ us hl => match us, hl with | [_, _], _ => rfl
  have F48 := fun_mk (st := sm_law_chained) l48 c48 k48
  have b48 := F48.binds (ps := ["_law_d", "_law_kinds", "_law_labels", "_law_most"]) fun _ _ _ _ _ _ us hl => match us, hl with | [_, _, _, _], _ => rfl
  have F49 := fun_mk (st := sm_law_joins) l49 c49 k49
  have b49 := F49.binds (ps := ["_law_d", "_law_schema_here", "_law_labels"]) fun _ _ _ _ _ _ us hl => match us, hl with | [_, _, _], _ => rfl
  have F50 := fun_mk (st := sm_law_index) l50 c50 k50
  have b50 := F50.binds (ps := ["_law_schema_here", "_law_graph_here", "_law_told", "_law_start", "_law_end"]) fun _ _ _ _ _ _ us hl => match us, hl with | [_, _, _, _, _], _ => rfl
  have F51 := fun_mk (st := sm_law) l51 c51 k51
  have b51 := F51.binds (ps := ["_law_script"]) fun _ _ _ _ _ _ us hl => match us, hl with | [_], _ => rfl
  have T : Bl mg := ⟨PySem.W.mg_none_of X G z0, PySem.W.mg_none_of X G z1, PySem.W.mg_none_of X G z2, PySem.W.mg_none_of X G z3, PySem.W.mg_none_of X G z4, PySem.W.mg_none_of X G z5, PySem.W.mg_none_of X G z6, PySem.W.mg_none_of X G z7, PySem.W.mg_none_of X G z8, PySem.W.mg_none_of X G z9, PySem.W.mg_none_of X G z10, PySem.W.mg_none_of X G z11, PySem.W.mg_none_of X G z12⟩
  have C_MOST_STEPS : ∃ t, mg "MOST_STEPS" = some (.int 8 t) := ⟨_, PySem.W.mg_of X G e0⟩
  refine ⟨PySem.W.fnOf "law" "law" (defArgs sm_law) (defBody sm_law) (defScope sm_law) .none kV51 dc51 pm51 an51 cd51 ct51, fun s v => .of_eq rfl, fun base _ _ => ?_⟩
  have Hfirst_node := hm_first_node (Pg := l.prog) (w := w) (base := base) T F0 (PySem.W.mg_of X G a0) b0 
  have Hnodes_of := hm_nodes_of (Pg := l.prog) (w := w) (base := base) T F1 (PySem.W.mg_of X G a1) b1 Hfirst_node
  have Hhas_node := hm_has_node (Pg := l.prog) (w := w) (base := base) T F2 (PySem.W.mg_of X G a2) b2 Hfirst_node
  have Hwalk_ends := hm_walk_ends (Pg := l.prog) (w := w) (base := base) T F3 (PySem.W.mg_of X G a3) b3 
  have Hletters_by_label := hm_letters_by_label (Pg := l.prog) (w := w) (base := base) T F4 (PySem.W.mg_of X G a4) b4 
  have Hlabels_of := hm_labels_of (Pg := l.prog) (w := w) (base := base) T F5 (PySem.W.mg_of X G a5) b5  70
  have Hletters_in := hm_letters_in (Pg := l.prog) (w := w) (base := base) T F6 (PySem.W.mg_of X G a6) b6  70
  have Hpairs_between := hm_pairs_between (Pg := l.prog) (w := w) (base := base) T F7 (PySem.W.mg_of X G a7) b7 
  have Hthen_facts := hm_then_facts (Pg := l.prog) (w := w) (base := base) T F8 (PySem.W.mg_of X G a8) b8 Hpairs_between
  have Hfacts_of := hm_facts_of (Pg := l.prog) (w := w) (base := base) T F9 (PySem.W.mg_of X G a9) b9 Hpairs_between Hthen_facts 70
  have Hascending := hm_ascending (Pg := l.prog) (w := w) (base := base) T F10 (PySem.W.mg_of X G a10) b10 
  have Hcheck_labels_once := hm_check_labels_once (Pg := l.prog) (w := w) (base := base) T F11 (PySem.W.mg_of X G a11) b11 
  have Hbook_of := hm_book_of (Pg := l.prog) (w := w) (base := base) T F12 (PySem.W.mg_of X G a12) b12 Hascending Hcheck_labels_once Hfacts_of Hlabels_of Hletters_in C_MOST_STEPS
  have Hsteps_of := hm_steps_of (Pg := l.prog) (w := w) (base := base) T F13 (PySem.W.mg_of X G a13) b13 Hletters_by_label Hwalk_ends
  have Hnext_labels := hm_next_labels (Pg := l.prog) (w := w) (base := base) T F14 (PySem.W.mg_of X G a14) b14 
  have Hfirst_gates := hm_first_gates (Pg := l.prog) (w := w) (base := base) T F15 (PySem.W.mg_of X G a15) b15 
  have Hgates_behind := hm_gates_behind (Pg := l.prog) (w := w) (base := base) T F16 (PySem.W.mg_of X G a16) b16 
  have Hexplored := hm_explored (Pg := l.prog) (w := w) (base := base) T F17 (PySem.W.mg_of X G a17) b17 Hfirst_gates Hgates_behind Hnext_labels
  have Hends_of := hm_ends_of (Pg := l.prog) (w := w) (base := base) T F18 (PySem.W.mg_of X G a18) b18 
  have Hpairs_joined := hm_pairs_joined (Pg := l.prog) (w := w) (base := base) T F19 (PySem.W.mg_of X G a19) b19 Hends_of Hexplored Hsteps_of
  have Hindex_of := hm_index_of (Pg := l.prog) (w := w) (base := base) T F20 (PySem.W.mg_of X G a20) b20 Hbook_of Hhas_node Hnodes_of Hpairs_joined
  have H_law_begin := hm_law_begin (Pg := l.prog) (w := w) (base := base) T F21 (PySem.W.mg_of X G a21) b21 
  have H_law_draw := hm_law_draw (Pg := l.prog) (w := w) (base := base) T F22 (PySem.W.mg_of X G a22) b22 
  have H_law_pick := hm_law_pick (Pg := l.prog) (w := w) (base := base) T F23 (PySem.W.mg_of X G a23) b23 H_law_draw
  have H_law_pop := hm_law_pop (Pg := l.prog) (w := w) (base := base) T F24 (PySem.W.mg_of X G a24) b24 H_law_draw
  have H_law_rare := hm_law_rare (Pg := l.prog) (w := w) (base := base) T F25 (PySem.W.mg_of X G a25) b25 H_law_draw
  have H_law_shuffled := hm_law_shuffled (Pg := l.prog) (w := w) (base := base) T F26 (PySem.W.mg_of X G a26) b26 H_law_draw
  have H_law_pool := hm_law_pool (Pg := l.prog) (w := w) (base := base) T F27 (PySem.W.mg_of X G a27) b27 
  have H_law_is_int := hm_law_is_int (Pg := l.prog) (w := w) (base := base) T F28 (PySem.W.mg_of X G a28) b28 
  have H_law_first := hm_law_first (Pg := l.prog) (w := w) (base := base) T F29 (PySem.W.mg_of X G a29) b29 
  have H_law_nodes := hm_law_nodes (Pg := l.prog) (w := w) (base := base) T F30 (PySem.W.mg_of X G a30) b30 H_law_first
  have H_law_let := hm_law_let (Pg := l.prog) (w := w) (base := base) T F31 (PySem.W.mg_of X G a31) b31 H_law_nodes
  have H_law_schema := hm_law_schema (Pg := l.prog) (w := w) (base := base) T F32 (PySem.W.mg_of X G a32) b32 H_law_draw H_law_pool H_law_pop H_law_rare
  have H_law_held_by := hm_law_held_by (Pg := l.prog) (w := w) (base := base) T F33 (PySem.W.mg_of X G a33) b33 
  have H_law_graph := hm_law_graph (Pg := l.prog) (w := w) (base := base) T F34 (PySem.W.mg_of X G a34) b34 H_law_draw H_law_held_by H_law_let H_law_pick
  have H_law_step := hm_law_step (Pg := l.prog) (w := w) (base := base) T F35 (PySem.W.mg_of X G a35) b35 H_law_draw
  have H_law_expression := hm_law_expression (Pg := l.prog) (w := w) (base := base) T F36 (PySem.W.mg_of X G a36) b36 H_law_draw H_law_pick H_law_step
  have H_law_letters := hm_law_letters (Pg := l.prog) (w := w) (base := base) T F37 (PySem.W.mg_of X G a37) b37  70
  have H_law_pairs := hm_law_pairs (Pg := l.prog) (w := w) (base := base) T F38 (PySem.W.mg_of X G a38) b38 
  have H_law_facts := hm_law_facts (Pg := l.prog) (w := w) (base := base) T F39 (PySem.W.mg_of X G a39) b39 H_law_pairs 70
  have H_law_up := hm_law_up (Pg := l.prog) (w := w) (base := base) T F40 (PySem.W.mg_of X G a40) b40 
  have H_law_book := hm_law_book (Pg := l.prog) (w := w) (base := base) T F41 (PySem.W.mg_of X G a41) b41 H_law_facts H_law_letters H_law_up
  have H_law_back := hm_law_back (Pg := l.prog) (w := w) (base := base) T F42 (PySem.W.mg_of X G a42) b42 
  have H_law_walk := hm_law_walk (Pg := l.prog) (w := w) (base := base) T F43 (PySem.W.mg_of X G a43) b43 
  have H_law_gates := hm_law_gates (Pg := l.prog) (w := w) (base := base) T F44 (PySem.W.mg_of X G a44) b44 
  have H_law_states := hm_law_states (Pg := l.prog) (w := w) (base := base) T F45 (PySem.W.mg_of X G a45) b45 H_law_back H_law_gates H_law_walk
  have H_law_ends_there := hm_law_ends_there (Pg := l.prog) (w := w) (base := base) T F46 (PySem.W.mg_of X G a46) b46 
  have H_law_same := hm_law_same (Pg := l.prog) (w := w) (base := base) T F47 (PySem.W.mg_of X G a47) b47 H_law_is_int 70
  have H_law_chained := hm_law_chained (Pg := l.prog) (w := w) (base := base) T F48 (PySem.W.mg_of X G a48) b48 H_law_draw H_law_rare H_law_schema
  have H_law_joins := hm_law_joins (Pg := l.prog) (w := w) (base := base) T F49 (PySem.W.mg_of X G a49) b49 H_law_draw H_law_expression
  have H_law_index := hm_law_index (Pg := l.prog) (w := w) (base := base) T F50 (PySem.W.mg_of X G a50) b50 H_law_book H_law_ends_there H_law_nodes H_law_states
  exact hm_law (Pg := l.prog) (w := w) (base := base) T F51 H_law_begin H_law_chained H_law_draw H_law_graph H_law_index H_law_joins H_law_rare H_law_same H_law_shuffled Hindex_of
end ZL
open PyProof.Rows PySem PySem.W
set_option maxHeartbeats 0 in
theorem PySem.Challenge.cw_edgesaway_k54_indexes_holds : PySem.Challenge.rw_edgesaway_k54_indexes.Holds := by
  w_on; o_law; (k_head; (case hw => w_witness2))
  k_fill
  refine L2.walk_ofK (l := PySem.Challenge.rw_edgesaway_k54_indexes) (n := 63) (k := 75) (x := "_law_script") (CX := L2.CX0) (sp := fun K => Z.spF K ZL.m_law) rfl (by decide) rfl ⟨rfl, by decide, by decide⟩ (fun w h Y => PySem.W.kIn_of Y) ?F (fun K H a ns hl hO hS => by obtain ⟨r, hr⟩ := ZL.main ns hl; exact Z.sp_end hr hO hS) (fun _ _ _ _ h => h)
  case F =>
    intro w mg fa h KX G hmg
    refine' ZL.all_mk KX G hmg ?a0 ?l0 ?c0 ?k0 ?a1 ?l1 ?c1 ?k1 ?a2 ?l2 ?c2 ?k2 ?a3 ?l3 ?c3 ?k3 ?a4 ?l4 ?c4 ?k4 ?a5 ?l5 ?c5 ?k5 ?a6 ?l6 ?c6 ?k6 ?a7 ?l7 ?c7 ?k7 ?a8 ?l8 ?c8 ?k8 ?a9 ?l9 ?c9 ?k9 ?a10 ?l10 ?c10 ?k10 ?a11 ?l11 ?c11 ?k11 ?a12 ?l12 ?c12 ?k12 ?a13 ?l13 ?c13 ?k13 ?a14 ?l14 ?c14 ?k14 ?a15 ?l15 ?c15 ?k15 ?a16 ?l16 ?c16 ?k16 ?a17 ?l17 ?c17 ?k17 ?a18 ?l18 ?c18 ?k18 ?a19 ?l19 ?c19 ?k19 ?a20 ?l20 ?c20 ?k20 ?a21 ?l21 ?c21 ?k21 ?a22 ?l22 ?c22 ?k22 ?a23 ?l23 ?c23 ?k23 ?a24 ?l24 ?c24 ?k24 ?a25 ?l25 ?c25 ?k25 ?a26 ?l26 ?c26 ?k26 ?a27 ?l27 ?c27 ?k27 ?a28 ?l28 ?c28 ?k28 ?a29 ?l29 ?c29 ?k29 ?a30 ?l30 ?c30 ?k30 ?a31 ?l31 ?c31 ?k31 ?a32 ?l32 ?c32 ?k32 ?a33 ?l33 ?c33 ?k33 ?a34 ?l34 ?c34 ?k34 ?a35 ?l35 ?c35 ?k35 ?a36 ?l36 ?c36 ?k36 ?a37 ?l37 ?c37 ?k37 ?a38 ?l38 ?c38 ?k38 ?a39 ?l39 ?c39 ?k39 ?a40 ?l40 ?c40 ?k40 ?a41 ?l41 ?c41 ?k41 ?a42 ?l42 ?c42 ?k42 ?a43 ?l43 ?c43 ?k43 ?a44 ?l44 ?c44 ?k44 ?a45 ?l45 ?c45 ?k45 ?a46 ?l46 ?c46 ?k46 ?a47 ?l47 ?c47 ?k47 ?a48 ?l48 ?c48 ?k48 ?a49 ?l49 ?c49 ?k49 ?a50 ?l50 ?c50 ?k50 ?a51 ?l51 ?c51 ?k51 ?e0 ?z0 ?z1 ?z2 ?z3 ?z4 ?z5 ?z6 ?z7 ?z8 ?z9 ?z10 ?z11 ?z12
    (case a0 => k_is)
    (case l0 => k_is)
    (case c0 => k_is)
    (case k0 => k_is)
    (case a1 => k_is)
    (case l1 => k_is)
    (case c1 => k_is)
    (case k1 => k_is)
    (case a2 => k_is)
    (case l2 => k_is)
    (case c2 => k_is)
    (case k2 => k_is)
    (case a3 => k_is)
    (case l3 => k_is)
    (case c3 => k_is)
    (case k3 => k_is)
    (case a4 => k_is)
    (case l4 => k_is)
    (case c4 => k_is)
    (case k4 => k_is)
    (case a5 => k_is)
    (case l5 => k_is)
    (case c5 => k_is)
    (case k5 => k_is)
    (case a6 => k_is)
    (case l6 => k_is)
    (case c6 => k_is)
    (case k6 => k_is)
    (case a7 => k_is)
    (case l7 => k_is)
    (case c7 => k_is)
    (case k7 => k_is)
    (case a8 => k_is)
    (case l8 => k_is)
    (case c8 => k_is)
    (case k8 => k_is)
    (case a9 => k_is)
    (case l9 => k_is)
    (case c9 => k_is)
    (case k9 => k_is)
    (case a10 => k_is)
    (case l10 => k_is)
    (case c10 => k_is)
    (case k10 => k_is)
    (case a11 => k_is)
    (case l11 => k_is)
    (case c11 => k_is)
    (case k11 => k_is)
    (case a12 => k_is)
    (case l12 => k_is)
    (case c12 => k_is)
    (case k12 => k_is)
    (case a13 => k_is)
    (case l13 => k_is)
    (case c13 => k_is)
    (case k13 => k_is)
    (case a14 => k_is)
    (case l14 => k_is)
    (case c14 => k_is)
    (case k14 => k_is)
    (case a15 => k_is)
    (case l15 => k_is)
    (case c15 => k_is)
    (case k15 => k_is)
    (case a16 => k_is)
    (case l16 => k_is)
    (case c16 => k_is)
    (case k16 => k_is)
    (case a17 => k_is)
    (case l17 => k_is)
    (case c17 => k_is)
    (case k17 => k_is)
    (case a18 => k_is)
    (case l18 => k_is)
    (case c18 => k_is)
    (case k18 => k_is)
    (case a19 => k_is)
    (case l19 => k_is)
    (case c19 => k_is)
    (case k19 => k_is)
    (case a20 => k_is)
    (case l20 => k_is)
    (case c20 => k_is)
    (case k20 => k_is)
    (case a21 => k_is)
    (case l21 => k_is)
    (case c21 => k_is)
    (case k21 => k_is)
    (case a22 => k_is)
    (case l22 => k_is)
    (case c22 => k_is)
    (case k22 => k_is)
    (case a23 => k_is)
    (case l23 => k_is)
    (case c23 => k_is)
    (case k23 => k_is)
    (case a24 => k_is)
    (case l24 => k_is)
    (case c24 => k_is)
    (case k24 => k_is)
    (case a25 => k_is)
    (case l25 => k_is)
    (case c25 => k_is)
    (case k25 => k_is)
    (case a26 => k_is)
    (case l26 => k_is)
    (case c26 => k_is)
    (case k26 => k_is)
    (case a27 => k_is)
    (case l27 => k_is)
    (case c27 => k_is)
    (case k27 => k_is)
    (case a28 => k_is)
    (case l28 => k_is)
    (case c28 => k_is)
    (case k28 => k_is)
    (case a29 => k_is)
    (case l29 => k_is)
    (case c29 => k_is)
    (case k29 => k_is)
    (case a30 => k_is)
    (case l30 => k_is)
    (case c30 => k_is)
    (case k30 => k_is)
    (case a31 => k_is)
    (case l31 => k_is)
    (case c31 => k_is)
    (case k31 => k_is)
    (case a32 => k_is)
    (case l32 => k_is)
    (case c32 => k_is)
    (case k32 => k_is)
    (case a33 => k_is)
    (case l33 => k_is)
    (case c33 => k_is)
    (case k33 => k_is)
    (case a34 => k_is)
    (case l34 => k_is)
    (case c34 => k_is)
    (case k34 => k_is)
    (case a35 => k_is)
    (case l35 => k_is)
    (case c35 => k_is)
    (case k35 => k_is)
    (case a36 => k_is)
    (case l36 => k_is)
    (case c36 => k_is)
    (case k36 => k_is)
    (case a37 => k_is)
    (case l37 => k_is)
    (case c37 => k_is)
    (case k37 => k_is)
    (case a38 => k_is)
    (case l38 => k_is)
    (case c38 => k_is)
    (case k38 => k_is)
    (case a39 => k_is)
    (case l39 => k_is)
    (case c39 => k_is)
    (case k39 => k_is)
    (case a40 => k_is)
    (case l40 => k_is)
    (case c40 => k_is)
    (case k40 => k_is)
    (case a41 => k_is)
    (case l41 => k_is)
    (case c41 => k_is)
    (case k41 => k_is)
    (case a42 => k_is)
    (case l42 => k_is)
    (case c42 => k_is)
    (case k42 => k_is)
    (case a43 => k_is)
    (case l43 => k_is)
    (case c43 => k_is)
    (case k43 => k_is)
    (case a44 => k_is)
    (case l44 => k_is)
    (case c44 => k_is)
    (case k44 => k_is)
    (case a45 => k_is)
    (case l45 => k_is)
    (case c45 => k_is)
    (case k45 => k_is)
    (case a46 => k_is)
    (case l46 => k_is)
    (case c46 => k_is)
    (case k46 => k_is)
    (case a47 => k_is)
    (case l47 => k_is)
    (case c47 => k_is)
    (case k47 => k_is)
    (case a48 => k_is)
    (case l48 => k_is)
    (case c48 => k_is)
    (case k48 => k_is)
    (case a49 => k_is)
    (case l49 => k_is)
    (case c49 => k_is)
    (case k49 => k_is)
    (case a50 => k_is)
    (case l50 => k_is)
    (case c50 => k_is)
    (case k50 => k_is)
    (case a51 => k_is)
    (case l51 => k_is)
    (case c51 => k_is)
    (case k51 => k_is)
    (case e0 => k_is)
    (case z0 => k_is)
    (case z1 => k_is)
    (case z2 => k_is)
    (case z3 => k_is)
    (case z4 => k_is)
    (case z5 => k_is)
    (case z6 => k_is)
    (case z7 => k_is)
    (case z8 => k_is)
    (case z9 => k_is)
    (case z10 => k_is)
    (case z11 => k_is)
    (case z12 => k_is)

