import PyProof.Rows.All
import Wide.All
import OpenK.AllK
import Wide.FinOn
import PyProof.Rows.CellsNews
import PyProof.CompFree
import PyProof.ZipIter
import PyProof.Draws
import KE.BytesMake
import PyProof.ListIndexNeg
import Wide.BytesRules
import KE.BitLaws
import PyProof.DictWalks
import PyProof.Rows.DictListVals
import PyProof.DictRoadsH
import PyProof.Rows.EqMixed
import OpenK.KOwn
import PyProof.StationsW
import PyProof.ExcInit
import PyProof.InstStoreFacts
import PyProof.ExcBaseAll.Exception
import PyProof.Rows.SeqMore3
import KE.KRevSl
import PyProof.EnumMake
import PyProof.NeKinds
import PyProof.AttrMissHeap
import KE.KDictOf
import KE.KEqDict
import PyProof.Rows.TupDisplay
import PySem.Challenge.RW_qd0112_01
open PySem PySem.W PyProof.Rows PySem.Calls
set_option Elab.async false
set_option linter.all false
set_option maxRecDepth 100000
namespace Mine
noncomputable def PT (_ : Type) : Prop := True
/-- a lemma that changes nothing: its second half lets the build drop the tree of what a long proof showed on its way (memory) -/
theorem wk {P : Prop} (h : P) (_ : PT Nat → ∃ β : Type, (∀ n : Nat, (Option β → False) → n = 37) ∧ PT β) : P := h
local macro_rules | `(tactic| kct_strs) => `(tactic| (intro t; refine' ⟨_, ?_, ?_⟩; rotate_left; intro n k; simpa using k (0 : Nat); assumption))
/-! ### locals: a list of names and a vector of values -/
noncomputable def ix : List Str → Str → Option Nat
  | [], _ => none
  | n :: r, x => if x = n then some 0 else (ix r x).map Nat.succ
noncomputable def up (f : Nat → Option Value) (i : Nat) (v : Value) : Nat → Option Value := fun j => bif Nat.beq j i then some v else f j
noncomputable def lc (ns : List Str) (f : Nat → Option Value) : Str → Option Value := fun x => (ix ns x).bind f
theorem ix_inj : ∀ {ns : List Str} {x y : Str} {i : Nat}, ix ns x = some i → ix ns y = some i → x = y
  | [], _, _, _, h, _ => by cases h
  | n :: r, x, y, i, h1, h2 => by
    unfold ix at h1 h2
    by_cases hx : x = n
    · by_cases hy : y = n
      · rw [hx, hy]
      · rw [if_pos hx] at h1; rw [if_neg hy] at h2
        cases h1
        obtain ⟨j, _, hj⟩ := Option.map_eq_some_iff.mp h2
        cases hj
    · by_cases hy : y = n
      · rw [if_neg hx] at h1; rw [if_pos hy] at h2
        cases h2
        obtain ⟨j, _, hj⟩ := Option.map_eq_some_iff.mp h1
        cases hj
      · rw [if_neg hx] at h1; rw [if_neg hy] at h2
        obtain ⟨j, h3, rfl⟩ := Option.map_eq_some_iff.mp h1
        obtain ⟨k, h4, hk⟩ := Option.map_eq_some_iff.mp h2
        cases hk
        exact ix_inj h3 h4
theorem lc_get {ns : List Str} {f : Nat → Option Value} {x : Str} {i : Nat} (h : ix ns x = some i) : lc ns f x = f i := by
  unfold lc; rw [h]; rfl
theorem lc_up {ns : List Str} {f : Nat → Option Value} {x : Str} {i : Nat} {v : Value} (h : ix ns x = some i) :
    (fun y => if y = x then some v else lc ns f y) = lc ns (up f i v) := by
  refine wk ?_ ?_
  · funext y
    by_cases e : y = x
    · subst e
      rw [if_pos rfl, lc_get h]; unfold up; rw [show Nat.beq i i = true from Nat.beq_refl i]; rfl
    · rw [if_neg e]
      unfold lc
      cases q : ix ns y with
      | none => rfl
      | some j =>
        have hne : Nat.beq j i = false := by
          cases z : Nat.beq j i with
          | false => rfl
          | true => have := Nat.eq_of_beq_eq_true z; subst this; exact absurd (ix_inj q h) e
        show f j = up f i v j
        unfold up; rw [hne]; rfl
  kct_strs
inductive IxAt : List Str → Str → Nat → Prop
  | head {x r} : IxAt (x :: r) x 0
  | tail {x y r i} : IxAt r x i → IxAt (y :: r) x (i + 1)
theorem IxAt.mem {ns : List Str} {x : Str} {i : Nat} (h : IxAt ns x i) : x ∈ ns := by
  induction h with
  | head => exact .head _
  | tail _ ih => exact .tail _ ih
theorem IxAt.ix {ns : List Str} {x : Str} {i : Nat} (h : IxAt ns x i) (nd : ns.Nodup) : ix ns x = some i := by
  refine wk ?_ ?_
  · induction h with
    | head => unfold Mine.ix; rw [if_pos rfl]
    | tail hm ih =>
      rename_i x y r i
      have hn := List.nodup_cons.mp nd
      have hne : ¬ x = y := fun e => hn.1 (e ▸ hm.mem)
      unfold Mine.ix; rw [if_neg hne, ih hn.2]; rfl
  kct_strs
theorem lookup_zip : ∀ {ps rest : List Str} {vs : List Value} {x : Str}, ps.length = vs.length → (∀ y ∈ rest, y ∉ ps) → (ps.zip vs).lookup x = lc (ps ++ rest) (fun i => vs[i]?) x
  | [], rest, [], x, _, _ => by
    show none = (ix rest x).bind fun i => ([] : List Value)[i]?
    cases ix rest x <;> rfl
  | [], _, _ :: _, _, h, _ => by cases h
  | _ :: _, _, [], _, h, _ => by cases h
  | p :: ps, rest, v :: vs, x, h, hr => by
    rw [List.zip_cons_cons, List.lookup_cons]
    show _ = (ix (p :: (ps ++ rest)) x).bind _
    unfold ix
    by_cases e : x = p
    · subst e; simp
    · rw [if_neg e]
      have : (x == p) = false := by simpa using e
      rw [this]
      have ih := lookup_zip (ps := ps) (rest := rest) (vs := vs) (x := x) (by simpa using h) (fun y hy hp => hr y hy (.tail _ hp))
      show List.lookup x (ps.zip vs) = _
      rw [ih]
      unfold lc
      cases ix (ps ++ rest) x <;> rfl
theorem lookup_mem : ∀ {l : List (Str × Value)} {x : Str} {v : Value}, l.lookup x = some v → (x, v) ∈ l
  | [], _, _, q => by cases q
  | (a, b) :: r, x, v, q => by
    rw [List.lookup_cons] at q
    split at q
    · rename_i e; cases q; rw [beq_iff_eq.mp e]; exact .head _
    · exact .tail _ (lookup_mem q)
theorem mem_lookup {l : List (Str × Value)} {x : Str} {v : Value} : (l.map (·.1)).Nodup → (x, v) ∈ l → l.lookup x = some v := by
  refine wk ?_ ?_
  · induction l with
    | nil => intro _ hm; cases hm
    | cons p r ih =>
      obtain ⟨a, b⟩ := p
      intro nd hm
      rw [List.lookup_cons]
      have hn := List.nodup_cons.mp nd
      cases hm with
      | head => simp
      | tail _ h =>
        have hne : (x == a) = false := by
          have : x ≠ a := fun e => hn.1 (by rw [← e]; exact List.mem_map_of_mem (f := (·.1)) h)
          simpa using this
        rw [hne]; exact ih hn.2 h
  kct_strs
theorem lookup_rev {l : List (Str × Value)} {x : Str} (nd : (l.map (·.1)).Nodup) : l.reverse.lookup x = l.lookup x := by
  refine wk ?_ ?_
  · cases q : l.lookup x with
    | some v =>
      exact mem_lookup (by rw [List.map_reverse]; exact (List.reverse_perm _).nodup_iff.mpr nd) (List.mem_reverse.mpr (lookup_mem q))
    | none =>
      rw [List.lookup_eq_none_iff] at q ⊢
      intro p hp; exact q p (List.mem_reverse.mp hp)
  kct_strs
/-! ### the room, the ground, the environment, the state -/
structure Rm (A : Around) (n : Nat) : Prop where
  handled : A.handled = none
  depth : A.depth + n < 1000
  units : A.units + 12 * n < 9900
theorem Rm.mono {A : Around} {n k : Nat} (R : Rm A n) (h : k ≤ n) : Rm A k := ⟨R.handled, by have := R.depth; omega, by have := R.units; omega⟩
theorem Rm.deeper {A : Around} {n : Nat} {env : Env} (R : Rm A (n + 1)) : Rm (A.deeper env) n := ⟨R.handled, by have := R.depth; rw [depth_deeper]; omega, by have := R.units; rw [units_deeper]; omega⟩
theorem Rm.room {A : Around} {n : Nat} (R : Rm A n) : A.depth < recursionLimit := by have := R.depth; show A.depth < 1000; omega
theorem Rm.room' {A : Around} {n : Nat} (R : Rm A n) : A.units < cLine := by have := R.units; rw [cLine_is]; omega

structure GR (K : Frag) (h : Heap) : Prop where
  inK : K.In h
  top : ∃ p loose mg mb, TopRead p loose mg mb h
theorem GR.keeps {K : Frag} {h h' : Heap} (G : GR K h) (k : ∀ b o, h.get? b = some o → h'.get? b = some o) : GR K h' :=
  ⟨G.inK.keeps k, let ⟨p, l, mg, mb, T⟩ := G.top; ⟨p, l, mg, mb, T.keeps k⟩⟩

noncomputable def gnOk (K : Frag) (sc : Scope) (gns : List (Str × Value)) : Bool := gns.all fun p => sc.names.lookup p.1 == some .globalImplicit && nsIn K mainGlobals p.1 == some (some p.2)
noncomputable def bnOk (K : Frag) (sc : Scope) (bns : List (Str × Value)) : Bool := bns.all fun p => sc.names.lookup p.1 == some .globalImplicit && nsIn K mainGlobals p.1 == some none && bootBuiltins p.1 == some p.2 && p.1 != ("__name__" : Str)
/-- an environment of a plain def: its locals, the globals and the built-ins that it reads -/
structure EV (K : Frag) (env : Env) (L : Addr) (ns : List Str) (gns bns : List (Str × Value)) : Prop where
  kind : env.scope.kind = .function
  loc : env.locals = L
  glob : env.globals = mainGlobals
  bi : env.builtins = builtinsNs
  nd : ns.Nodup
  loc' : ∀ x ∈ ns, env.kindOf x = some .local
  g : gnOk K env.scope gns = true
  b : bnOk K env.scope bns = true
  dbg : ("__debug__" : Str) ∉ ns ∧ ("__debug__" : Str) ∉ gns.map (·.1) ∧ ("__debug__" : Str) ∉ bns.map (·.1)

/-- the state of a frame: b is its base, L the object of its locals, nw what it made -/
structure SF (b : Heap) (L : Addr) (h : Heap) (m : Str → Option Value) (nw : List (Addr × Obj)) : Prop where
  fr : Fr b L h m
  news : News b L h nw
  nd : (nw.map (·.1)).Nodup
theorem SF.keep {b : Heap} {L : Addr} {h : Heap} {m : Str → Option Value} {nw : List (Addr × Obj)} (S : SF b L h m nw) : ∀ a o, b.get? a = some o → h.get? a = some o := S.fr.keep
theorem SF.keeps {b : Heap} {L : Addr} {h h' : Heap} {m : Str → Option Value} {nw : List (Addr × Obj)} (S : SF b L h m nw) (k : ∀ a o, h.get? a = some o → h'.get? a = some o) : SF b L h' m nw :=
  ⟨⟨S.fr.ns.keeps k, fun a o e => k a o (S.fr.keep a o e), S.fr.above⟩, fun p hp => ⟨k _ _ (S.news p hp).1, (S.news p hp).2⟩, S.nd⟩
theorem SF.lt {b : Heap} {L : Addr} {h : Heap} {m : Str → Option Value} {nw : List (Addr × Obj)} (S : SF b L h m nw) : ∀ p ∈ nw, p.1 < h.objs.size := fun p hp => Heap.lt_size (S.news p hp).1
theorem SF.push {b : Heap} {L : Addr} {h : Heap} {m : Str → Option Value} {nw : List (Addr × Obj)} (S : SF b L h m nw) (o : Obj) (hf : o.isFreed = false) : SF b L (h.push o) m ((h.objs.size, o) :: nw) :=
  ⟨S.fr.push o, S.news.push S.fr o hf, List.nodup_cons.mpr ⟨fun hm => by
    obtain ⟨p, hp, e⟩ := List.mem_map.mp hm
    exact absurd (S.lt p hp) (by rw [e]; exact Nat.lt_irrefl _), S.nd⟩⟩
theorem SF.more {b : Heap} {L : Addr} {h h' : Heap} {m : Str → Option Value} {nw : List (Addr × Obj)} (S : SF b L h m nw) (k : ∀ a o, h.get? a = some o → h'.get? a = some o) {add : List (Addr × Obj)}
    (ha : ∀ p ∈ add, h'.get? p.1 = some p.2 ∧ h.get? p.1 = none) (hn : (add.map (·.1)).Nodup) : SF b L h' m (add ++ nw) := by
  refine wk ?_ ?_
  · have S' := S.keeps k
    obtain ⟨oL, _, _, hL, _⟩ := S.fr.ns
    refine ⟨S'.fr, fun p hp => ?_, ?_⟩
    · rcases List.mem_append.mp hp with q | q
      · refine ⟨(ha p q).1, fun e => ?_, ?_⟩
        · have := (ha p q).2; rw [e, hL] at this; cases this
        · cases z : b.get? p.1 with
          | none => rfl
          | some o => have := S.fr.keep _ _ z; rw [(ha p q).2] at this; cases this
      · exact S'.news p q
    · rw [List.map_append]
      refine List.nodup_append.mpr ⟨hn, S.nd, fun x hx y hy e => ?_⟩
      obtain ⟨p, hp, rfl⟩ := List.mem_map.mp hx
      obtain ⟨q, hq, rfl⟩ := List.mem_map.mp hy
      have h1 := (ha p hp).2
      have h2 := (S.news q hq).1
      rw [e, h2] at h1; cases h1
  kct_strs
inductive Put (d : Addr) (o o' : Obj) : List (Addr × Obj) → List (Addr × Obj) → Prop
  | head {r} : Put d o o' ((d, o) :: r) ((d, o') :: r)
  | tail {p r r'} : Put d o o' r r' → Put d o o' (p :: r) (p :: r')
theorem Put.mem {d : Addr} {o o' : Obj} {l l' : List (Addr × Obj)} (h : Put d o o' l l') : (d, o) ∈ l := by
  induction h with
  | head => exact .head _
  | tail _ ih => exact .tail _ ih
theorem Put.keys {d : Addr} {o o' : Obj} {l l' : List (Addr × Obj)} (h : Put d o o' l l') : l'.map (·.1) = l.map (·.1) := by
  induction h with
  | head => rfl
  | tail _ ih => simp [ih]
theorem Put.of_mem {d : Addr} {o o' : Obj} {l l' : List (Addr × Obj)} (h : Put d o o' l l') (nd : (l.map (·.1)).Nodup) : ∀ p ∈ l', p = (d, o') ∨ (p ∈ l ∧ p.1 ≠ d) := by
  refine wk ?_ ?_
  · induction h with
    | head =>
      intro p hp
      rw [List.map_cons, List.nodup_cons] at nd
      cases hp with
      | head => exact .inl rfl
      | tail _ hp => exact .inr ⟨.tail _ hp, fun e => nd.1 (by rw [← e]; exact List.mem_map_of_mem (f := (·.1)) hp)⟩
    | tail h' ih =>
      rename_i q r r'
      intro p hp
      rw [List.map_cons, List.nodup_cons] at nd
      cases hp with
      | head => exact .inr ⟨.head _, fun e => nd.1 (by
          have := h'.mem
          rw [e]; exact List.mem_map_of_mem (f := (·.1)) this)⟩
      | tail _ hp => exact (ih nd.2 p hp).imp id fun z => ⟨.tail _ z.1, z.2⟩
  kct_strs
theorem Put.append {d : Addr} {o o' : Obj} {pre l l' : List (Addr × Obj)} (h : Put d o o' l l') : Put d o o' (pre ++ l) (pre ++ l') := by
  induction pre with
  | nil => exact h
  | cons p r ih => exact .tail ih
/-- a heap in which one object of the ledger is another one -/
theorem SF.put {b : Heap} {L d : Addr} {h h' : Heap} {m : Str → Option Value} {nw nw' : List (Addr × Obj)} {o o' : Obj} (S : SF b L h m nw) (P : Put d o o' nw nw')
    (hd : h'.get? d = some o') (k : ∀ a x, a ≠ d → h.get? a = some x → h'.get? a = some x) : SF b L h' m nw' := by
  refine wk ?_ ?_
  · have D := S.news _ P.mem
    obtain ⟨oL, es, ep, hL, r⟩ := S.fr.ns
    refine ⟨⟨⟨oL, es, ep, k _ _ (Ne.symm D.2.1) hL, r⟩, fun a x e => k a x (fun z => ?_) (S.fr.keep a x e), S.fr.above⟩, fun p hp => ?_, by rw [P.keys]; exact S.nd⟩
    · have := D.2.2; rw [← z, e] at this; cases this
    · rcases P.of_mem S.nd p hp with rfl | ⟨q, hne⟩
      · exact ⟨hd, D.2⟩
      · exact ⟨k _ _ hne (S.news p q).1, (S.news p q).2⟩
  kct_strs
theorem SF.sub {b : Heap} {L : Addr} {h : Heap} {m : Str → Option Value} {nw nw' : List (Addr × Obj)} (S : SF b L h m nw) (hs : nw'.Sublist nw) : SF b L h m nw' :=
  ⟨S.fr, fun p hp => S.news p (hs.subset hp), S.nd.sublist (hs.map _)⟩

/-! ### names -/
section
variable {prog : Program} {w : World} {A : Around} {E : Value → Shared → Prop} {K : Frag} {b h : Heap} {L : Addr} {nw : List (Addr × Obj)} {env : Env} {ns : List Str} {gns bns : List (Str × Value)} {f : Nat → Option Value}
  {g : Array GenState} {dr : Drawn} {tk : Nat} {os : OsState}
theorem ne_dbg {x : Str} {l : List Str} (h : ("__debug__" : Str) ∉ l) (hx : x ∈ l) : (x == ("__debug__" : Str)) = false := by
  have : x ≠ ("__debug__" : Str) := fun e => h (e ▸ hx)
  simpa using this
theorem z_name {x : Str} {i : Nat} {v : Value} {p : Pos} {Q : Value → Shared → Prop} (V : EV K env L ns gns bns) (S : SF b L h (lc ns f) nw) (hi : IxAt ns x i) (hv : f i = some v) (q : Q v ⟨h, g, dr, tk, os⟩) :
    wpAny (model prog w) A (eval (.Name x p) env) Q E ⟨h, g, dr, tk, os⟩ :=
  wpAny_Name (wpAny_loadName_local V.kind (V.loc' x hi.mem) (by rw [V.loc]; exact S.fr.ns) (by rw [lc_get (hi.ix V.nd)]; exact hv) q) (ne_dbg V.dbg.1 hi.mem)
theorem z_store {x : Str} {i : Nat} {v : Value} {Q : Unit → Shared → Prop} (V : EV K env L ns gns bns) (S : SF b L h (lc ns f) nw) (hi : IxAt ns x i)
    (q : ∀ h' tk', SF b L h' (lc ns (up f i v)) nw → Q () ⟨h', g, dr, tk', os⟩) :
    wpAny (model prog w) A (storeName env x v) Q E ⟨h, g, dr, tk, os⟩ := by
  refine wpAny_storeName_local (V.loc' x hi.mem) (by rw [V.loc]; exact S.fr.ns) (fun h' hn hs => q h' _ ?_) (by rw [V.kind]; rfl)
  rw [V.loc] at hn hs
  rw [lc_up (hi.ix V.nd)] at hn
  exact ⟨S.fr.set hn hs, S.news.set hs, S.nd⟩
inductive At {α : Type} (a : α) : List α → Prop
  | head {r} : At a (a :: r)
  | tail {y r} : At a r → At a (y :: r)
theorem At.mem {α : Type} {a : α} {l : List α} (h : At a l) : a ∈ l := by
  induction h with
  | head => exact .head _
  | tail _ ih => exact .tail _ ih
theorem z_global {x : Str} {v : Value} {p : Pos} {m : Str → Option Value} {Q : Value → Shared → Prop} (V : EV K env L ns gns bns) (G : GR K b) (S : SF b L h m nw) (hx : At (x, v) gns) (q : Q v ⟨h, g, dr, tk, os⟩) :
    wpAny (model prog w) A (eval (.Name x p) env) Q E ⟨h, g, dr, tk, os⟩ := by
  have hg := List.all_eq_true.mp V.g _ hx.mem
  rw [Bool.and_eq_true, beq_iff_eq, beq_iff_eq] at hg
  obtain ⟨p', l', mg, mb, T⟩ := G.top
  refine Name_function_global V.kind hg.1 (loadGlobal_global (by rw [V.glob]; exact T.g.keeps S.keep) (mg_of G.inK T.g hg.2) q) (ne_dbg V.dbg.2.1 (List.mem_map_of_mem (f := (·.1)) hx.mem))
theorem z_builtin {x : Str} {v : Value} {p : Pos} {m : Str → Option Value} {Q : Value → Shared → Prop} (V : EV K env L ns gns bns) (G : GR K b) (S : SF b L h m nw) (hx : At (x, v) bns) (q : Q v ⟨h, g, dr, tk, os⟩) :
    wpAny (model prog w) A (eval (.Name x p) env) Q E ⟨h, g, dr, tk, os⟩ := by
  have hg := List.all_eq_true.mp V.b _ hx.mem
  simp only [Bool.and_eq_true, beq_iff_eq, bne_iff_ne, ne_eq] at hg
  obtain ⟨⟨⟨h1, h2⟩, h3⟩, h4⟩ := hg
  obtain ⟨p', l', mg, mb, T⟩ := G.top
  refine Name_function_global V.kind h1 (loadGlobal_builtin (by rw [V.glob]; exact T.g.keeps S.keep) (mg_none_of G.inK T.g h2) (by rw [V.bi]; exact T.b.keeps S.keep) ((T.builtins x h4).trans h3) q) (ne_dbg V.dbg.2.2 (List.mem_map_of_mem (f := (·.1)) hx.mem))
end
noncomputable def fnChk (K : Frag) (sc : Scope) (ns : List Str) (gns bns : List (Str × Value)) : Bool :=
  sc.kind == .function && !sc.isCoroutine && !sc.isGenerator && sc.names.all (fun x => x.2 != .cell) && decide ns.Nodup && ns.all (fun x => sc.names.lookup x == some .local) && gnOk K sc gns && bnOk K sc bns &&
  !ns.contains ("__debug__" : Str) && !(gns.map (·.1)).contains ("__debug__" : Str) && !(bns.map (·.1)).contains ("__debug__" : Str)
noncomputable def retv : Flow → Value
  | .ret v => v
  | _ => .none
theorem GR.nolimit {K : Frag} {h : Heap} (G : GR K h) : h.NoLimit := let ⟨_, _, _, _, T⟩ := G.top; T.nolimit
section
variable {prog : Program} {w : World} {A : Around} {E : Value → Shared → Prop} {K : Frag} {b h : Heap} {L : Addr} {m : Str → Option Value} {nw : List (Addr × Obj)} {g : Array GenState} {dr : Drawn} {tk : Nat} {os : OsState}

theorem enterC {R : Result → Shared → Prop} {fa : Addr} {name qual : Str} {params : Arguments} {body : List Stmt} {sc : Scope} {dV kV doc pm cdv ct oc : Value} {an od : Option Addr} {osl : Array (Option Value)} {args : Args}
    {ps rest : List Str} (ns : List Str) {vs : List Value} (gns bns : List (Str × Value)) {n : Nat}
    (G : GR K h) (M : Rm A (n + 1)) (ho : K.lookup fa = some ⟨oc, od, .func (fnOf name qual params body sc dV kV doc pm an cdv ct), osl⟩) (hcd : codeIn K cdv qual = true)
    (hb : BindsTo ⟨h, g, dr, tk, os⟩ (fnOf name qual params body sc dV kV doc pm an cdv ct) args (ps.zip vs)) (hl : ps.length = vs.length) (hns : ps ++ rest = ns) (chk : fnChk K sc ns gns bns = true)
    (q : ∀ A' env L' h₁ tk', Rm A' n → EV K env L' ns gns bns → h.objs.size ≤ L' → h₁.Ns L' (lc ns fun i => vs[i]?) → (∀ a o, h.get? a = some o → h₁.get? a = some o) → (∀ o, h.get? L' ≠ some o) →
      wpAny (model prog w) A' (execs body env) (fun fl s' => R (.ok (.ret (retv fl))) s') (fun _ _ => False) ⟨h₁, g, dr, tk', os⟩) :
    codeAny (model prog w) A (.call (.ref fa) args) R ⟨h, g, dr, tk, os⟩ := by
  refine wk ?_ ?_
  · unfold fnChk at chk
    simp only [Bool.and_eq_true, Bool.not_eq_true', beq_iff_eq, decide_eq_true_eq] at chk
    obtain ⟨⟨⟨⟨⟨⟨⟨⟨⟨⟨hk, hco⟩, hgen⟩, hcell⟩, nd⟩, hloc⟩, hg⟩, hbn⟩, d1⟩, d2⟩, d3⟩ := chk
    have nmem : ∀ {l : List Str} {x : Str}, l.contains x = false → x ∉ l := fun {l x} e hm => by
      rw [List.contains_iff_mem.mpr hm] at e; cases e
    subst hns
    have ndp : ps.Nodup := (List.nodup_append.mp nd).1
    have hps : ∀ x ∈ ps ++ rest, sc.names.lookup x = some .local := fun x hx => by
      have := List.all_eq_true.mp hloc x hx
      exact beq_iff_eq.mp this
    have hmap : (ps.zip vs).map (·.1) = ps := by
      have := List.map_fst_zip (l₁ := ps) (l₂ := vs) (Nat.le_of_eq hl)
      exact this
    have hzip : ∀ x ∈ ps.zip vs, x.1 ∈ ps := fun x hx => by rw [← hmap]; exact List.mem_map_of_mem (f := (·.1)) hx
    refine codeAny_call_def (fd := fnOf name qual params body sc dV kV doc pm an cdv ct) (body := body) (binds := ps.zip vs) M.room (G.inK _ _ ho) rfl G.nolimit (codeRec_of G.inK hcd) rfl hb
      (fun x hx => by have := List.all_eq_true.mp hcell x hx; simpa using this) (fun x hx => hps _ (List.mem_append_left _ (hzip x hx))) (fun h₁ hns hk₁ => ?_) hco hgen hk
    have e : (fun x => List.lookup x (ps.zip vs).reverse) = lc (ps ++ rest) fun i => vs[i]? := funext fun x => by
      rw [lookup_rev (by rw [hmap]; exact ndp)]
      exact lookup_zip hl fun y hy hp => (List.nodup_append.mp nd).2.2 y hp y hy rfl
    rw [e] at hns
    refine wpAny_mono (q _ _ h.objs.size h₁ _ M.deeper ⟨hk, rfl, rfl, rfl, nd, fun x hx => hps x hx, hg, hbn, nmem d1, nmem d2, nmem d3⟩ (Nat.le_refl _) hns hk₁ fun o e => absurd (Heap.lt_size e) (Nat.lt_irrefl _)) (fun fl s' x => ?_) (fun _ _ x => x.elim)
    cases fl <;> exact x
  kct_strs
/-- a call of a def that changes nothing that stood -/
theorem enter {fa : Addr} {name qual : Str} {params : Arguments} {body : List Stmt} {sc : Scope} {dV kV doc pm cdv ct oc : Value} {an od : Option Addr} {osl : Array (Option Value)} {pos : List Value} {kw : List (Str × Value)}
    {ps rest : List Str} (ns : List Str) {vs : List Value} (gns bns : List (Str × Value)) {n : Nat} {Q : Value → Shared → Prop}
    (G : GR K h) (M : Rm A (n + 1)) (ho : K.lookup fa = some ⟨oc, od, .func (fnOf name qual params body sc dV kV doc pm an cdv ct), osl⟩) (hcd : codeIn K cdv qual = true)
    (hb : BindsTo ⟨h, g, dr, tk, os⟩ (fnOf name qual params body sc dV kV doc pm an cdv ct) ⟨pos, kw⟩ (ps.zip vs)) (hl : ps.length = vs.length) (hns : ps ++ rest = ns) (chk : fnChk K sc ns gns bns = true)
    (q : ∀ A' env L' h₁ tk', Rm A' n → EV K env L' ns gns bns → SF h L' h₁ (lc ns fun i => vs[i]?) [] →
      wpAny (model prog w) A' (execs body env) (fun fl s' => Q (retv fl) s') (fun _ _ => False) ⟨h₁, g, dr, tk', os⟩) :
    wpAny (model prog w) A (call (.ref fa) pos kw) Q E ⟨h, g, dr, tk, os⟩ :=
  wpAny_call (enterC ns gns bns G M ho hcd hb hl hns chk fun A' env L' h₁ tk' M' V hL hN hk hno => q A' env L' h₁ tk' M' V ⟨⟨hN, hk, hL⟩, News.nil, List.nodup_nil⟩)

noncomputable def Back (gb : Heap) (L' : Addr) (b : Heap) (L : Addr) (m : Str → Option Value) (R : Value → Shared → Prop) (v : Value) (s' : Shared) : Prop :=
  ∃ m' nw', SF gb L' s'.heap m' nw' ∧ (SF b L s'.heap m nw' → R v s')

/-- a call of a def within the caller's ledger -/
theorem enterI {R : Result → Shared → Prop} {fa : Addr} {name qual : Str} {params : Arguments} {body : List Stmt} {sc : Scope} {dV kV doc pm cdv ct oc : Value} {an od : Option Addr} {osl : Array (Option Value)} {args : Args}
    {ps rest : List Str} (ns : List Str) {vs : List Value} (gns bns : List (Str × Value)) {n : Nat}
    (S : SF b L h m nw) (G : GR K b) (M : Rm A (n + 1)) (ho : K.lookup fa = some ⟨oc, od, .func (fnOf name qual params body sc dV kV doc pm an cdv ct), osl⟩) (hcd : codeIn K cdv qual = true)
    (hb : BindsTo ⟨h, g, dr, tk, os⟩ (fnOf name qual params body sc dV kV doc pm an cdv ct) args (ps.zip vs)) (hl : ps.length = vs.length) (hns : ps ++ rest = ns) (chk : fnChk K sc ns gns bns = true)
    (q : ∀ A' env L' gb h₁ tk', Rm A' n → EV K env L' ns gns bns → GR K gb → (∀ a o, b.get? a = some o → gb.get? a = some o) → SF gb L' h₁ (lc ns fun i => vs[i]?) nw →
      wpAny (model prog w) A' (execs body env) (fun fl s' => Back gb L' b L m (fun v s' => R (.ok (.ret v)) s') (retv fl) s') (fun _ _ => False) ⟨h₁, g, dr, tk', os⟩) :
    codeAny (model prog w) A (.call (.ref fa) args) R ⟨h, g, dr, tk, os⟩ := by
  refine wk ?_ ?_
  · refine enterC ns gns bns (G.keeps S.keep) M ho hcd hb hl hns chk fun A' env L' h₁ tk' M' V hL hN hk hno => ?_
    have nm : ∀ a o, b.get? a = some o → a ∉ nw.map (·.1) := fun a o e z => by
      obtain ⟨p, hp, rfl⟩ := List.mem_map.mp z
      rw [(S.news p hp).2.2] at e; cases e
    have st : ∀ a o, b.get? a = some o → (hideAll h (nw.map (·.1))).get? a = some o := fun a o e => hideAll_get _ (S.keep a o e) (nm a o e)
    obtain ⟨oL, es, ep, hLo, r⟩ := S.fr.ns
    have nL : L ∉ nw.map (·.1) := fun z => by
      obtain ⟨p, hp, e⟩ := List.mem_map.mp z
      exact (S.news p hp).2.1 e
    have hLg := hideAll_get (nw.map (·.1)) hLo nL
    have sf : SF (hideAll h (nw.map (·.1))) L' h₁ (lc ns fun i => vs[i]?) nw :=
      ⟨⟨hN, fun a o e => hk a o (of_hideAll _ e), by rw [hideAll_size]; exact hL⟩, fun p hp => ⟨hk _ _ (S.news p hp).1, fun e => hno _ (e ▸ (S.news p hp).1), hideAll_none _ (List.mem_map_of_mem (f := (·.1)) hp)⟩, S.nd⟩
    refine wpAny_mono (q A' env L' (hideAll h (nw.map (·.1))) h₁ tk' M' V (G.keeps st) st sf) (fun fl s' hl => ?_) fun _ _ x => x
    obtain ⟨m', nw', S', k⟩ := hl
    refine k ⟨⟨⟨oL, es, ep, S'.keep L oL hLg, r⟩, fun a o e => S'.keep a o (st a o e), S.fr.above⟩, fun p hp => ⟨(S'.news p hp).1, fun e => ?_, ?_⟩, S'.nd⟩
    · have := (S'.news p hp).2.2; rw [e, hLg] at this; cases this
    · cases z : b.get? p.1 with
      | none => rfl
      | some o => have := (S'.news p hp).2.2; rw [st _ _ z] at this; cases this
  kct_strs
theorem Rm.make {n : Nat} {C : Addr} {vs : List Value} {kw : List (Str × Value)} (M : Rm A (n + 1)) : Rm (A.under (.builtin "type.__call__" ⟨.ref C :: vs, kw⟩)) n :=
  ⟨M.handled, by rw [depth_under_kw]; have := M.depth; omega, by
    have e : (A.under (.builtin "type.__call__" ⟨.ref C :: vs, kw⟩)).units = A.units + 1 := rfl
    rw [e]; have := M.units; omega⟩

noncomputable def mkChk (K : Frag) (C fI : Addr) : Bool := makesIn K C && findIn K (.ref C) "__init__" == some (some (.ref fI)) && isFn K (.ref fI)
/-- an object of an own class: made, then its __init__ within the ledger -/
theorem z_make {C fI : Addr} {pos : List Value} {kw : List (Str × Value)} {n : Nat} {Q : Value → Shared → Prop} (S : SF b L h m nw) (G : GR K b) (M : Rm A (n + 1)) (hm : mkChk K C fI = true)
    (q : ∀ x dx h' A', Rm A' n → SF b L h' m ((x, instObj C dx) :: (dx, dictOf [] 0) :: nw) →
      codeAny (model prog w) A' (.call (.ref fI) ⟨.ref x :: pos, kw⟩) (fun r s' => r = .ok (.ret .none) ∧ Q (.ref x) s') ⟨h', g, dr, tk, os⟩) :
    wpAny (model prog w) A (call (.ref C) pos kw) Q E ⟨h, g, dr, tk, os⟩ := by
  refine wk ?_ ?_
  · unfold mkChk at hm
    rw [Bool.and_eq_true, Bool.and_eq_true, beq_iff_eq] at hm
    refine call_cls (s := ⟨h, g, dr, tk, os⟩) S.fr G.inK S.news hm.1.1 hm.1.2 hm.2 fun x dx h' F' N' l1 l2 => ?_
    refine codeAny_mono (q x dx h' _ M.make ⟨F', N', ?_⟩) fun r s' z => ?_
    · rw [List.map_cons, List.map_cons]
      have nin : ∀ y, dx ≤ y → y ∉ nw.map (·.1) := fun y hy z => by
        obtain ⟨p, hp, e⟩ := List.mem_map.mp z
        have h1 : p.1 < dx := l1 p hp
        rw [e] at h1
        exact absurd h1 (Nat.not_lt.mpr hy)
      refine List.nodup_cons.mpr ⟨fun hm => ?_, List.nodup_cons.mpr ⟨nin dx (Nat.le_refl _), S.nd⟩⟩
      rcases List.mem_cons.mp hm with e | e
      · exact absurd l2 (by rw [show x = dx from e]; exact Nat.lt_irrefl _)
      · exact nin x (Nat.le_of_lt l2) e
    · obtain ⟨rfl, z⟩ := z
      exact ⟨rfl, z⟩
  kct_strs
end
section
variable {prog : Program} {w : World} {A : Around} {E : Value → Shared → Prop} {K : Frag} {b h : Heap} {L : Addr} {m : Str → Option Value} {nw nw' : List (Addr × Obj)} {g : Array GenState} {dr : Drawn} {tk : Nat} {os : OsState} {env : Env} {pos : Pos} {k : Nat}
  {ns : List Str} {gns bns : List (Str × Value)}
theorem z_int {i : Int} {Q : Value → Shared → Prop} (q : ∀ t tk', Q (.int i t) ⟨h, g, dr, tk', os⟩) : wpAny (model prog w) A (eval (.Constant (.int i) k pos) env) Q E ⟨h, g, dr, tk, os⟩ := wpAny_Constant_int (q _ _)
theorem z_str {x : Str} {Q : Value → Shared → Prop} (q : ∀ t tk', Q (.str x t) ⟨h, g, dr, tk', os⟩) : wpAny (model prog w) A (eval (.Constant (.str x) k pos) env) Q E ⟨h, g, dr, tk, os⟩ := Constant_str (q _ _)
variable {i j : Int} {t u : Tok} {Q : Value → Shared → Prop}
theorem z_add (q : ∀ t tk', Q (.int (i + j) t) ⟨h, g, dr, tk', os⟩) : wpAny (model prog w) A (binaryOp .Add (.int i t) (.int j u)) Q E ⟨h, g, dr, tk, os⟩ := add_int (q _ _)
theorem z_sub (q : ∀ t tk', Q (.int (i - j) t) ⟨h, g, dr, tk', os⟩) : wpAny (model prog w) A (binaryOp .Sub (.int i t) (.int j u)) Q E ⟨h, g, dr, tk, os⟩ := sub_int (q _ _)
theorem z_mul (hb : IntMulOk i j) (q : ∀ t tk', Q (.int (i * j) t) ⟨h, g, dr, tk', os⟩) : wpAny (model prog w) A (binaryOp .Mult (.int i t) (.int j u)) Q E ⟨h, g, dr, tk, os⟩ := mul_int (q _ _) hb
theorem z_mod (hj : 0 < j) (q : ∀ t tk', Q (.int (i % j) t) ⟨h, g, dr, tk', os⟩) : wpAny (model prog w) A (binaryOp .Mod (.int i t) (.int j u)) Q E ⟨h, g, dr, tk, os⟩ := by
  refine mod_int (by omega) ?_
  rw [Int.fmod_eq_emod_of_nonneg i (by omega)]; exact q _ _
theorem z_fdiv (hj : 0 < j) (hl : j < 2 ^ 64) (q : ∀ t tk', Q (.int (i / j) t) ⟨h, g, dr, tk', os⟩) : wpAny (model prog w) A (binaryOp .FloorDiv (.int i t) (.int j u)) Q E ⟨h, g, dr, tk, os⟩ := by
  refine wk ?_ ?_
  · refine floordiv_int (by omega) ?_ (.inl ?_)
    · rw [Int.fdiv_eq_ediv_of_nonneg i (by omega)]; exact q _ _
    · unfold Builtin.divisionGoesByPylong
      have h1 : j.natAbs.log2 < 64 := (Nat.log2_lt (by omega)).mpr (by omega)
      have h2 : (if (j == 0) = true then 0 else j.natAbs.log2 / 30 + 1) ≤ 300 := by split <;> omega
      have h3 : decide ((if (j == 0) = true then 0 else j.natAbs.log2 / 30 + 1) > 300) = false := decide_eq_false (by omega)
      show (decide ((if (j == 0) = true then 0 else j.natAbs.log2 / 30 + 1) > 300) && _) = false
      rw [h3, Bool.false_and]
  kct_strs
theorem z_pow (hj : 0 ≤ j) (hb : ((Builtin.Int.intBits i : Nat) : Int) * j ≤ 2 ^ 27) (q : ∀ t tk', Q (.int (i ^ j.toNat) t) ⟨h, g, dr, tk', os⟩) : wpAny (model prog w) A (binaryOp .Pow (.int i t) (.int j u)) Q E ⟨h, g, dr, tk, os⟩ := pow_int hj hb (q _ _)
theorem z_shl (hj : 0 ≤ j) (hb : ((Builtin.Int.intBits i : Nat) : Int) + j ≤ 2 ^ 27) (q : ∀ t tk', Q (.int (i * 2 ^ j.toNat) t) ⟨h, g, dr, tk', os⟩) : wpAny (model prog w) A (binaryOp .LShift (.int i t) (.int j u)) Q E ⟨h, g, dr, tk, os⟩ := lshift_int hj hb (q _ _)
theorem z_shr (hj : 0 ≤ j) (q : ∀ t tk', Q (.int (i / (2 ^ j.toNat)) t) ⟨h, g, dr, tk', os⟩) : wpAny (model prog w) A (binaryOp .RShift (.int i t) (.int j u)) Q E ⟨h, g, dr, tk, os⟩ := by
  refine rshift_int hj ?_
  rw [Int.fdiv_eq_ediv_of_nonneg i (Int.le_of_lt (Int.pow_pos (by decide)))]; exact q _ _
theorem z_and (q : ∀ t tk', Q (.int (Builtin.bitAnd i j) t) ⟨h, g, dr, tk', os⟩) : wpAny (model prog w) A (binaryOp .BitAnd (.int i t) (.int j u)) Q E ⟨h, g, dr, tk, os⟩ := and_int (q _ _)
theorem z_neg (q : ∀ t tk', Q (.int (-i) t) ⟨h, g, dr, tk', os⟩) : wpAny (model prog w) A (unaryOp .USub (.int i t)) Q E ⟨h, g, dr, tk, os⟩ := neg_int (q _ _)
theorem z_not {v : Value} (q : wpAny (model prog w) A (truthy v) (fun c s' => Q (.bool !c) s') E ⟨h, g, dr, tk, os⟩) : wpAny (model prog w) A (unaryOp .Not v) Q E ⟨h, g, dr, tk, os⟩ := not_of q

theorem z_tuple {vs : List Value} (S : SF b L h m nw) (hs : vs.length ≤ 1000) (q : ∀ a h', SF b L h' m ((a, ⟨.type "tuple", none, .seq vs.toArray 0, #[]⟩) :: nw) → (∀ c o, h.get? c = some o → h'.get? c = some o) → h.get? a = none → Q (.ref a) ⟨h', g, dr, tk, os⟩) :
    wpAny (model prog w) A (newTuple vs) Q E ⟨h, g, dr, tk, os⟩ :=
  wpAny_newObj_type (q _ _ (S.push _ rfl) (fun c o e => Heap.get?_push_of_some _ e) (by cases z : h.get? h.objs.size with | none => rfl | some o => exact absurd (Heap.lt_size z) (Nat.lt_irrefl _)))
    (by show vs.toArray.size ≤ sizeLine; rw [List.size_toArray, sizeLine_eq]; omega)
theorem z_list {vs : List Value} (S : SF b L h m nw) (hs : vs.length ≤ 1000) (q : ∀ a h', SF b L h' m ((a, listOf vs.toArray 0) :: nw) → (∀ c o, h.get? c = some o → h'.get? c = some o) → h.get? a = none → Q (.ref a) ⟨h', g, dr, tk, os⟩) :
    wpAny (model prog w) A (newList vs) Q E ⟨h, g, dr, tk, os⟩ :=
  wpAny_newObj_type (q _ _ (S.push _ rfl) (fun c o e => Heap.get?_push_of_some _ e) (by cases z : h.get? h.objs.size with | none => rfl | some o => exact absurd (Heap.lt_size z) (Nat.lt_irrefl _)))
    (by show vs.toArray.size ≤ sizeLine; rw [List.size_toArray, sizeLine_eq]; omega)

/-! ### attributes -/
noncomputable def atChk (K : Frag) (C : Addr) (name : Str) : Bool := plainGet K C name && hasDictIn K C && findIn K (.ref C) name == some none
noncomputable def AttrIs (K : Frag) (h : Heap) (x C : Addr) (name : Str) (v : Value) : Prop :=
  ∃ dx es n, h.get? x = some (instObj C dx) ∧ h.get? dx = some (dictOf es n) ∧ getL name es = some (some v) ∧ handedIn v = true ∧ atChk K C name = true
theorem AttrIs.keeps {h' : Heap} {x C : Addr} {name : Str} {v : Value} (H : AttrIs K h x C name v) (kp : ∀ a o, h.get? a = some o → h'.get? a = some o) : AttrIs K h' x C name v :=
  Exists.elim H fun dx H => Exists.elim H fun es H => Exists.elim H fun n H => ⟨dx, es, n, kp _ _ H.1, kp _ _ H.2.1, H.2.2⟩
theorem z_attrH {x C : Addr} {name : Str} {v : Value} {expr : Bool} (G : GR K h) (H : AttrIs K h x C name v) (q : ∀ tk', Q v ⟨h, g, dr, tk', os⟩) :
    wpAny (model prog w) A (getAttr (.ref x) name expr) Q E ⟨h, g, dr, tk, os⟩ := by
  obtain ⟨dx, es, n, h1, h2, h3, h4, h5⟩ := H
  unfold atChk at h5
  rw [Bool.and_eq_true, Bool.and_eq_true, beq_iff_eq] at h5
  have I : InstAt h x (instObj C dx) C (some (dictOf es n)) := ⟨h1, rfl, rfl, h2⟩
  exact get_value (s := ⟨h, g, dr, tk, os⟩) G.inK I (plainGet_of h5.1.1).1 (findObj_own h5.1.2 h5.2 rfl h3) h4 (q _)
theorem z_attr {x C : Addr} {name : Str} {v : Value} {expr : Bool} (G : GR K b) (S : SF b L h m nw) (H : AttrIs K b x C name v) (q : ∀ tk', Q v ⟨h, g, dr, tk', os⟩) :
    wpAny (model prog w) A (getAttr (.ref x) name expr) Q E ⟨h, g, dr, tk, os⟩ := z_attrH (G.keeps S.keep) (H.keeps S.keep) q
theorem AttrIs.of {x C dx : Addr} {es : List DictEntry} {n : Nat} {name : Str} {v : Value} (S : SF b L h m nw) (h1 : At (x, instObj C dx) nw) (h2 : At (dx, dictOf es n) nw) (h3 : getL name es = some (some v)) (h4 : handedIn v = true) (h5 : atChk K C name = true) :
    AttrIs K h x C name v := ⟨dx, es, n, (S.news _ h1.mem).1, (S.news _ h2.mem).1, h3, h4, h5⟩

noncomputable def stChk (K : Frag) (C : Addr) (name : Str) : Bool := findIn K (.ref C) "__setattr__" == some (some (.builtin "object.__setattr__")) && plainOver K C && takerIn K C name == some none && hasDictIn K C
/-- an attribute stored into an object of the ledger -/
theorem z_set {x C dx : Addr} {es es' : List DictEntry} {n n' : Nat} {name : Str} {v : Value} {Q : Unit → Shared → Prop} (G : GR K b) (S : SF b L h m nw) (h1 : At (x, instObj C dx) nw) (hc : stChk K C name = true)
    (hl : (getL name es).isSome = true) (he : (putL name (PyData.keyHash w.params name) (.str name (tk + 1)) v es, putN name es n) = (es' , n')) (hz : es'.length ≤ 1000) (P : Put dx (dictOf es n) (dictOf es' n') nw nw')
    (q : ∀ h' tk', SF b L h' m nw' → Q () ⟨h', g, dr, tk', os⟩) :
    wpAny (model prog w) A (setAttr (.ref x) name v) Q E ⟨h, g, dr, tk, os⟩ := by
  refine wk ?_ ?_
  · unfold stChk at hc
    simp only [Bool.and_eq_true, beq_iff_eq] at hc
    have I : InstAt h x (instObj C dx) C (some (dictOf es n)) := ⟨(S.news _ h1.mem).1, rfl, rfl, (S.news _ P.mem).1⟩
    have nd := S.nd
    have split : ∀ {l l' : List (Addr × Obj)}, (l.map (·.1)).Nodup → Put dx (dictOf es n) (dictOf es' n') l l' → Upd dx (dictOf es n) (dictOf es' n') l l' := by
      intro l l' nd P
      induction P with
      | head =>
        rw [List.map_cons, List.nodup_cons] at nd
        exact .head fun p hp e => nd.1 (by rw [← e]; exact List.mem_map_of_mem (f := (·.1)) hp)
      | tail h' ih =>
        rw [List.map_cons, List.nodup_cons] at nd
        refine .tail (fun e => nd.1 ?_) (ih nd.2)
        rw [e]; exact List.mem_map_of_mem (f := (·.1)) h'.mem
    refine set_dict (s := ⟨h, g, dr, tk, os⟩) S.fr G.inK S.news I rfl hc.1.1.1 hc.1.1.2 hc.1.2 hc.2 hl he (split nd P) hz fun h' F' N' => q h' _ ⟨F', N', by rw [P.keys]; exact nd⟩
  kct_strs
end
section
variable {prog : Program} {w : World} {A : Around} {E : Value → Shared → Prop} {K : Frag} {b h : Heap} {L : Addr} {m : Str → Option Value} {nw nw' : List (Addr × Obj)} {g : Array GenState} {dr : Drawn} {tk : Nat} {os : OsState} {env : Env} {pos : Pos} {k : Nat}
  {ns : List Str} {gns bns : List (Str × Value)} {Q : Value → Shared → Prop}

/-! ### items -/
noncomputable abbrev SubOk (slice : Expr) (o i : Value) : Prop := subscripted slice false o i = operate [o, i] (getItem o i)
theorem z_tup {value slice : Expr} {t : Addr} {l : List Value} {i : Int} {u : Tok} {v : Value} (hT : IsTup h t l.toArray) (h0 : 0 ≤ i) (h1 : i < 2 ^ 31) (hi : l[i.toNat]? = some v) (hs : SubOk slice (.ref t) (.int i u)) (q : Q v ⟨h, g, dr, tk, os⟩) :
    wpAny (model prog w) A (subscriptTail value slice (.ref t) (.int i u)) Q E ⟨h, g, dr, tk, os⟩ := by
  refine wk ?_ ?_
  · have hlt : i.toNat < l.length := (List.getElem?_eq_some_iff.mp hi).1
    refine item_tupleT (s := ⟨h, g, dr, tk, os⟩) (j := i.toNat) hT (by omega) (by omega) ?_ hi q hs
    unfold seqIndex?
    have e1 : ¬ (i < 0) := by omega
    have e2 : i.toNat < l.length := hlt
    simp only [e1, if_false]
    first | (rw [if_pos (by omega)]) | simp_all | (split <;> first | rfl | omega)
  kct_strs
theorem z_item {value slice : Expr} {l : Addr} {vs : List Value} {i : Int} {u : Tok} {v : Value} (hl : h.IsList l vs.toArray) (h0 : 0 ≤ i) (h1 : i < 2 ^ 31) (hi : vs[i.toNat]? = some v) (hs : SubOk slice (.ref l) (.int i u)) (q : Q v ⟨h, g, dr, tk, os⟩) :
    wpAny (model prog w) A (subscriptTail value slice (.ref l) (.int i u)) Q E ⟨h, g, dr, tk, os⟩ :=
  tail_any (s := ⟨h, g, dr, tk, os⟩) hl.typeIs slot_list_getitem.lookup (wpAny_getItem_list hl h0 (by omega) (by simpa using hi) q) hs
theorem z_key {KT : Type} [DecidableEq KT] {knd : PySem.KeyKind prog w KT} {value slice : Expr} {d : Addr} {kvs : List (KT × Value)} {kk : KT} {key v : Value} (hk : knd.is kk key = true) (hm : h.DictOf knd d kvs) (hv : valueAt kvs kk = some v) (hs : SubOk slice (.ref d) key)
    (q : ∀ tk', Q v ⟨h, g, dr, tk', os⟩) : wpAny (model prog w) A (subscriptTail value slice (.ref d) key) Q E ⟨h, g, dr, tk, os⟩ :=
  tail_any (s := ⟨h, g, dr, tk, os⟩) hm.typeIs slot_dict_getitem.lookup (wpAny_getItem_of hk hm.mapOf hv (q _)) hs

/-! ### calls -/
theorem z_call {fn : Str} {p : Pos} {fa : Addr} {e : Expr} {rest : List Expr} (V : EV K env L ns gns bns) (G : GR K b) (S : SF b L h m nw) (hx : At (fn, .ref fa) gns) (hk : keepIn K (.ref fa) = true)
    (q : wpAny (model prog w) A (spliced (backTo pos (starEach (e :: rest) env))) (fun vs s₁ => K.In s₁.heap ∧ wpAny (model prog w) A (call (.ref fa) vs) Q E s₁) E ⟨h, g, dr, tk, os⟩) (he : starEach (e :: rest) env = (false, eval e env) :: starEach rest env := by rfl) (he : starEach (e :: rest) env = (false, eval e env) :: starEach rest env := by rfl) (hplain : (backTo pos (starEach rest env)).any (·.1) = false := by rfl) :
    wpAny (model prog w) A (eval (.Call (.Name fn p) (e :: rest) [] pos) env) Q E ⟨h, g, dr, tk, os⟩ :=
  Call_ (z_global V G S hx (callWith_K (first := []) G.inK hk q he hplain))
theorem z_call0 {fn : Str} {p : Pos} {fa : Addr} (V : EV K env L ns gns bns) (G : GR K b) (S : SF b L h m nw) (hx : At (fn, .ref fa) gns) (hk : keepIn K (.ref fa) = true)
    (q : wpAny (model prog w) A (call (.ref fa) []) Q E ⟨h, g, dr, tk, os⟩) :
    wpAny (model prog w) A (eval (.Call (.Name fn p) [] [] pos) env) Q E ⟨h, g, dr, tk, os⟩ :=
  Call_ (z_global V G S hx (callWith_K0 (s := ⟨h, g, dr, tk, os⟩) (first := []) (G.keeps S.keep).inK hk q))
theorem z_callB {fn : Str} {p : Pos} {id : String} {e : Expr} {rest : List Expr} (V : EV K env L ns gns bns) (G : GR K b) (S : SF b L h m nw) (hx : At (fn, .builtin id) bns)
    (q : wpAny (model prog w) A (spliced (backTo pos (starEach (e :: rest) env))) (fun vs s₁ => wpAny (model prog w) A (call (.builtin id) vs) Q E s₁) E ⟨h, g, dr, tk, os⟩) (he : starEach (e :: rest) env = (false, eval e env) :: starEach rest env := by rfl) (hplain : (backTo pos (starEach rest env)).any (·.1) = false := by rfl) :
    wpAny (model prog w) A (eval (.Call (.Name fn p) (e :: rest) [] pos) env) Q E ⟨h, g, dr, tk, os⟩ :=
  Call_ (z_builtin V G S hx (PyProof.Rows.callWith_builtin1 q he hplain))
theorem z_callT {fn : Str} {p : Pos} {T : String} {e : Expr} {rest : List Expr} (V : EV K env L ns gns bns) (G : GR K b) (S : SF b L h m nw) (hx : At (fn, .type T) bns)
    (q : wpAny (model prog w) A (spliced (backTo pos (starEach (e :: rest) env))) (fun vs s₁ => wpAny (model prog w) A (call (.type T) vs) Q E s₁) E ⟨h, g, dr, tk, os⟩) (he : starEach (e :: rest) env = (false, eval e env) :: starEach rest env := by rfl) (hplain : (backTo pos (starEach rest env)).any (·.1) = false := by rfl) :
    wpAny (model prog w) A (eval (.Call (.Name fn p) (e :: rest) [] pos) env) Q E ⟨h, g, dr, tk, os⟩ :=
  Call_ (z_builtin V G S hx (Pv.callWith_type1 q he hplain))
noncomputable def meChk (K : Frag) (C : Addr) (name : Str) (f : Addr) : Bool := plainGet K C name && findIn K (.ref C) name == some (some (.ref f)) && isFn K (.ref f) && keepIn K (.ref f)
/-- an own class's method on an object -/
noncomputable def MethIs (K : Frag) (h : Heap) (x C : Addr) (name : Str) (f : Addr) : Prop :=
  ∃ dx es n, h.get? x = some (instObj C dx) ∧ h.get? dx = some (dictOf es n) ∧ getL name es = some none ∧ meChk K C name f = true
theorem MethIs.keeps {h' : Heap} {x C f : Addr} {name : Str} (H : MethIs K h x C name f) (kp : ∀ a o, h.get? a = some o → h'.get? a = some o) : MethIs K h' x C name f :=
  Exists.elim H fun dx H => Exists.elim H fun es H => Exists.elim H fun n H => ⟨dx, es, n, kp _ _ H.1, kp _ _ H.2.1, H.2.2⟩
theorem z_meth {x C f : Addr} {name : Str} {pl : Sem Bool} {e : Expr} {rest : List Expr} (G : GR K h) (H : MethIs K h x C name f)
    (q : wpAny (model prog w) A (spliced (backTo pos (starEach (e :: rest) env))) (fun vs s₁ => K.In s₁.heap ∧ wpAny (model prog w) A (call (.ref f) (.ref x :: vs)) Q E s₁) E ⟨h, g, dr, tk, os⟩) (he : starEach (e :: rest) env = (false, eval e env) :: starEach rest env := by rfl) (hplain : (backTo pos (starEach rest env)).any (·.1) = false := by rfl) :
    wpAny (model prog w) A (getMethod (.ref x) name pl) (fun fx s₂ => wpAny (model prog w) A (callWith pos fx.fst fx.snd (backTo pos (starEach (e :: rest) env)) []) Q E s₂) E ⟨h, g, dr, tk, os⟩ := by
  obtain ⟨dx, es, n, h1, h2, h3, h5⟩ := H
  unfold meChk at h5
  simp only [Bool.and_eq_true, beq_iff_eq] at h5
  have I : InstAt h x (instObj C dx) C (some (dictOf es n)) := ⟨h1, rfl, rfl, h2⟩
  exact method_fn (s := ⟨h, g, dr, tk, os⟩) G.inK I (plainGet_of h5.1.1.1).1 (plainGet_of h5.1.1.1).2 h5.1.1.2 (beq_iff_eq.mp h5.1.2) (by show (lookIn name (dictOf es n)).map _ = _; rw [lookIn_dict, h3]; rfl)
    (callWith_K (first := [.ref x]) G.inK h5.2 q he hplain)
/-- xs.append(e) on a list of the ledger: the method, then the call -/
theorem z_appendM {d : Addr} {o : Obj} {pl : Sem Bool} {e : Expr} (hd : h.get? d = some o) (hc : o.cls = .type "list") (ho : o.dict = none)
    (q : wpAny (model prog w) A (eval e env) (fun v s₁ => wpAny (model prog w) A (call (.builtin "list.append") [.ref d, v]) Q E s₁) E ⟨h, g, dr, tk, os⟩) (he : starEach [e] env = (false, eval e env) :: starEach [] env := by rfl) :
    wpAny (model prog w) A (getMethod (.ref d) "append" pl) (fun fx s₂ => wpAny (model prog w) A (callWith pos fx.fst fx.snd (backTo pos (starEach [e] env)) []) Q E s₂) E ⟨h, g, dr, tk, os⟩ :=
  PySem.Calls.getMethod_list_append (s := ⟨h, g, dr, tk, os⟩) hd hc ho (PyProof.Rows.callWith_method1 (spliced_more (wpAny_mono q (fun v s₁ x => spliced_none x) fun _ _ x => x) he) he rfl)
theorem z_append {d : Addr} {its : Array Value} {n : Nat} {x : Value} (S : SF b L h m nw) (P : Put d (listOf its n) (listOf (its.push x) (n + 1)) nw nw') (hz : its.size ≤ 1000)
    (q : ∀ h', SF b L h' m nw' → Q .none ⟨h', g, dr, tk, os⟩) : wpAny (model prog w) A (call (.builtin "list.append") [.ref d, x]) Q E ⟨h, g, dr, tk, os⟩ :=
  append_at (s := ⟨h, g, dr, tk, os⟩) (S.news _ P.mem).1 (fun h' hs ho => q h' (S.put P ho fun a o hne e => (hs.2 a hne).trans e)) (by rw [sizeLine_eq]; omega)
theorem z_len {l : Addr} {vs : List Value} (hl : h.IsList l vs.toArray) (hz : vs.length ≤ 1000) (q : ∀ t tk', Q (.int (vs.length : Nat) t) ⟨h, g, dr, tk', os⟩) : wpAny (model prog w) A (call (.builtin "len") [.ref l]) Q E ⟨h, g, dr, tk, os⟩ := by
  refine call_len_list (s := ⟨h, g, dr, tk, os⟩) hl (by simp only [List.size_toArray]; omega) ?_
  rw [List.size_toArray]; exact q _ _
theorem z_max {i j : Int} {t u : Tok} (M : A.handled = none) (S : SF b L h m nw) (q : ∀ h' t' tk', SF b L h' m nw → Q (.int (max i j) t') ⟨h', g, dr, tk', os⟩) :
    wpAny (model prog w) A (call (.builtin "max") [.int i t, .int j u]) Q E ⟨h, g, dr, tk, os⟩ := by
  refine wk ?_ ?_
  · refine max_two_N (s := ⟨h, g, dr, tk, os⟩) M S.fr S.news fun h' tk' F' N' => ?_
    have e : (if j > i then j else i) = max i j := by
      by_cases q : i < j
      · rw [if_pos q]; omega
      · rw [if_neg q]; omega
    rw [e]
    exact q h' _ tk' ⟨F', N', S.nd⟩
  kct_strs
end
noncomputable def seqK (M : Model) (A : Around) (rest : List Stmt) (env : Env) (Q : Flow → Shared → Prop) (E : Value → Shared → Prop) (f : Flow) (s : Shared) : Prop :=
  match f with
  | .next => wpAny M A (execs rest env) Q E s
  | f => Q f s
section
variable {M : Model} {A : Around} {E : Value → Shared → Prop} {s : Shared} {env : Env} {rest : List Stmt} {Q : Flow → Shared → Prop} {pos pos' : Pos} {value : Expr} {x : Str}
theorem seqK_ret {v : Value} (q : Q (.ret v) s) : seqK M A rest env Q E (.ret v) s := q
theorem seqK_next (q : wpAny M A (execs rest env) Q E s) : seqK M A rest env Q E .next s := q
theorem z_nil (q : Q .next s) : wpAny M A (execs [] env) Q E s := wpAny_execs_nil q
theorem z_assign (q : wpAny M A (eval value env) (fun v s₁ => wpAny M A (storeName env x v) (fun _ s₂ => wpAny M A (execs rest env) Q E s₂) E s₁) E s) (hs : swapsWith value (some (.Name x pos')) pos.line env = pure false := by rfl) :
    wpAny M A (execs (.Assign [.Name x pos'] value pos :: rest) env) Q E s := wpAny_execs_cons (wpAny_Assign_Name q hs)
theorem z_assignS {o i : Expr} (q : wpAny M A (eval value env) (fun v s₁ => wpAny M A (eval o env) (fun ov s₂ => wpAny M A (eval i env) (fun iv s₃ => wpAny M A (setItem ov iv v) (fun _ s₄ => wpAny M A (execs rest env) Q E s₄) E s₃) E s₂) E s₁) E s)
    (hs : swapsWith value (some (.Subscript o i pos')) pos.line env = pure false := by rfl) : wpAny M A (execs (.Assign [.Subscript o i pos'] value pos :: rest) env) Q E s := wpAny_execs_cons (wpAny_Assign_Subscript q hs)
theorem z_assignA {o : Expr} {attr : Str} (q : wpAny M A (eval value env) (fun v s₁ => wpAny M A (eval o env) (fun ov s₂ => wpAny M A (setAttr ov attr v) (fun _ s₃ => wpAny M A (execs rest env) Q E s₃) E s₂) E s₁) E s)
    (hs : swapsWith value (some (.Attribute o attr pos')) pos.line env = pure false := by rfl) : wpAny M A (execs (.Assign [.Attribute o attr pos'] value pos :: rest) env) Q E s := wpAny_execs_cons (plainObj_wpAny_Assign_Attribute q hs)
theorem z_ret {e : Expr} (q : wpAny M A (eval e env) (fun v s' => Q (.ret v) s') E s) : wpAny M A (execs (.Return (some e) pos :: rest) env) Q E s := wpAny_execs_cons (wpAny_Return_some q)
theorem z_if {test : Expr} {body orelse : List Stmt} (q : wpAny M A (PySem.isTrue test env (eval test env)) (fun c s₂ => if c = true then wpAny M A (execs body env) (seqK M A rest env Q E) E s₂ else wpAny M A (execs orelse env) (seqK M A rest env Q E) E s₂) E s) :
    wpAny M A (execs (.If test body orelse pos :: rest) env) Q E s := wpAny_execs_cons (wpAny_If q)
theorem z_expr {prog : Program} {w : World} {K : Frag} {L : Addr} {ns : List Str} {gns bns : List (Str × Value)} {e : Expr} (V : EV K env L ns gns bns) (q : wpAny (model prog w) A (eval e env) (fun _ s' => wpAny (model prog w) A (execs rest env) Q E s') E s)
    (hs : swapsWith e none pos.line env = pure false := by rfl) : wpAny (model prog w) A (execs (.Expr e pos :: rest) env) Q E s :=
  wpAny_execs_cons (wpAny_Expr_any q (by unfold interactive; rw [V.kind]; rfl) hs)
end
theorem z_yes {c : Bool} {P Q : Prop} (h : c = true) (p : P) : if c = true then P else Q := by rw [if_pos h]; exact p
theorem z_no {c : Bool} {P Q : Prop} (h : c = false) (q : Q) : if c = true then P else Q := by rw [if_neg (by rw [h]; exact Bool.false_ne_true)]; exact q
theorem z_ite {c : Bool} {P Q : Prop} (p : c = true → P) (q : c = false → Q) : if c = true then P else Q := by
  cases h : c with
  | true => rw [if_pos rfl]; exact p h
  | false => rw [if_neg Bool.false_ne_true]; exact q h
section
variable {M : Model} {A : Around} {E : Value → Shared → Prop} {s : Shared} {env : Env}
end
section
variable {prog : Program} {w : World} {A : Around} {E : Value → Shared → Prop} {K : Frag} {b h : Heap} {L : Addr} {m : Str → Option Value} {nw nw' : List (Addr × Obj)} {g : Array GenState} {dr : Drawn} {tk : Nat} {os : OsState} {env : Env} {pos : Pos} {k : Nat}
  {ns : List Str} {gns bns : List (Str × Value)}
theorem z_loopC {s : Shared} {R : Result → Shared → Prop} {target : Expr} {it : Value} {body : List Stmt} (I : Nat → Shared → Prop) (Er : Value → Shared → Prop) (hEr : ∀ e s, Er e s → notedBy (model prog w) A env (fun e s' => R (.error e) s') e s)
    (turn : ∀ n s, I n s → wpAny (model prog w) A (pyNext it) (fun r s₁ => match r with
      | none => R (.ok .next) s₁
      | some v => wpAny (model prog w) A (letOwnedTupleGo target it v) (fun _ s₂ => wpAny (model prog w) A (assign target env v) (fun _ s₃ => wpAny (model prog w) A (execs body env) (fun f s₄ => match f with
          | .next | .cont => ∃ m, m < n ∧ I m s₄
          | .brk => R (.ok .next) s₄
          | .ret v => R (.ok (.ret v)) s₄) Er s₃) (fun _ _ => False) s₂) (fun _ _ => False) s₁) (fun _ _ => False) s)
    (n : Nat) (hI : I n s) : codeAny (model prog w) A (.forLoop target it body [] env) R s := by
  refine codeAny_loop' rfl I (fun n s hI => ?_) n hI
  show wpAny _ _ ((forTurn target it body [] env).onRaise (fun x => do noteFrame x env; theTreesLotGoes x)) _ _ s
  refine wpAny_noted ?_
  unfold forTurn
  refine wpAny_bind (wpAny_standAt (wpAny_bind (wpAny_onRaise (wpAny_mono (turn n s hI) (fun r s₁ h₁ => ?_) fun _ _ x => x.elim))))
  cases r with
  | none => exact wpAny_pure (.inr ⟨rfl, codeAny_block (wpAny_execs_nil h₁)⟩)
  | some v =>
    refine wpAny_bind (wpAny_mono h₁ (fun _ s₂ h₂ => wpAny_bind (wpAny_mono h₂ (fun _ s₃ h₃ => wpAny_bind (wpAny_mono h₃ (fun f s₄ h₄ => ?_) fun e s' x => hEr e s' x)) fun _ _ x => x.elim)) fun _ _ x => x.elim)
    cases f with
    | next => exact wpAny_pure (.inl ⟨rfl, h₄⟩)
    | cont => exact wpAny_pure (.inl ⟨rfl, h₄⟩)
    | brk => exact wpAny_pure h₄
    | ret v => exact wpAny_pure h₄
theorem letGo_name {x : Str} {px : Pos} {it v : Value} : letOwnedTupleGo (.Name x px) it v = pure () := rfl

/-- the loop's own objects after a step that changes them alone -/
theorem SF.own {h' : Heap} {own : List (Addr × Obj)} (S : SF b L h m (nw ++ own)) (kp : ∀ c o, c ∉ own.map (·.1) → h.get? c = some o → h'.get? c = some o) (live : ∀ c ∈ own.map (·.1), ∃ o, h'.get? c = some o) :
    ∃ own', own'.map (·.1) = own.map (·.1) ∧ SF b L h' m (nw ++ own') := by
  refine wk ?_ ?_
  · have nd := S.nd
    rw [List.map_append, List.nodup_append] at nd
    have hex : ∀ l : List Addr, (∀ c ∈ l, ∃ o, h'.get? c = some o) → ∃ own' : List (Addr × Obj), own'.map (·.1) = l ∧ ∀ p ∈ own', h'.get? p.1 = some p.2 := by
      intro l
      induction l with
      | nil => intro _; exact ⟨[], rfl, fun _ hp => nomatch hp⟩
      | cons c l ih =>
        intro hl
        obtain ⟨o, ho⟩ := hl c (.head _)
        obtain ⟨own', e, hp⟩ := ih fun d hd => hl d (.tail _ hd)
        refine ⟨(c, o) :: own', by rw [List.map_cons, e], fun p hq => ?_⟩
        cases hq with
        | head => exact ho
        | tail _ hq => exact hp p hq
    obtain ⟨own', e, hp⟩ := hex _ live
    have inold : ∀ p ∈ own', p.1 ∈ own.map (·.1) := fun p hq => e ▸ List.mem_map_of_mem (f := (·.1)) hq
    have frs : ∀ c ∈ own.map (·.1), c ≠ L ∧ b.get? c = none := fun c hc => by
      obtain ⟨p, hq, rfl⟩ := List.mem_map.mp hc
      exact (S.news p (List.mem_append_right _ hq)).2
    obtain ⟨oL, es, ep, hL, r⟩ := S.fr.ns
    refine ⟨own', e, ⟨⟨oL, es, ep, kp L oL (fun hc => (frs L hc).1 rfl) hL, r⟩, fun a o q => kp a o (fun hc => by rw [(frs a hc).2] at q; cases q) (S.fr.keep a o q), S.fr.above⟩, fun p hq => ?_, ?_⟩
    · rcases List.mem_append.mp hq with q | q
      rotate_left
      · exact ⟨hp p q, frs _ (inold p q)⟩
      · exact ⟨kp _ _ (fun hc => nd.2.2 _ (List.mem_map_of_mem (f := (·.1)) q) _ hc rfl) (S.news p (List.mem_append_left _ q)).1, (S.news p (List.mem_append_left _ q)).2⟩
    · rw [List.map_append, e, ← List.map_append]; exact S.nd
  kct_strs
noncomputable def LoopEnd (b : Heap) (L : Addr) (ns : List Str) (own : List (Addr × Obj)) (Inv : (Nat → Option Value) → List (Addr × Obj) → Prop) (g : Array GenState) (dr : Drawn) (os : OsState) (Q : Flow → Shared → Prop) (f : Flow) (s : Shared) : Prop :=
  match f with
  | .next | .cont => ∃ h' tk' f' nw', s = ⟨h', g, dr, tk', os⟩ ∧ SF b L h' (lc ns f') (nw' ++ own) ∧ Inv f' nw'
  | .brk => Q .next s
  | .ret v => Q (.ret v) s
theorem LoopEnd.turn {own : List (Addr × Obj)} {Inv : (Nat → Option Value) → List (Addr × Obj) → Prop} {Q : Flow → Shared → Prop} {f' : Nat → Option Value} {nw₁ : List (Addr × Obj)} (S : SF b L h (lc ns f') nw₁) (hs : (nw' ++ own).Sublist nw₁) (hi : Inv f' nw') :
    LoopEnd b L ns own Inv g dr os Q .next ⟨h, g, dr, tk, os⟩ := ⟨h, tk, f', nw', rfl, S.sub hs, hi⟩

/-- a for over names, by an invariant over the locals and the ledger -/
theorem z_for {x : Str} {px : Pos} {i₀ : Nat} {it : Addr} {fp wr : List Addr} {n : Nat} {P : Nat → Value → Prop} {St : Nat → Heap → Prop} {f : Nat → Option Value} {body : List Stmt} {Q : Flow → Shared → Prop} {own₀ : List (Addr × Obj)}
    (Er : Value → Shared → Prop) (hEr : ∀ e s, Er e s → notedBy (model prog w) A env (cameBackBy (model prog w) A env E) e s)
    (Inv : Nat → (Nat → Option Value) → List (Addr × Obj) → Prop) (stay : List (Addr × Obj)) (W : Walks prog w A it fp wr n P St) (hlive : ∀ i h, St i h → ∀ c ∈ wr, ∃ o, h.get? c = some o)
    (V : EV K env L ns gns bns) (S : SF b L h (lc ns f) (nw ++ own₀)) (how : own₀.map (·.1) = wr) (hx : IxAt ns x i₀) (hst : St 0 h) (hfp : ∀ c ∈ fp, c ∈ wr ∨ (∃ o, b.get? c = some o) ∨ c ∈ stay.map (·.1)) (hstay : ∀ i f nw, Inv i f nw → ∀ p ∈ stay, p ∈ nw)
    (h0 : Inv 0 f nw)
    (turn : ∀ i v h₁ tk₁ f₁ nw₁ own, i < n → P i v → Inv i f₁ nw₁ → SF b L h₁ (lc ns (up f₁ i₀ v)) (nw₁ ++ own) →
      wpAny (model prog w) A (execs body env) (LoopEnd b L ns own (Inv (i + 1)) g dr os Q) Er ⟨h₁, g, dr, tk₁, os⟩)
    (done : ∀ h₁ tk₁ f₁ nw₁, Inv n f₁ nw₁ → SF b L h₁ (lc ns f₁) nw₁ → Q .next ⟨h₁, g, dr, tk₁, os⟩) :
    codeAny (model prog w) A (.forLoop (.Name x px) (.ref it) body [] env) (fun r s' => match r with | .ok f => Q f s' | .error e => cameBackBy (model prog w) A env E e s') ⟨h, g, dr, tk, os⟩ := by
  refine wk ?_ ?_
  · refine z_loopC (fun j s => ∃ i h₁ tk₁ f₁ nw₁ own, j = n - i ∧ i ≤ n ∧ s = ⟨h₁, g, dr, tk₁, os⟩ ∧ own.map (·.1) = wr ∧ SF b L h₁ (lc ns f₁) (nw₁ ++ own) ∧ Inv i f₁ nw₁ ∧ St i h₁) Er hEr ?_ n
      ⟨0, h, tk, f, nw, own₀, rfl, Nat.zero_le _, rfl, how, S, h0, hst⟩
    rintro j s ⟨i, h₁, tk₁, f₁, nw₁, own, rfl, hin, rfl, ho, S₁, hI, hs⟩
    rcases Nat.lt_or_ge i n with hlt | hge
    · refine W.item i _ _ _ hlt hs fun v h₂ tk₂ hP hs₂ hk => ?_
      obtain ⟨own₂, e₂, S₂⟩ := S₁.own (h' := h₂) (fun c o hc e => hk c o (ho ▸ hc) e) (fun c hc => hlive _ _ hs₂ c (ho ▸ hc))
      dsimp only
      rw [letGo_name]
      refine wpAny_pure (PySem.wpAny_assign_Name (z_store V S₂ hx fun h₃ tk₃ S₃ => ?_))
      have hs₃ : St (i + 1) h₃ := by
        refine W.frame _ _ _ hs₂ fun c hc o e => ?_
        rcases hfp c hc with q | ⟨o', q⟩ | q
        · have : c ∈ own₂.map (·.1) := by rw [e₂, ho]; exact q
          obtain ⟨p, hp, rfl⟩ := List.mem_map.mp this
          have h1 := (S₂.news p (List.mem_append_right _ hp)).1
          have h2 := (S₃.news p (List.mem_append_right _ hp)).1
          rw [h1] at e; rw [h2, e]
        · have h1 := S₂.keep _ _ q
          have h2 := S₃.keep _ _ q
          rw [h1] at e; rw [h2, e]
        · obtain ⟨p, hp, rfl⟩ := List.mem_map.mp q
          have hp' := hstay _ _ _ hI p hp
          have h1 := (S₂.news p (List.mem_append_left _ hp')).1
          have h2 := (S₃.news p (List.mem_append_left _ hp')).1
          rw [h1] at e; rw [h2, e]
      refine wpAny_mono (turn i v h₃ tk₃ f₁ nw₁ own₂ hlt hP hI S₃) (fun fl s' z => ?_) fun _ _ x => x
      have fin : (∃ h' tk' f' nw', s' = ⟨h', g, dr, tk', os⟩ ∧ SF b L h' (lc ns f') (nw' ++ own₂) ∧ Inv (i + 1) f' nw') →
          ∃ m, m < n - i ∧ ∃ i' h₁ tk₁ f₁ nw₁ own, m = n - i' ∧ i' ≤ n ∧ s' = ⟨h₁, g, dr, tk₁, os⟩ ∧ own.map (·.1) = wr ∧ SF b L h₁ (lc ns f₁) (nw₁ ++ own) ∧ Inv i' f₁ nw₁ ∧ St i' h₁ := by
        rintro ⟨h', tk', f', nw', rfl, S', hI'⟩
        refine ⟨n - (i + 1), by omega, i + 1, h', tk', f', nw', own₂, rfl, hlt, rfl, e₂.trans ho, S', hI', W.frame _ _ _ hs₃ fun c hc o e => ?_⟩
        rcases hfp c hc with q | ⟨o', q⟩ | q
        · have : c ∈ own₂.map (·.1) := by rw [e₂, ho]; exact q
          obtain ⟨p, hp, rfl⟩ := List.mem_map.mp this
          have h1 := (S₃.news p (List.mem_append_right _ hp)).1
          have h2 := (S'.news p (List.mem_append_right _ hp)).1
          rw [h1] at e; rw [h2, e]
        · have h1 := S₃.keep _ _ q
          have h2 := S'.keep _ _ q
          rw [h1] at e; rw [h2, e]
        · obtain ⟨p, hp, rfl⟩ := List.mem_map.mp q
          have h1 := (S₃.news p (List.mem_append_left _ (hstay _ _ _ hI p hp))).1
          have h2 := (S'.news p (List.mem_append_left _ (hstay _ _ _ hI' p hp))).1
          rw [h1] at e; rw [h2, e]
      cases fl with
      | next => exact fin z
      | cont => exact fin z
      | brk => exact z
      | ret v => exact z
    · have : i = n := Nat.le_antisymm hin hge
      subst this
      refine W.done _ _ _ hs fun h₂ tk₂ hk => ?_
      have S' : SF b L h₁ (lc ns f₁) nw₁ := S₁.sub (List.sublist_append_left _ _)
      obtain ⟨oL, es, ep, hL, r⟩ := S₁.fr.ns
      have nd := S₁.nd
      rw [List.map_append, List.nodup_append] at nd
      have frs : ∀ c ∈ wr, c ≠ L ∧ b.get? c = none := fun c hc => by
        rw [← ho] at hc
        obtain ⟨p, hq, rfl⟩ := List.mem_map.mp hc
        exact (S₁.news p (List.mem_append_right _ hq)).2
      exact done h₂ tk₂ f₁ nw₁ hI ⟨⟨⟨oL, es, ep, hk L oL (fun hc => (frs L hc).1 rfl) hL, r⟩, fun a o q => hk a o (fun hc => by rw [(frs a hc).2] at q; cases q) (S₁.fr.keep a o q), S₁.fr.above⟩,
        fun p hp => ⟨hk _ _ (fun hc => nd.2.2 _ (List.mem_map_of_mem (f := (·.1)) hp) p.1 (ho ▸ hc) rfl) (S'.news p hp).1, (S'.news p hp).2⟩, S'.nd⟩
  kct_strs
end
section
variable {prog : Program} {w : World} {A : Around} {E : Value → Shared → Prop} {K : Frag} {b h : Heap} {L : Addr} {m : Str → Option Value} {nw nw' : List (Addr × Obj)} {g : Array GenState} {dr : Drawn} {tk : Nat} {os : OsState} {env : Env} {pos : Pos} {k : Nat}
  {ns : List Str} {gns bns : List (Str × Value)}
theorem SF.rot {p : Addr × Obj} (S : SF b L h m (p :: nw)) : SF b L h m (nw ++ [p]) :=
  ⟨S.fr, fun q hq => S.news q (by rcases List.mem_append.mp hq with z | z; exact .tail _ z; rw [List.mem_singleton.mp z]; exact .head _), by
    have := S.nd
    rw [List.map_cons, List.nodup_cons] at this
    rw [List.map_append, List.nodup_append]
    refine ⟨this.2, by simp, fun x hx y hy e => ?_⟩
    simp only [List.map_cons, List.map_nil, List.mem_singleton] at hy
    subst hy; subst e; exact this.1 hx⟩
/-- the head of a for statement -/
theorem z_forS {M : Model} {s : Shared} {target iter : Expr} {body rest : List Stmt} {Q : Flow → Shared → Prop}
    (q : wpAny M A (eval iter env) (fun xv s₁ => wpAny M A (pyIter xv) (fun it s₂ => codeAny M A (.forLoop target it body [] env) (fun r s' => match r with | .ok f => seqK M A rest env Q E f s' | .error e => cameBackBy M A env E e s') s₂) E s₁) E s)
    (hs : ∀ x, foldedSetIterable iter env x = pure x := by intro _; rfl) : wpAny M A (execs (.For target iter body [] pos :: rest) env) Q E s := wpAny_execs_cons (wpAny_For q hs)
theorem Er_none {Er : Value → Shared → Prop} : ∀ (e : Value) (s : Shared), (fun _ _ => False) e s → notedBy (model prog w) A env (cameBackBy (model prog w) A env E) e s := fun _ _ x => x.elim

theorem z_listLoop {x : Str} {px : Pos} {i₀ : Nat} {l : Addr} {vs : List Value} {f : Nat → Option Value} {body : List Stmt} {Q : Flow → Shared → Prop}
    (Er : Value → Shared → Prop) (hEr : ∀ e s, Er e s → notedBy (model prog w) A env (cameBackBy (model prog w) A env E) e s)
    (Inv : Nat → (Nat → Option Value) → List (Addr × Obj) → Prop) (stay : List (Addr × Obj)) (hh : A.handled = none)
    (V : EV K env L ns gns bns) (S : SF b L h (lc ns f) nw) (hx : IxAt ns x i₀) (hl : h.IsList l vs.toArray) (hb : (∃ o, b.get? l = some o) ∨ l ∈ stay.map (·.1)) (hstay : ∀ i f nw, Inv i f nw → ∀ p ∈ stay, p ∈ nw) (h0 : Inv 0 f nw)
    (turn : ∀ i v h₁ tk₁ f₁ nw₁ own (T : Flow → Shared → Prop) (_ : ∀ f s, LoopEnd b L ns own (Inv (i + 1)) g dr os Q f s → T f s), vs[i]? = some v → Inv i f₁ nw₁ → SF b L h₁ (lc ns (up f₁ i₀ v)) (nw₁ ++ own) →
      wpAny (model prog w) A (execs body env) T Er ⟨h₁, g, dr, tk₁, os⟩)
    (done : ∀ h₁ tk₁ f₁ nw₁, Inv vs.length f₁ nw₁ → SF b L h₁ (lc ns f₁) nw₁ → Q .next ⟨h₁, g, dr, tk₁, os⟩) :
    wpAny (model prog w) A (pyIter (.ref l)) (fun it s₂ => codeAny (model prog w) A (.forLoop (.Name x px) it body [] env) (fun r s' => match r with | .ok f => Q f s' | .error e => cameBackBy (model prog w) A env E e s') s₂) E ⟨h, g, dr, tk, os⟩ := by
  refine wk ?_ ?_
  · obtain ⟨ol, hol, _⟩ := id hl
    have hne : l ≠ h.objs.size := Nat.ne_of_lt (Heap.lt_size hol)
    refine wpAny_pyIter_list (s := ⟨h, g, dr, tk, os⟩) hl ?_
    have W := Walks.list (prog := prog) (w := w) hh h.objs.size l hne vs.toArray
    have S' := (S.push ⟨.type "list_iterator", none, .fields #[.ref l, .int 0 0], #[]⟩ rfl).rot
    refine z_for Er hEr Inv stay W (fun i h hs c hc => ?_) V S' rfl hx ⟨⟨_, Heap.get?_push_size _ rfl, rfl, rfl⟩, hl.at fun o e => Heap.get?_push_of_some _ e⟩ (fun c hc => ?_) hstay h0 ?_ ?_
    · rw [List.mem_singleton.mp hc]; obtain ⟨o, ho, _⟩ := hs.1; exact ⟨o, ho⟩
    · rcases List.mem_cons.mp hc with rfl | hc
      · exact .inl (.head _)
      · rw [List.mem_singleton.mp hc]; exact .inr hb
    · intro i v h₁ tk₁ f₁ nw₁ own hi hP hI S₁
      exact turn i v h₁ tk₁ f₁ nw₁ own _ (fun _ _ x => x) (by simpa using hP) hI S₁
    · intro h₁ tk₁ f₁ nw₁ hI S₁
      rw [List.size_toArray] at hI
      exact done h₁ tk₁ f₁ nw₁ hI S₁
  kct_strs
theorem z_rangeLoop {x : Str} {px : Pos} {i₀ n : Nat} {t : Tok} {f : Nat → Option Value} {body : List Stmt} {Q : Flow → Shared → Prop}
    (Er : Value → Shared → Prop) (hEr : ∀ e s, Er e s → notedBy (model prog w) A env (cameBackBy (model prog w) A env E) e s)
    (Inv : Nat → (Nat → Option Value) → List (Addr × Obj) → Prop) (hh : A.handled = none)
    (V : EV K env L ns gns bns) (S : SF b L h (lc ns f) nw) (hx : IxAt ns x i₀) (hn : n ≤ 1000) (h0 : Inv 0 f nw)
    (turn : ∀ i t h₁ tk₁ f₁ nw₁ own (T : Flow → Shared → Prop) (_ : ∀ f s, LoopEnd b L ns own (Inv (i + 1)) g dr os Q f s → T f s), i < n → Inv i f₁ nw₁ → SF b L h₁ (lc ns (up f₁ i₀ (.int (i : Nat) t))) (nw₁ ++ own) →
      wpAny (model prog w) A (execs body env) T Er ⟨h₁, g, dr, tk₁, os⟩)
    (done : ∀ h₁ tk₁ f₁ nw₁, Inv n f₁ nw₁ → SF b L h₁ (lc ns f₁) nw₁ → Q .next ⟨h₁, g, dr, tk₁, os⟩) :
    wpAny (model prog w) A (call (.type "range") [.int (n : Nat) t]) (fun xv s₁ => wpAny (model prog w) A (pyIter xv) (fun it s₂ => codeAny (model prog w) A (.forLoop (.Name x px) it body [] env) (fun r s' => match r with | .ok f => Q f s' | .error e => cameBackBy (model prog w) A env E e s') s₂) E s₁) E ⟨h, g, dr, tk, os⟩ := by
  refine wk ?_ ?_
  · refine call_range_1 (s := ⟨h, g, dr, tk, os⟩) ?_
    have hsz : Builtin.Range.rangeSize 0 (n : Int) 1 = n := by rw [rangeSize_one]; split <;> omega
    refine wpAny_pyIter_range (IsRange.new h 0 n 1 tk t (tk + 1)) (small_one (by omega) (by omega) (by omega) (by omega)) ?_
    dsimp only
    rw [hsz]
    have S1 := S.push ⟨.type "range", none, .fields #[.int 0 tk, .int n t, .int 1 (tk + 1)], #[]⟩ rfl
    have S2 := (S1.push ⟨.type "range_iterator", none, .fields #[rawInt 0, rawInt n, rawInt 1], #[]⟩ rfl)
    have S3 := (S2.sub (nw' := (_, _) :: nw) (List.Sublist.cons_cons _ (List.Sublist.cons _ (List.Sublist.refl _)))).rot
    have W := Walks.range (prog := prog) (w := w) hh (h.push ⟨.type "range", none, .fields #[.int 0 tk, .int n t, .int 1 (tk + 1)], #[]⟩).objs.size 0 1 n
    refine z_for Er hEr Inv [] W (fun i h hs c hc => ?_) V S3 rfl hx ?_ (fun c hc => .inl hc) (fun _ _ _ _ _ hp => nomatch hp) h0 ?_ done
    · rw [List.mem_singleton.mp hc]; exact ⟨_, hs⟩
    · have := Heap.get?_push_size (h.push ⟨.type "range", none, .fields #[.int 0 tk, .int n t, .int 1 (tk + 1)], #[]⟩) (o := ⟨.type "range_iterator", none, .fields #[rawInt 0, rawInt n, rawInt 1], #[]⟩) rfl
      simpa using this
    · rintro i v h₁ tk₁ f₁ nw₁ own hi ⟨t', rfl⟩ hI S₁
      have e : (0 : Int) + (i : Int) * 1 = (i : Nat) := by omega
      rw [e] at S₁
      exact turn i t' h₁ tk₁ f₁ nw₁ own _ (fun _ _ x => x) hi hI S₁
  kct_strs
/-- a tuple of two names assigned from a tuple -/
theorem z_unpack2 {x y : Str} {px py : Pos} {k : Nat} {t : Addr} {v₁ v₂ : Value} {Q : Unit → Shared → Prop} (hh : A.handled = none) (S : SF b L h m nw) (hT : IsTup h t #[v₁, v₂])
    (q : ∀ h', SF b L h' m nw → (∀ c o, h.get? c = some o → h'.get? c = some o) → wpAny (model prog w) A (storeName env x v₁) (fun _ s₁ => wpAny (model prog w) A (storeName env y v₂) Q E s₁) E ⟨h', g, dr, tk, os⟩) :
    wpAny (model prog w) A (assign (.Tuple [.Name x px, .Name y py] k pos) env (.ref t)) Q E ⟨h, g, dr, tk, os⟩ := by
  refine assign_Tuple_tuple (s := ⟨h, g, dr, tk, os⟩) hh hT rfl rfl fun h' he => ?_
  have kp : ∀ c o, h.get? c = some o → h'.get? c = some o := fun c o e => he c o (Nat.ne_of_lt (Heap.lt_size e)) e
  refine assignInOrder_cons (PyProof.Rows.assign_Name (wpAny_mono (q h' (S.keeps kp) kp) (fun _ s₁ z => assignInOrder_cons (PyProof.Rows.assign_Name (wpAny_mono z (fun _ s₂ y => assignInOrder_nil y) fun _ _ x => x))) fun _ _ x => x))
theorem z_unpack3 {x y z : Str} {px py pz : Pos} {k : Nat} {t : Addr} {v₁ v₂ v₃ : Value} {Q : Unit → Shared → Prop} (hh : A.handled = none) (S : SF b L h m nw) (hT : IsTup h t #[v₁, v₂, v₃])
    (q : ∀ h', SF b L h' m nw → (∀ c o, h.get? c = some o → h'.get? c = some o) → wpAny (model prog w) A (storeName env x v₁) (fun _ s₁ => wpAny (model prog w) A (storeName env y v₂) (fun _ s₂ => wpAny (model prog w) A (storeName env z v₃) Q E s₂) E s₁) E ⟨h', g, dr, tk, os⟩) :
    wpAny (model prog w) A (assign (.Tuple [.Name x px, .Name y py, .Name z pz] k pos) env (.ref t)) Q E ⟨h, g, dr, tk, os⟩ := by
  refine assign_Tuple_tuple (s := ⟨h, g, dr, tk, os⟩) hh hT rfl rfl fun h' he => ?_
  have kp : ∀ c o, h.get? c = some o → h'.get? c = some o := fun c o e => he c o (Nat.ne_of_lt (Heap.lt_size e)) e
  refine assignInOrder_cons (PyProof.Rows.assign_Name (wpAny_mono (q h' (S.keeps kp) kp) (fun _ s₁ z₁ => assignInOrder_cons (PyProof.Rows.assign_Name (wpAny_mono z₁ (fun _ s₂ z₂ => assignInOrder_cons (PyProof.Rows.assign_Name (wpAny_mono z₂ (fun _ s₃ y => assignInOrder_nil y) fun _ _ x => x))) fun _ _ x => x))) fun _ _ x => x))
theorem z_assignT {M : Model} {s : Shared} {elts : List Expr} {k : Nat} {tpos : Pos} {value : Expr} {rest : List Stmt} {Q : Flow → Shared → Prop}
    (q : wpAny M A (eval value env) (fun v s₁ => wpAny M A (assign (.Tuple elts k tpos) env v) (fun _ s₂ => wpAny M A (execs rest env) Q E s₂) E s₁) E s)
    (hs : swapsWithSole [.Tuple elts k tpos] value pos.line env = pure false := by rfl) (hw : swappedStores [.Tuple elts k tpos] value env = pure none := by rfl) :
    wpAny M A (execs (.Assign [.Tuple elts k tpos] value pos :: rest) env) Q E s := wpAny_execs_cons (Assign_Tuple q hs hw)

theorem z_whileC {s : Shared} {R : Result → Shared → Prop} {test : Expr} {body : List Stmt} (I : Nat → Shared → Prop) (Er : Value → Shared → Prop) (hEr : ∀ e s, Er e s → notedBy (model prog w) A env (fun e s' => R (.error e) s') e s)
    (turn : ∀ n s, I n s → wpAny (model prog w) A (PySem.isTrue test env (eval test env)) (fun c s₂ =>
        if c = true then wpAny (model prog w) A (execs body env) (fun f s₃ => match f with
            | .next | .cont => ∃ m, m < n ∧ I m s₃
            | .brk => R (.ok .next) s₃
            | .ret v => R (.ok (.ret v)) s₃) Er s₂
        else R (.ok .next) s₂) Er s)
    (n : Nat) (hI : I n s) : codeAny (model prog w) A (.whileLoop test body [] env) R s := by
  refine codeAny_whileLoop I (fun n s hI => wpAny_mono (turn n s hI) (fun c s₂ z => ?_) fun e s' x => hEr e s' x) n hI
  cases c with
  | true =>
    rw [if_pos rfl] at z
    show wpAny _ _ _ _ _ _
    exact wpAny_mono z (fun f s₃ y => y) fun e s' x => hEr e s' x
  | false =>
    rw [if_neg Bool.false_ne_true] at z
    show wpAny _ _ _ _ _ _
    exact wpAny_execs_nil z
theorem z_while {M : Model} {s : Shared} {test : Expr} {body rest : List Stmt} {Q : Flow → Shared → Prop}
    (q : codeAny M A (.whileLoop test body [] env) (fun r s' => match r with | .ok f => seqK M A rest env Q E f s' | .error e => cameBackBy M A env E e s') s) :
    wpAny M A (execs (.While test body [] pos :: rest) env) Q E s := wpAny_execs_cons (wpAny_While q)
end
section
variable {prog : Program} {w : World} {A : Around} {E : Value → Shared → Prop} {K : Frag} {b h : Heap} {L : Addr} {m : Str → Option Value} {nw nw' : List (Addr × Obj)} {g : Array GenState} {dr : Drawn} {tk : Nat} {os : OsState} {env : Env} {pos : Pos} {k : Nat}
  {ns : List Str} {gns bns : List (Str × Value)}
theorem SF.own' {h' : Heap} {own : List (Addr × Obj)} {wr : List Addr} (S : SF b L h m (nw ++ own)) (ho : own.map (·.1) = wr) (kp : ∀ c o, c ∉ wr → h.get? c = some o → h'.get? c = some o) (live : ∀ c ∈ wr, ∃ o, h'.get? c = some o) :
    ∃ own', own'.map (·.1) = wr ∧ SF b L h' m (nw ++ own') := by
  subst ho; exact S.own kp live
theorem SF.same {h₁ h₂ : Heap} {m' : Str → Option Value} {nw₁ nw₂ own stay : List (Addr × Obj)} {fp wr : List Addr} (S₁ : SF b L h₁ m (nw₁ ++ own)) (S₂ : SF b L h₂ m' (nw₂ ++ own)) (ho : own.map (·.1) = wr)
    (hfp : ∀ c ∈ fp, c ∈ wr ∨ (∃ o, b.get? c = some o) ∨ c ∈ stay.map (·.1)) (h1 : ∀ p ∈ stay, p ∈ nw₁) (h2 : ∀ p ∈ stay, p ∈ nw₂) : ∀ c ∈ fp, ∀ o, h₁.get? c = some o → h₂.get? c = some o := by
  refine wk ?_ ?_
  · intro c hc o e
    rcases hfp c hc with q | ⟨o', q⟩ | q
    · rw [← ho] at q
      obtain ⟨p, hp, rfl⟩ := List.mem_map.mp q
      have z1 := (S₁.news p (List.mem_append_right _ hp)).1
      have z2 := (S₂.news p (List.mem_append_right _ hp)).1
      rw [z1] at e; rw [z2, e]
    · have z1 := S₁.keep _ _ q
      have z2 := S₂.keep _ _ q
      rw [z1] at e; rw [z2, e]
    · obtain ⟨p, hp, rfl⟩ := List.mem_map.mp q
      have z1 := (S₁.news p (List.mem_append_left _ (h1 p hp))).1
      have z2 := (S₂.news p (List.mem_append_left _ (h2 p hp))).1
      rw [z1] at e; rw [z2, e]
  kct_strs
theorem SF.done {h' : Heap} {own : List (Addr × Obj)} {wr : List Addr} (S : SF b L h m (nw ++ own)) (ho : own.map (·.1) = wr) (hk : ∀ c o, c ∉ wr → h.get? c = some o → h'.get? c = some o) : SF b L h' m nw := by
  refine wk ?_ ?_
  · have S' : SF b L h m nw := S.sub (List.sublist_append_left _ _)
    obtain ⟨oL, es, ep, hL, r⟩ := S.fr.ns
    have nd := S.nd
    rw [List.map_append, List.nodup_append] at nd
    have frs : ∀ c ∈ wr, c ≠ L ∧ b.get? c = none := fun c hc => by
      rw [← ho] at hc
      obtain ⟨p, hq, rfl⟩ := List.mem_map.mp hc
      exact (S.news p (List.mem_append_right _ hq)).2
    exact ⟨⟨⟨oL, es, ep, hk L oL (fun hc => (frs L hc).1 rfl) hL, r⟩, fun a o q => hk a o (fun hc => by rw [(frs a hc).2] at q; cases q) (S.fr.keep a o q), S.fr.above⟩,
        fun p hp => ⟨hk _ _ (fun hc => nd.2.2 _ (List.mem_map_of_mem (f := (·.1)) hp) p.1 (ho ▸ hc) rfl) (S'.news p hp).1, (S'.news p hp).2⟩, S'.nd⟩
  kct_strs
/-- a for over a tuple of two names -/
theorem z_forT {x y : Str} {px py tpos : Pos} {kk i₀ j₀ : Nat} {it : Addr} {fp wr : List Addr} {n : Nat} {Pt : Nat → Array Value → Prop} {St : Nat → Heap → Prop} {Mid : Nat → Addr → Heap → Prop} {f : Nat → Option Value} {body : List Stmt} {Q : Flow → Shared → Prop} {own₀ : List (Addr × Obj)}
    (Er : Value → Shared → Prop) (hEr : ∀ e s, Er e s → notedBy (model prog w) A env (cameBackBy (model prog w) A env E) e s)
    (Inv : Nat → (Nat → Option Value) → List (Addr × Obj) → Prop) (stay : List (Addr × Obj)) (W : WalksU prog w A it fp wr n Pt St Mid) (hlive : ∀ i h, St i h → ∀ c ∈ wr, ∃ o, h.get? c = some o) (hh : A.handled = none)
    (V : EV K env L ns gns bns) (S : SF b L h (lc ns f) (nw ++ own₀)) (how : own₀.map (·.1) = wr) (hx : IxAt ns x i₀) (hy : IxAt ns y j₀) (hst : St 0 h) (hfp : ∀ c ∈ fp, c ∈ wr ∨ (∃ o, b.get? c = some o) ∨ c ∈ stay.map (·.1)) (hstay : ∀ i f nw, Inv i f nw → ∀ p ∈ stay, p ∈ nw)
    (h0 : Inv 0 f nw) (hPt : ∀ i vals, Pt i vals → ∃ v₁ v₂, vals = #[v₁, v₂]) (hmid : ∀ i T h, Mid i T h → ∀ c ∈ wr, ∃ o, h.get? c = some o)
    (turn : ∀ i v₁ v₂ h₁ tk₁ f₁ nw₁ own, i < n → Pt i #[v₁, v₂] → Inv i f₁ nw₁ → SF b L h₁ (lc ns (up (up f₁ i₀ v₁) j₀ v₂)) (nw₁ ++ own) →
      wpAny (model prog w) A (execs body env) (LoopEnd b L ns own (Inv (i + 1)) g dr os Q) Er ⟨h₁, g, dr, tk₁, os⟩)
    (done : ∀ h₁ tk₁ f₁ nw₁, Inv n f₁ nw₁ → SF b L h₁ (lc ns f₁) nw₁ → Q .next ⟨h₁, g, dr, tk₁, os⟩) :
    codeAny (model prog w) A (.forLoop (.Tuple [.Name x px, .Name y py] kk tpos) (.ref it) body [] env) (fun r s' => match r with | .ok f => Q f s' | .error e => cameBackBy (model prog w) A env E e s') ⟨h, g, dr, tk, os⟩ := by
  refine wk ?_ ?_
  · refine z_loopC (fun j s => ∃ i h₁ tk₁ f₁ nw₁ own, j = n - i ∧ i ≤ n ∧ s = ⟨h₁, g, dr, tk₁, os⟩ ∧ own.map (·.1) = wr ∧ SF b L h₁ (lc ns f₁) (nw₁ ++ own) ∧ Inv i f₁ nw₁ ∧ St i h₁) Er hEr ?_ n
      ⟨0, h, tk, f, nw, own₀, rfl, Nat.zero_le _, rfl, how, S, h0, hst⟩
    rintro j s ⟨i, h₁, tk₁, f₁, nw₁, own, rfl, hin, rfl, ho, S₁, hI, hs⟩
    rcases Nat.lt_or_ge i n with hlt | hge
    · refine W.item i _ _ _ hlt hs fun T vals h₂ tk₂ hP hT hM hk => ?_
      obtain ⟨own₂, e₂, S₂⟩ := S₁.own' (h' := h₂) ho hk (hmid _ _ _ hM)
      obtain ⟨v₁, v₂, rfl⟩ := hPt _ _ hP
      dsimp only
      refine W.go _ _ _ i T _ _ _ hM fun h₃ hs₃ hk₃ => ?_
      obtain ⟨own₃, e₃, S₃⟩ := S₂.own' (h' := h₃) e₂ hk₃ (hlive _ _ hs₃)
      have hT₃ : IsTup h₃ T #[v₁, v₂] := by
        obtain ⟨o, ho', r⟩ := hT
        exact ⟨o, hk₃ _ _ (W.apart _ _ _ hM) ho', r⟩
      refine z_unpack2 hh S₃ hT₃ fun h₄ S₄ k₄ => ?_
      refine z_store V S₄ hx fun h₅ tk₅ S₅ => z_store V S₅ hy fun h₆ tk₆ S₆ => ?_
      have hs₆ : St (i + 1) h₆ := W.frame _ _ _ hs₃ (SF.same S₃ S₆ e₃ hfp (hstay _ _ _ hI) (hstay _ _ _ hI))
      refine wpAny_mono (turn i v₁ v₂ h₆ tk₆ f₁ nw₁ own₃ hlt hP hI S₆) (fun fl s' z => ?_) fun _ _ x => x
      have fin : (∃ h' tk' f' nw', s' = ⟨h', g, dr, tk', os⟩ ∧ SF b L h' (lc ns f') (nw' ++ own₃) ∧ Inv (i + 1) f' nw') →
          ∃ m, m < n - i ∧ ∃ i' h₁ tk₁ f₁ nw₁ own, m = n - i' ∧ i' ≤ n ∧ s' = ⟨h₁, g, dr, tk₁, os⟩ ∧ own.map (·.1) = wr ∧ SF b L h₁ (lc ns f₁) (nw₁ ++ own) ∧ Inv i' f₁ nw₁ ∧ St i' h₁ := by
        rintro ⟨h', tk', f', nw', rfl, S', hI'⟩
        exact ⟨n - (i + 1), by omega, i + 1, h', tk', f', nw', own₃, rfl, hlt, rfl, e₃, S', hI', W.frame _ _ _ hs₆ (SF.same S₆ S' e₃ hfp (hstay _ _ _ hI) (hstay _ _ _ hI'))⟩
      cases fl with
      | next => exact fin z
      | cont => exact fin z
      | brk => exact z
      | ret v => exact z
    · have : i = n := Nat.le_antisymm hin hge
      subst this
      exact W.done _ _ _ hs fun h₂ tk₂ hk => done h₂ tk₂ f₁ nw₁ hI (S₁.done ho hk)
  kct_strs
theorem z_enumLoop {x y : Str} {px py tpos : Pos} {kk i₀ j₀ : Nat} {l : Addr} {vs : List Value} {f : Nat → Option Value} {body : List Stmt} {Q : Flow → Shared → Prop}
    (Er : Value → Shared → Prop) (hEr : ∀ e s, Er e s → notedBy (model prog w) A env (cameBackBy (model prog w) A env E) e s)
    (Inv : Nat → (Nat → Option Value) → List (Addr × Obj) → Prop) (stay : List (Addr × Obj)) (hh : A.handled = none)
    (V : EV K env L ns gns bns) (S : SF b L h (lc ns f) nw) (hx : IxAt ns x i₀) (hy : IxAt ns y j₀) (hl : h.IsList l vs.toArray) (hb : (∃ o, b.get? l = some o) ∨ l ∈ stay.map (·.1)) (hstay : ∀ i f nw, Inv i f nw → ∀ p ∈ stay, p ∈ nw) (h0 : Inv 0 f nw)
    (turn : ∀ i t v h₁ tk₁ f₁ nw₁ own (T : Flow → Shared → Prop) (_ : ∀ f s, LoopEnd b L ns own (Inv (i + 1)) g dr os Q f s → T f s), vs[i]? = some v → Inv i f₁ nw₁ → SF b L h₁ (lc ns (up (up f₁ i₀ (.int (i : Nat) t)) j₀ v)) (nw₁ ++ own) →
      wpAny (model prog w) A (execs body env) T Er ⟨h₁, g, dr, tk₁, os⟩)
    (done : ∀ h₁ tk₁ f₁ nw₁, Inv vs.length f₁ nw₁ → SF b L h₁ (lc ns f₁) nw₁ → Q .next ⟨h₁, g, dr, tk₁, os⟩) :
    wpAny (model prog w) A (call (.type "enumerate") [.ref l]) (fun xv s₁ => wpAny (model prog w) A (pyIter xv) (fun it s₂ => codeAny (model prog w) A (.forLoop (.Tuple [.Name x px, .Name y py] kk tpos) it body [] env) (fun r s' => match r with | .ok f => Q f s' | .error e => cameBackBy (model prog w) A env E e s') s₂) E s₁) E ⟨h, g, dr, tk, os⟩ := by
  refine wk ?_ ?_
  · obtain ⟨ol, hol, _⟩ := id hl
    have hlt : l < h.objs.size := Heap.lt_size hol
    refine call_enumerate_list (s := ⟨h, g, dr, tk, os⟩) hl fun h' he hit hsz hk => ?_
    dsimp only at he hit hsz hk ⊢
    refine wpAny_pyIter_enum he ?_
    have W := (WalksT.enumerate (prog := prog) (w := w) hh (h.objs.size + 1) h.objs.size l (Nat.succ_ne_self _) (Nat.ne_of_lt (Nat.lt_succ_of_lt hlt)) (Nat.ne_of_lt hlt) vs.toArray).toU
    obtain ⟨oi, hoi, _⟩ := id hit
    have hnone : ∀ c, h.objs.size ≤ c → h.get? c = none := fun c hc => by
      cases z : h.get? c with
      | none => rfl
      | some o => exact absurd (Heap.lt_size z) (Nat.not_lt.mpr hc)
    have S' := S.more hk (add := [(h.objs.size + 1, _), (h.objs.size, oi)]) (fun p hp => by
      rcases List.mem_cons.mp hp with rfl | hp
      · exact ⟨he, hnone _ (by show h.objs.size ≤ h.objs.size + 1; omega)⟩
      · rw [List.mem_singleton.mp hp]; exact ⟨hoi, hnone _ (Nat.le_refl _)⟩) (by simp)
    have S'' := SF.rot (SF.rot S')
    have e : ∀ (p q : Addr × Obj), (nw ++ [p]) ++ [q] = nw ++ [p, q] := fun p q => by simp
    replace S'' := (e _ _) ▸ S''
    refine z_forT Er hEr Inv stay W (fun i h hs c hc => ?_) hh V S'' rfl hx hy ⟨⟨_, he⟩, hit, hl.at fun o e => hk _ _ e⟩ (fun c hc => ?_) hstay h0 (fun i vals hp => ?_) (fun i T h hM c hc => ?_) ?_ ?_
    · obtain ⟨⟨old, z1⟩, ⟨o, z2, _⟩, _⟩ := hs
      rcases List.mem_cons.mp hc with rfl | hc
      · exact ⟨_, z1⟩
      · rw [List.mem_singleton.mp hc]; exact ⟨_, z2⟩
    · rcases List.mem_cons.mp hc with rfl | hc
      · exact .inl (.head _)
      · rcases List.mem_cons.mp hc with rfl | hc
        · exact .inl (.tail _ (.head _))
        · rw [List.mem_singleton.mp hc]; exact .inr hb
    · obtain ⟨t, x, _, rfl⟩ := hp; exact ⟨_, _, rfl⟩
    · obtain ⟨⟨x, z1⟩, ⟨o, z2, _⟩, _⟩ := hM
      rcases List.mem_cons.mp hc with rfl | hc
      · exact ⟨_, z1⟩
      · rw [List.mem_singleton.mp hc]; exact ⟨_, z2⟩
    · rintro i v₁ v₂ h₁ tk₁ f₁ nw₁ own hi ⟨t, x, hx', e⟩ hI S₁
      obtain ⟨rfl, rfl⟩ : v₁ = .int i t ∧ v₂ = x := by simpa using e
      exact turn i t v₂ h₁ tk₁ f₁ nw₁ own _ (fun _ _ x => x) (by simpa using hx') hI S₁
    · intro h₁ tk₁ f₁ nw₁ hI S₁
      rw [List.size_toArray] at hI
      exact done h₁ tk₁ f₁ nw₁ hI S₁
  kct_strs
end
inductive AtI {α : Type} (a : α) : List α → Nat → Prop
  | head {r} : AtI a (a :: r) 0
  | tail {y r i} : AtI a r i → AtI a (y :: r) (i + 1)
theorem AtI.mem {α : Type} {a : α} {l : List α} {i : Nat} (h : AtI a l i) : a ∈ l := by
  induction h with
  | head => exact .head _
  | tail _ ih => exact .tail _ ih
theorem AtI.put {d : Addr} {o o' : Obj} {l : List (Addr × Obj)} {i : Nat} (h : AtI (d, o) l i) : Put d o o' l (l.set i (d, o')) := by
  induction h with
  | head => exact .head
  | tail _ ih => exact .tail ih
section
variable {prog : Program} {w : World} {A : Around} {E : Value → Shared → Prop} {K : Frag} {b h : Heap} {L : Addr} {m : Str → Option Value} {nw nw' : List (Addr × Obj)} {g : Array GenState} {dr : Drawn} {tk : Nat} {os : OsState} {env : Env} {pos : Pos} {k : Nat}
  {ns : List Str} {gns bns : List (Str × Value)}
theorem SF.setI {d : Addr} {h' : Heap} {o o' : Obj} {i : Nat} (S : SF b L h m nw) (hi : AtI (d, o) nw i) (hd : h'.get? d = some o') (kp : ∀ a x, a ≠ d → h.get? a = some x → h'.get? a = some x) : SF b L h' m (nw.set i (d, o')) := S.put hi.put hd kp

/-- a dict whose keys are carried by value, as an object -/
noncomputable def DObj {KT : Type} [DecidableEq KT] (knd : PySem.KeyKind prog w KT) (o : Obj) (kvs : List (KT × Value)) : Prop := ∀ (h : Heap) (d : Addr), h.get? d = some o → h.DictOf knd d kvs
variable {KT : Type} [DecidableEq KT] {knd : PySem.KeyKind prog w KT}
theorem DObj.of {h' : Heap} {d : Addr} {kvs : List (KT × Value)} (x : h'.DictOf knd d kvs) : ∃ o, h'.get? d = some o ∧ DObj knd o kvs := by
  obtain ⟨o, es, ep, ho, r⟩ := x
  exact ⟨o, ho, fun h d e => ⟨o, es, ep, e, r⟩⟩
theorem DObj.at {d : Addr} {o : Obj} {kvs : List (KT × Value)} (D : DObj knd o kvs) (S : SF b L h m nw) (hm : At (d, o) nw) : h.DictOf knd d kvs := D h d (S.news _ hm.mem).1
theorem DictOf.keeps {h' : Heap} {d : Addr} {kvs : List (KT × Value)} (x : h.DictOf knd d kvs) (kp : ∀ a o, h.get? a = some o → h'.get? a = some o) : h'.DictOf knd d kvs := by
  obtain ⟨o, es, ep, ho, r⟩ := x
  exact ⟨o, es, ep, kp _ _ ho, r⟩
/-- {} -/
theorem z_newdict {Q : Value → Shared → Prop} (S : SF b L h m nw)
    (q : ∀ d h', SF b L h' m ((d, dictOf [] 0) :: nw) → (∀ c o, h.get? c = some o → h'.get? c = some o) → h.get? d = none → Q (.ref d) ⟨h', g, dr, tk, os⟩) :
    wpAny (model prog w) A (eval (.Dict [] [] pos) env) Q E ⟨h, g, dr, tk, os⟩ :=
  wpAny_Dict_empty (s := ⟨h, g, dr, tk, os⟩) (q _ _ (S.push _ rfl) (fun c o e => Heap.get?_push_of_some _ e) (by cases z : h.get? h.objs.size with | none => rfl | some o => exact absurd (Heap.lt_size z) (Nat.lt_irrefl _)))
theorem DObj.nil : DObj knd (dictOf [] 0) [] := fun h d e => ⟨_, #[], 0, e, ⟨rfl, rfl, rfl⟩, rfl, fun _ he => by simp at he, Pairs.nil, List.nodup_nil⟩
theorem z_setkey {d : Addr} {o : Obj} {i : Nat} {kvs : List (KT × Value)} {kk : KT} {key v : Value} {Q : Unit → Shared → Prop} (S : SF b L h m nw) (hi : AtI (d, o) nw i) (D : DObj knd o kvs) (hk : knd.is kk key = true) (hz : kvs.length ≤ 1000)
    (q : ∀ h' tk' o', SF b L h' m (nw.set i (d, o')) → DObj knd o' (stored kvs kk v) → Q () ⟨h', g, dr, tk', os⟩) :
    wpAny (model prog w) A (setItem (.ref d) key v) Q E ⟨h, g, dr, tk, os⟩ := by
  refine wpAny_setItem_pairs (s := ⟨h, g, dr, tk, os⟩) hk (D h d (S.news _ hi.mem).1) (fun h' D' hs => ?_) (by rw [sizeLine_eq]; omega)
  obtain ⟨o', ho', D''⟩ := DObj.of D'
  exact q h' _ o' (S.setI hi ho' fun a x hne e => (hs.2 a hne).trans e) D''
theorem z_in {d : Addr} {kvs : List (KT × Value)} {kk : KT} {key : Value} {Q : Value → Shared → Prop} (hk : knd.is kk key = true) (hd : (d == sysModules) = false) (D : h.DictOf knd d kvs) (q : ∀ tk', Q (.bool (valueAt kvs kk).isSome) ⟨h, g, dr, tk', os⟩) :
    wpAny (model prog w) A (compareOp .In key (.ref d)) Q E ⟨h, g, dr, tk, os⟩ := wpAny_in_of (s := ⟨h, g, dr, tk, os⟩) hk hd D.mapOf (q _)
theorem z_notin {d : Addr} {kvs : List (KT × Value)} {kk : KT} {key : Value} {Q : Value → Shared → Prop} (hk : knd.is kk key = true) (hd : (d == sysModules) = false) (D : h.DictOf knd d kvs) (q : ∀ tk', Q (.bool (!(valueAt kvs kk).isSome)) ⟨h, g, dr, tk', os⟩) :
    wpAny (model prog w) A (compareOp .NotIn key (.ref d)) Q E ⟨h, g, dr, tk, os⟩ := wpAny_notIn_of (s := ⟨h, g, dr, tk, os⟩) hk hd D.mapOf (q _)
/-- a try whose body does not raise -/
theorem z_try {body orelse rest : List Stmt} {h₀ : ExceptHandler} {hs : List ExceptHandler} {s : Shared} {Q : Flow → Shared → Prop}
    (q : wpAny (model prog w) A (execs body env) (fun f s₁ => match f with | .next => wpAny (model prog w) A (execs orelse env) (seqK (model prog w) A rest env Q E) E s₁ | f => seqK (model prog w) A rest env Q E f s₁) (fun _ _ => False) s) :
    wpAny (model prog w) A (execs (.Try body (h₀ :: hs) orelse [] pos :: rest) env) Q E s :=
  wpAny_execs_cons (wpAny_Try_except (wpAny_mono q (fun f s₁ z => by cases f <;> exact z) fun _ _ x => x.elim))
end
/-! ### the plain law: rows, offsets, groups, wanted widths -/
inductive Row
  | gap (n : Int)
  | jump (j : Bool) (t : Nat) (c : Int)
  | leb (s : Bool) (o p : Nat) (c : Int)
noncomputable def lbl (i : Nat) : Str := Str.ofString "l" ++ Str.ofString (toString (i : Int))
noncomputable def offsFrom (a : Int) : List Int → List Int
  | [] => []
  | w :: r => (a + w) :: offsFrom (a + w) r
/-- the offsets of the labels, one more than the widths -/
noncomputable def offs (ws : List Int) : List Int := 0 :: offsFrom 0 ws
/-- the offset of label i -/
noncomputable def off (ws : List Int) (i : Nat) : Int := (ws.take i).sum
theorem off_succ {ws : List Int} {i : Nat} {x : Int} (h : ws[i]? = some x) : off ws (i + 1) = off ws i + x := by
  unfold off
  rw [List.take_add_one, h]
  simp [List.sum_append]
noncomputable def grp (x : Int) (s : Bool) : Int :=
  if s then (if -64 ≤ x ∧ x < 64 then 1 else if -8192 ≤ x ∧ x < 8192 then 2 else 3)
  else (if x < 128 then 1 else if x < 16384 then 2 else 3)
noncomputable def worth (ws : List Int) (o p : Nat) (c : Int) : Int := off ws o - off ws p + c
noncomputable def wanted (ws : List Int) (i : Nat) (r : Row) (wd : Int) : Int := match r with
  | .gap _ => wd
  | .leb s o p c => if worth ws o p c < 0 ∧ s = false then wd else max wd (grp (worth ws o p c) s)
  | .jump j t c => if wd ≠ 2 ∨ (-128 ≤ off ws t + c - off ws i - 2 ∧ off ws t + c - off ws i - 2 ≤ 127) then wd else if j then 5 else 6
noncomputable def first : Row → Int
  | .gap n => n
  | .jump .. => 2
  | .leb .. => 1
noncomputable def stepFrom (ws : List Int) : Nat → List Row → List Int → List Int
  | _, [], _ => []
  | _, _, [] => []
  | i, r :: rs, x :: xs => wanted ws i r x :: stepFrom ws (i + 1) rs xs
noncomputable def step (rows : List Row) (ws : List Int) : List Int := stepFrom ws 0 rows ws
noncomputable def isBelow (ws : List Int) : Row → Bool
  | .leb false o p c => decide (worth ws o p c < 0)
  | _ => false
/-- what a row may be in a section of n pieces -/
noncomputable def RowOk (n : Nat) : Row → Prop
  | .gap x => 0 ≤ x ∧ x ≤ 9000
  | .jump _ t c => t ≤ n ∧ -130 ≤ c ∧ c ≤ 130
  | .leb _ o p c => o ≤ n ∧ p ≤ n ∧ -130 ≤ c ∧ c ≤ 130
noncomputable def RowsOk (rows : List Row) : Prop := rows.length ≤ 8 ∧ ∀ r ∈ rows, RowOk rows.length r
/-- widths that a round may reach -/
noncomputable def WOk (rows : List Row) (ws : List Int) : Prop := ws.length = rows.length ∧ ∀ (i : Nat) (r : Row) (x : Int), rows[i]? = some r → ws[i]? = some x → (match r with | .gap n => x = n | .jump .. => x = 2 ∨ x = 5 ∨ x = 6 | .leb .. => 1 ≤ x ∧ x ≤ 3)

/-! ### what the heap holds of a program -/
section
variable (K : Frag) (h : Heap)
inductive PieceAt : Value → Row → Prop
  | gap {a : Addr} {n : Int} {t u : Tok} : AttrIs K h a 645 "way" (.str "space" t) → AttrIs K h a 645 "count" (.int n u) → PieceAt (.ref a) (.gap n)
  | jump {a i o r : Addr} {j : Bool} {t : Nat} {c : Int} {t1 t2 t3 t4 : Tok} : AttrIs K h a 611 "way" (.str "branch" t1) → AttrIs K h a 611 "instruction" (.ref i) → AttrIs K h i 547 "name" (.str (if j then "jmp" else "jne") t2) →
      AttrIs K h i 547 "operands" (.ref o) → IsTup h o #[.ref r] → AttrIs K h r 494 "worth" (.int c t3) → AttrIs K h r 494 "name" (.str (lbl t) t4) → PieceAt (.ref a) (.jump j t c)
  | leb {a f : Addr} {s : Bool} {o p : Nat} {c : Int} {t1 t2 t3 t4 : Tok} : AttrIs K h a 672 "way" (.str "leb" t1) → AttrIs K h a 672 "affine" (.ref f) → AttrIs K h a 672 "is_signed" (.bool s) → AttrIs K h a 672 "at" .none →
      AttrIs K h f 192 "worth" (.int c t2) → AttrIs K h f 192 "plus" (.str (if o = p then "" else lbl o) t3) → AttrIs K h f 192 "minus" (.str (if o = p then "" else lbl p) t4) → PieceAt (.ref a) (.leb s o p c)
end
theorem IsTup.keeps' {h h' : Heap} {a : Addr} {l : Array Value} (x : IsTup h a l) (kp : ∀ a o, h.get? a = some o → h'.get? a = some o) : IsTup h' a l := let ⟨o, ho, r⟩ := x; ⟨o, kp _ _ ho, r⟩
theorem IsList.keeps' {h h' : Heap} {a : Addr} {l : Array Value} (x : h.IsList a l) (kp : ∀ a o, h.get? a = some o → h'.get? a = some o) : h'.IsList a l := let ⟨o, ho, r⟩ := x; ⟨o, kp _ _ ho, r⟩
theorem PieceAt.keeps {K : Frag} {h h' : Heap} {v : Value} {r : Row} (P : PieceAt K h v r) (kp : ∀ a o, h.get? a = some o → h'.get? a = some o) : PieceAt K h' v r := by
  cases P with
  | gap a b => exact .gap (a.keeps kp) (b.keeps kp)
  | jump a b c d e f g => exact .jump (a.keeps kp) (b.keeps kp) (c.keeps kp) (d.keeps kp) (IsTup.keeps' e kp) (f.keeps kp) (g.keeps kp)
  | leb a b c d e f g => exact .leb (a.keeps kp) (b.keeps kp) (c.keeps kp) (d.keeps kp) (e.keeps kp) (f.keeps kp) (g.keeps kp)
/-- the labels' dict: label i at piece i -/
noncomputable def LabKvs : Nat → List Addr → List (Str × Value)
  | _, [] => []
  | i, T :: r => (lbl i, .ref T) :: LabKvs (i + 1) r
structure Prog (prog : Program) (w : World) (K : Frag) (h : Heap) (p : Addr) (rows : List Row) (ds ln de sec lp dl : Addr) (vs : List Value) (Ts : List Addr) (tx : Tok) : Prop where
  sections : AttrIs K h p 796 "sections" (.ref ds)
  names : AttrIs K h p 796 "names" (.ref ln)
  equates : AttrIs K h p 796 "equates" (.ref de)
  dS : h.DictOf (strKind prog w) ds [(".text", .ref sec)]
  lN : h.IsList ln #[.str ".text" tx]
  dE : h.DictOf (strKind prog w) de []
  pieces : AttrIs K h sec 733 "pieces" (.ref lp)
  labels : AttrIs K h sec 733 "labels" (.ref dl)
  lP : h.IsList lp vs.toArray
  len : vs.length = rows.length
  pcs : ∀ (i : Nat) (v : Value) (r : Row), vs[i]? = some v → rows[i]? = some r → PieceAt K h v r
  dL : h.DictOf (strKind prog w) dl (LabKvs 0 Ts)
  tlen : Ts.length = rows.length + 1
  tups : ∀ (i : Nat) (T : Addr), Ts[i]? = some T → ∃ t u, IsTup h T #[.int i t, .int 0 u]
  no1 : (de == sysModules) = false
  no2 : (dl == sysModules) = false
theorem Prog.keeps {prog : Program} {w : World} {K : Frag} {h h' : Heap} {p : Addr} {rows : List Row} {ds ln de sec lp dl : Addr} {vs : List Value} {Ts : List Addr} {tx : Tok} (P : Prog prog w K h p rows ds ln de sec lp dl vs Ts tx)
    (kp : ∀ a o, h.get? a = some o → h'.get? a = some o) : Prog prog w K h' p rows ds ln de sec lp dl vs Ts tx :=
  ⟨P.sections.keeps kp, P.names.keeps kp, P.equates.keeps kp, DictOf.keeps P.dS kp, IsList.keeps' P.lN kp, DictOf.keeps P.dE kp, P.pieces.keeps kp, P.labels.keeps kp, IsList.keeps' P.lP kp, P.len, fun i v r a c => (P.pcs i v r a c).keeps kp,
    DictOf.keeps P.dL kp, P.tlen, fun i T e => let ⟨t, u, x⟩ := P.tups i T e; ⟨t, u, IsTup.keeps' x kp⟩, P.no1, P.no2⟩
section
variable {prog : Program} {w : World} {A : Around} {E : Value → Shared → Prop} {K : Frag} {b h : Heap} {L : Addr} {m : Str → Option Value} {nw nw' : List (Addr × Obj)} {g : Array GenState} {dr : Drawn} {tk : Nat} {os : OsState} {env : Env} {pos : Pos} {k : Nat}
  {ns : List Str} {gns bns : List (Str × Value)} {Q : Value → Shared → Prop}
theorem z_both {P : Prop} (S : SF b L h m nw) (G : GR K b) (q : P) : K.In (Shared.heap ⟨h, g, dr, tk, os⟩) ∧ P := ⟨(G.keeps S.keep).inK, q⟩
theorem z_back {gb : Heap} {L' : Addr} {m' : Str → Option Value} {R : Value → Shared → Prop} {v : Value} (S : SF gb L' h m' nw') (q : SF b L h m nw' → R v ⟨h, g, dr, tk, os⟩) : Back gb L' b L m R v ⟨h, g, dr, tk, os⟩ := ⟨m', nw', S, q⟩
theorem z_at {x C : Addr} {name : Str} {v : Value} {expr : Bool} (S : SF b L h m nw) (G : GR K b) (H : AttrIs K b x C name v) (q : ∀ tk', Q v ⟨h, g, dr, tk', os⟩) :
    wpAny (model prog w) A (getAttr (.ref x) name expr) Q E ⟨h, g, dr, tk, os⟩ := z_attr G S H q
theorem z_fun {fn : Str} {p : Pos} {fa : Addr} {e : Expr} {rest : List Expr} (V : EV K env L ns gns bns) (S : SF b L h m nw) (G : GR K b) (hx : At (fn, .ref fa) gns) (hk : keepIn K (.ref fa) = true)
    (q : wpAny (model prog w) A (spliced (backTo pos (starEach (e :: rest) env))) (fun vs s₁ => K.In s₁.heap ∧ wpAny (model prog w) A (call (.ref fa) vs) Q E s₁) E ⟨h, g, dr, tk, os⟩) (he : starEach (e :: rest) env = (false, eval e env) :: starEach rest env) (hplain : (backTo pos (starEach rest env)).any (·.1) = false) :
    wpAny (model prog w) A (eval (.Call (.Name fn p) (e :: rest) [] pos) env) Q E ⟨h, g, dr, tk, os⟩ := z_call V G S hx hk q he he hplain
theorem z_bui {fn : Str} {p : Pos} {id : String} {e : Expr} {rest : List Expr} (V : EV K env L ns gns bns) (S : SF b L h m nw) (G : GR K b) (hx : At (fn, .builtin id) bns)
    (q : wpAny (model prog w) A (spliced (backTo pos (starEach (e :: rest) env))) (fun vs s₁ => wpAny (model prog w) A (call (.builtin id) vs) Q E s₁) E ⟨h, g, dr, tk, os⟩) (he : starEach (e :: rest) env = (false, eval e env) :: starEach rest env) (hplain : (backTo pos (starEach rest env)).any (·.1) = false) :
    wpAny (model prog w) A (eval (.Call (.Name fn p) (e :: rest) [] pos) env) Q E ⟨h, g, dr, tk, os⟩ := z_callB V G S hx q he hplain
theorem z_typ {fn : Str} {p : Pos} {T : String} {e : Expr} {rest : List Expr} (V : EV K env L ns gns bns) (S : SF b L h m nw) (G : GR K b) (hx : At (fn, .type T) bns)
    (q : wpAny (model prog w) A (spliced (backTo pos (starEach (e :: rest) env))) (fun vs s₁ => wpAny (model prog w) A (call (.type T) vs) Q E s₁) E ⟨h, g, dr, tk, os⟩) (he : starEach (e :: rest) env = (false, eval e env) :: starEach rest env) (hplain : (backTo pos (starEach rest env)).any (·.1) = false) :
    wpAny (model prog w) A (eval (.Call (.Name fn p) (e :: rest) [] pos) env) Q E ⟨h, g, dr, tk, os⟩ := z_callT V G S hx q he hplain
theorem z_glo {x : Str} {v : Value} {p : Pos} {Q : Value → Shared → Prop} (V : EV K env L ns gns bns) (S : SF b L h m nw) (G : GR K b) (hx : At (x, v) gns) (q : Q v ⟨h, g, dr, tk, os⟩) :
    wpAny (model prog w) A (eval (.Name x p) env) Q E ⟨h, g, dr, tk, os⟩ := z_global V G S hx q
theorem z_metC {o : Expr} {name : Str} {apos : Pos} {args : List Expr} {pl : Sem Bool} (q : wpAny (model prog w) A (eval o env) (fun ov s₁ => wpAny (model prog w) A (getMethod ov name pl) (fun fx s₂ => wpAny (model prog w) A (callWith pos fx.fst fx.snd (backTo pos (starEach args env)) []) Q E s₂) E s₁) E ⟨h, g, dr, tk, os⟩)
    (he : eval ((o.Attribute name apos).Call args [] pos) env = (do let ov ← eval o env; standAt apos.atName; let (f, first) ← holding [ov] (getMethod ov name pl); callWith pos f first (backTo pos (starEach args env)) [])) :
    wpAny (model prog w) A (eval ((o.Attribute name apos).Call args [] pos) env) Q E ⟨h, g, dr, tk, os⟩ := MethodCall_ q he
theorem MethIs.of {x C dx f : Addr} {es : List DictEntry} {n : Nat} {name : Str} (S : SF b L h m nw) (h1 : At (x, instObj C dx) nw) (h2 : At (dx, dictOf es n) nw) (h3 : getL name es = some none) (h5 : meChk K C name f = true) : MethIs K h x C name f :=
  ⟨dx, es, n, (S.news _ h1.mem).1, (S.news _ h2.mem).1, h3, h5⟩
theorem z_setA {x C dx : Addr} {es es' : List DictEntry} {n n' : Nat} {name : Str} {v : Value} {Q : Unit → Shared → Prop} (S : SF b L h m nw) (G : GR K b) (h1 : At (x, instObj C dx) nw) (h2 : At (dx, dictOf es n) nw) (hc : stChk K C name = true)
    (hl : (getL name es).isSome = true) (he : (putL name (PyData.keyHash w.params name) (.str name (tk + 1)) v es, putN name es n) = (es' , n')) (hz : es'.length ≤ 1000) (P : Put dx (dictOf es n) (dictOf es' n') nw nw')
    (q : ∀ h' tk', SF b L h' m nw' → Q () ⟨h', g, dr, tk', os⟩) :
    wpAny (model prog w) A (setAttr (.ref x) name v) Q E ⟨h, g, dr, tk, os⟩ := z_set G S h1 hc hl he hz P q
end
theorem bindL_eq (kd : Str → Option NameKind) : ∀ (binds : List (Str × Value)) (m : Str → Option Value) (y : Str), bindL kd binds m y = ((binds.filter fun x => kd x.1 == some .local).reverse.lookup y).or (m y)
  | [], m, y => rfl
  | (n, v) :: r, m, y => by
    unfold bindL
    rw [bindL_eq kd r]
    by_cases hk : kd n = some .local
    · rw [if_pos hk, List.filter_cons_of_pos (by simpa using hk), List.reverse_cons, List.lookup_append]
      by_cases hy : y = n
      · subst hy; rw [if_pos rfl]; simp [List.lookup]
      · rw [if_neg hy]
        have : (y == n) = false := by simpa using hy
        simp [List.lookup, this]
    · rw [if_neg hk, List.filter_cons_of_neg (by simpa using hk)]
theorem CellsAre.keys {cm : Str → Option Value} {cs : List (Str × Addr)} {cells : List (Addr × Obj)} (x : CellsAre cm cs cells) : cells.map (·.1) = cs.map (·.2) := by
  induction x with
  | nil => rfl
  | cons _ _ ih => simp [ih]
noncomputable def fnChkK (K : Frag) (sc : Scope) (ns : List Str) (gns bns : List (Str × Value)) : Bool :=
  sc.kind == .function && !sc.isCoroutine && !sc.isGenerator && decide ns.Nodup && ns.all (fun x => sc.names.lookup x == some .local) && gnOk K sc gns && bnOk K sc bns &&
  !ns.contains ("__debug__" : Str) && !(gns.map (·.1)).contains ("__debug__" : Str) && !(bns.map (·.1)).contains ("__debug__" : Str) && decide ((cellsFrom 0 sc.names []).map (·.1)).Nodup
section
variable {prog : Program} {w : World} {A : Around} {E : Value → Shared → Prop} {K : Frag} {b h : Heap} {L : Addr} {m : Str → Option Value} {nw : List (Addr × Obj)} {g : Array GenState} {dr : Drawn} {tk : Nat} {os : OsState}
/-- a call of a def whose names are captured -/
theorem enterKC {R : Result → Shared → Prop} {fa : Addr} {name qual : Str} {params : Arguments} {body : List Stmt} {sc : Scope} {dV kV doc pm cdv ct oc : Value} {an od : Option Addr} {osl : Array (Option Value)} {args : Args}
    {binds : List (Str × Value)} {ps rest : List Str} (ns : List Str) {vs : List Value} (gns bns : List (Str × Value)) {n : Nat}
    (G : GR K h) (M : Rm A (n + 1)) (ho : K.lookup fa = some ⟨oc, od, .func (fnOf name qual params body sc dV kV doc pm an cdv ct), osl⟩) (hcd : codeIn K cdv qual = true)
    (hb : BindsTo ⟨h, g, dr, tk, os⟩ (fnOf name qual params body sc dV kV doc pm an cdv ct) args binds) (hlb : binds.filter (fun x => sc.names.lookup x.1 == some .local) = ps.zip vs)
    (hkind : (binds.all fun y => sc.names.lookup y.1 == some .local || sc.names.lookup y.1 == some .cell) = true)
    (hl : ps.length = vs.length) (hns : ps ++ rest = ns) (chk : fnChkK K sc ns gns bns = true)
    (q : ∀ A' env L' h₁ tk' cells, Rm A' n → EV K env L' ns gns bns → env.scope = sc → env.cells = cellsFrom (L' + 1) sc.names [] → CellsAre (bindC (fun x => sc.names.lookup x) binds fun _ => none) (cellsFrom (L' + 1) sc.names []) cells → SF h L' h₁ (lc ns fun i => vs[i]?) cells →
      wpAny (model prog w) A' (execs body env) (fun fl s' => R (.ok (.ret (retv fl))) s') (fun e s' => wpAny (model prog w) A' (leaving env e) (fun _ s'' => R (.error e) s'') (fun e' s'' => R (.error e') s'') s') ⟨h₁, g, dr, tk', os⟩) :
    codeAny (model prog w) A (.call (.ref fa) args) R ⟨h, g, dr, tk, os⟩ := by
  refine wk ?_ ?_
  · unfold fnChkK at chk
    simp only [Bool.and_eq_true, Bool.not_eq_true', beq_iff_eq, decide_eq_true_eq] at chk
    obtain ⟨⟨⟨⟨⟨⟨⟨⟨⟨⟨hk, hco⟩, hgen⟩, nd⟩, hloc⟩, hg⟩, hbn⟩, d1⟩, d2⟩, d3⟩, hnd⟩ := chk
    have nmem : ∀ {l : List Str} {x : Str}, l.contains x = false → x ∉ l := fun {l x} e hm => by
      rw [List.contains_iff_mem.mpr hm] at e; cases e
    subst hns
    have ndp : ps.Nodup := (List.nodup_append.mp nd).1
    have hps : ∀ x ∈ ps ++ rest, sc.names.lookup x = some .local := fun x hx => beq_iff_eq.mp (List.all_eq_true.mp hloc x hx)
    have hmap : (ps.zip vs).map (·.1) = ps := List.map_fst_zip (l₁ := ps) (l₂ := vs) (Nat.le_of_eq hl)
    refine codeAny_call_function (fd := fnOf name qual params body sc dV kV doc pm an cdv ct) M.room (G.inK _ _ ho) rfl hco hgen rfl (codeRec_of G.inK hcd) (hb _ _ _ _ ?_)
    refine wpAny_newFunctionEnv_cells hk (kindsX hkind _) fun env' he s' x => ?_
    subst he
    refine ⟨G.nolimit.keeps x.toInCall.keep, codeAny_func ?_⟩
    obtain ⟨h₁, tk', rfl, _⟩ := x.done
    have hk₁ := x.toInCall.keep
    obtain ⟨cells, NC, Y⟩ := Cl.news (h₀ := h) (Nat.le_refl _) fun n c hm => ⟨x.cell n c (lookup_of_mem_nodup (cellsFrom_names sc.names 0 (h.objs.size + 1) [] [] rfl ▸ hnd) hm), x.above n c hm⟩
    have hN := x.toInCall.ns
    have e : (bindL (fun x => sc.names.lookup x) binds fun _ => none) = lc (ps ++ rest) fun i => vs[i]? := funext fun y => by
      rw [bindL_eq, hlb, lookup_rev (by rw [hmap]; exact ndp), lookup_zip hl fun y hy hp => (List.nodup_append.mp nd).2.2 y hp y hy rfl]
      cases lc (ps ++ rest) (fun i => vs[i]?) y <;> rfl
    have hN' : h₁.Ns h.objs.size (lc (ps ++ rest) fun i => vs[i]?) := by rw [← e]; exact hN
    refine wpAny_mono (q _ _ h.objs.size h₁ tk' cells M.deeper ⟨hk, rfl, rfl, rfl, nd, fun x hx => hps x hx, hg, hbn, nmem d1, nmem d2, nmem d3⟩ rfl rfl Y
      ⟨⟨hN', fun b o e => hk₁ b o e, Nat.le_refl _⟩, NC, ?_⟩) (fun fl s' x => ?_) (fun _ _ x => x)
    · rw [CellsAre.keys Y]
      exact List.pairwise_map.mpr x.apart
    · cases fl <;> exact x
  kct_strs
theorem enterK {Q : Value → Shared → Prop} {fa : Addr} {name qual : Str} {params : Arguments} {body : List Stmt} {sc : Scope} {dV kV doc pm cdv ct oc : Value} {an od : Option Addr} {osl : Array (Option Value)} {args : List Value} {kw : List (Str × Value)}
    {binds : List (Str × Value)} {ps rest : List Str} (ns : List Str) {vs : List Value} (gns bns : List (Str × Value)) {n : Nat}
    (G : GR K h) (M : Rm A (n + 1)) (ho : K.lookup fa = some ⟨oc, od, .func (fnOf name qual params body sc dV kV doc pm an cdv ct), osl⟩) (hcd : codeIn K cdv qual = true)
    (hb : BindsTo ⟨h, g, dr, tk, os⟩ (fnOf name qual params body sc dV kV doc pm an cdv ct) ⟨args, kw⟩ binds) (hlb : binds.filter (fun x => sc.names.lookup x.1 == some .local) = ps.zip vs)
    (hkind : (binds.all fun y => sc.names.lookup y.1 == some .local || sc.names.lookup y.1 == some .cell) = true)
    (hl : ps.length = vs.length) (hns : ps ++ rest = ns) (chk : fnChkK K sc ns gns bns = true)
    (q : ∀ A' env L' h₁ tk' cells, Rm A' n → EV K env L' ns gns bns → env.scope = sc → env.cells = cellsFrom (L' + 1) sc.names [] → CellsAre (bindC (fun x => sc.names.lookup x) binds fun _ => none) (cellsFrom (L' + 1) sc.names []) cells → SF h L' h₁ (lc ns fun i => vs[i]?) cells →
      wpAny (model prog w) A' (execs body env) (fun fl s' => Q (retv fl) s') (fun _ _ => False) ⟨h₁, g, dr, tk', os⟩) :
    wpAny (model prog w) A (call (.ref fa) args kw) Q E ⟨h, g, dr, tk, os⟩ :=
  wpAny_call (enterKC ns gns bns G M ho hcd hb hlb hkind hl hns chk fun A' env L' h₁ tk' cells M' V e1 e2 Y S => wpAny_mono (q A' env L' h₁ tk' cells M' V e1 e2 Y S) (fun _ _ x => x) fun _ _ x => x.elim)
end
theorem z_tt {P Q : Prop} (p : P) : if true = true then P else Q := by rw [if_pos rfl]; exact p
theorem z_ff {P Q : Prop} (q : Q) : if false = true then P else Q := by rw [if_neg Bool.false_ne_true]; exact q
theorem Lab_get : ∀ {Ts : List Addr} {k i : Nat} {T : Addr}, Ts[i]? = some T → (LabKvs k Ts)[i]? = some (lbl (k + i), .ref T)
  | T :: r, k, 0, _, h => by
    simp at h; subst h; rfl
  | T :: r, k, i + 1, U, h => by
    simp only [List.getElem?_cons_succ] at h
    have := Lab_get (k := k + 1) h
    show (LabKvs (k + 1) r)[i]? = _
    rw [this, show k + 1 + i = k + (i + 1) by omega]
theorem DictOf.nodup {prog : Program} {w : World} {KT : Type} [DecidableEq KT] {knd : PySem.KeyKind prog w KT} {h : Heap} {d : Addr} {kvs : List (KT × Value)} (x : h.DictOf knd d kvs) : (kvs.map (·.1)).Nodup := by
  obtain ⟨_, _, _, _, _, _, _, _, hn⟩ := x
  exact hn
theorem Lab_at {prog : Program} {w : World} {h : Heap} {dl : Addr} {Ts : List Addr} {i : Nat} {T : Addr} (D : h.DictOf (strKind prog w) dl (LabKvs 0 Ts)) (hT : Ts[i]? = some T) : valueAt (LabKvs 0 Ts) (lbl i) = some (.ref T) := by
  have := Lab_get (k := 0) hT
  rw [Nat.zero_add] at this
  exact valueAt_of_get (DictOf.nodup D) this
section
variable {b h : Heap} {L : Addr} {m : Str → Option Value} {nw : List (Addr × Obj)}
theorem SF.tup {a : Addr} {vs : Array Value} {n : Nat} (S : SF b L h m nw) (x : At (a, ⟨.type "tuple", none, .seq vs n, #[]⟩) nw) : IsTup h a vs := ⟨_, (S.news _ x.mem).1, rfl, n, rfl⟩
theorem SF.lst {a : Addr} {vs : Array Value} {n : Nat} (S : SF b L h m nw) (x : At (a, listOf vs n) nw) : h.IsList a vs := ⟨_, (S.news _ x.mem).1, rfl, n, rfl⟩
theorem SF.nu {a : Addr} {o : Obj} (S : SF b L h m nw) (x : At (a, o) nw) : b.get? a = none := (S.news _ x.mem).2.2
theorem SF.res {h' : Heap} {a : Addr} {o : Obj} (S : SF b L h m nw) (kp : ∀ c o, h.get? c = some o → h'.get? c = some o) (hn : h.get? a = none) (ha : h'.get? a = some o) : SF b L h' m ((a, o) :: nw) :=
  S.more kp (add := [(a, o)]) (fun p hp => by rw [List.mem_singleton.mp hp]; exact ⟨ha, hn⟩) (by simp)
/-- a list of ints in the heap -/
noncomputable def IntsL (h : Heap) (l : Addr) (xs : List Int) : Prop := ∃ vs : List Value, h.IsList l vs.toArray ∧ vs.length = xs.length ∧ ∀ (i : Nat) (x : Int), xs[i]? = some x → ∃ t, vs[i]? = some (.int x t)
theorem IntsL.keeps {h' : Heap} {l : Addr} {xs : List Int} (x : IntsL h l xs) (kp : ∀ a o, h.get? a = some o → h'.get? a = some o) : IntsL h' l xs := let ⟨vs, a, r⟩ := x; ⟨vs, IsList.keeps' a kp, r⟩
theorem sum_zero (x : Int) : x + 0 = x := Int.add_zero x
end
section
variable {prog : Program} {w : World} {A : Around} {E : Value → Shared → Prop} {s : Shared}
noncomputable abbrev endKey : List Str := [".text", "end"]
theorem seq_str {x : Str} {t : Tok} {T : Addr} {o : Obj} {vs : Array Value} {n : Nat} {Q : Fin → Shared → Prop} (ho : s.heap.get? T = some o) (hd : o.data = .seq vs n) (q : Q (.done (.ret .notImplemented)) s) :
    wpAny (model prog w) A (Builtin.«str.__eq__» ⟨[.str x t, .ref T], []⟩) Q E s := by
  refine wk ?_ ?_
  · obtain ⟨hp, g, d, tk, os⟩ := s
    have hl : ∀ {M : Model} {A : Around} {E : Value → Shared → Prop} {Q : Option Str → Shared → Prop}, Q none ⟨hp, g, d, tk, os⟩ → wpAny M A (asStr? (.ref T)) Q E ⟨hp, g, d, tk, os⟩ := by
      intro M A E Q hq
      unfold asStr?
      refine wpAny_bind (wpAny_load ho ?_)
      rw [hd]
      exact wpAny_pure hq
    show wpAny _ _ (asStr? (.ref T) >>= _) _ _ _
    exact wpAny_bind (hl (wpAny_bind (wpAny_rule (wpAny_pure q))))
  kct_strs
theorem tup_str {x : Str} {t : Tok} {T : Addr} {Q : Fin → Shared → Prop} (q : Q (.done (.ret .notImplemented)) s) :
    wpAny (model prog w) A (Builtin.«tuple.__eq__» ⟨[.ref T, .str x t], []⟩) Q E s := by
  obtain ⟨hp, g, d, tk, os⟩ := s
  wp_walk
  exact wpAny_of_eq F.sub_str_tuple (wpAny_pure q)
theorem eqB_st {x : Str} {t : Tok} {T : Addr} {o : Obj} {vs : Array Value} {n : Nat} {Q : Bool → Shared → Prop} (hu : A.units < cLine) (ho : s.heap.get? T = some o) (hc : o.cls = .type "tuple") (hd : o.data = .seq vs n) (q : Q false s) :
    wpAny (model prog w) A (eqBool (.str x t) (.ref T)) Q E s := by
  refine wk ?_ ?_
  · have hT : s.TypeIs (.ref T) "tuple" := ⟨o, ho, hc⟩
    unfold eqBool
    refine wpAny_holding ?_
    rw [if_neg (by simp)]
    refine wpAny_bind ?_
    rcases hi : cmpInfo CmpOp.Eq with ⟨sym, f, r⟩
    have s1 := F.slot_str_eq
    have s2 := F.slot_tuple_eq_refl
    rw [hi] at s1 s2
    simp only [richCompare, hi, (typeIs_str s x t).oneThing_none]
    refine wpAny_holding ?_
    refine wpAny_bind (wpAny_cRoomFor_or (.inr hu) ?_)
    refine wpAny_bind (wpAny_typeOf (typeIs_str s x t) (wpAny_bind (wpAny_typeOf hT ?_)))
    simp only [show (Value.type "str" != Value.type "tuple") = true by decide, if_true]
    refine wpAny_bind (wpAny_of_eq F.sub_tuple_str ?_)
    simp only [Bool.false_eq_true, if_false, Bool.not_false, if_true]
    refine wpAny_bind (wpAny_tryCompare_declines (typeIs_str s x t) s1 (wpAny_call_entry F.slot_str_eq (typeIs_str s x t) F.entry_str_eq (seq_str ho hd ⟨_, rfl, rfl, ?_⟩) (F.args_str_eq_2 _ _)))
    refine wpAny_bind (wpAny_tryCompare_declines hT s2 (wpAny_call_entry F.slot_tuple_eq hT F.entry_tuple_eq (tup_str ⟨_, rfl, rfl, ?_⟩) (F.args_tuple_eq_2 _ _)))
    refine wpAny_bind (wpAny_rule (wpAny_bind (wpAny_of_eq (show isSame (.str x t) (.ref T) = pure false from rfl) (wpAny_pure ?_))))
    exact wpAny_truthy_bool q
  kct_strs
theorem eqB_ts {x : Str} {t : Tok} {T : Addr} {o : Obj} {vs : Array Value} {n : Nat} {Q : Bool → Shared → Prop} (hu : A.units < cLine) (ho : s.heap.get? T = some o) (hc : o.cls = .type "tuple") (hd : o.data = .seq vs n) (q : Q false s) :
    wpAny (model prog w) A (eqBool (.ref T) (.str x t)) Q E s := by
  refine wk ?_ ?_
  · have hT : s.TypeIs (.ref T) "tuple" := ⟨o, ho, hc⟩
    unfold eqBool
    refine wpAny_holding ?_
    rw [if_neg (by simp)]
    refine wpAny_bind ?_
    rcases hi : cmpInfo CmpOp.Eq with ⟨sym, f, r⟩
    have s1 := F.slot_str_eq_refl
    have s2 := F.slot_tuple_eq
    rw [hi] at s1 s2
    simp only [richCompare, hi, hT.oneThing_none]
    refine wpAny_holding ?_
    refine wpAny_bind (wpAny_cRoomFor_or (.inr hu) ?_)
    refine wpAny_bind (wpAny_typeOf hT (wpAny_bind (wpAny_typeOf (typeIs_str s x t) ?_)))
    simp only [show (Value.type "tuple" != Value.type "str") = true by decide, if_true]
    refine wpAny_bind (wpAny_of_eq F.sub_str_tuple ?_)
    simp only [Bool.false_eq_true, if_false, Bool.not_false, if_true]
    refine wpAny_bind (wpAny_tryCompare_declines hT s2 (wpAny_call_entry F.slot_tuple_eq hT F.entry_tuple_eq (tup_str ⟨_, rfl, rfl, ?_⟩) (F.args_tuple_eq_2 _ _)))
    refine wpAny_bind (wpAny_tryCompare_declines (typeIs_str s x t) s1 (wpAny_call_entry F.slot_str_eq (typeIs_str s x t) F.entry_str_eq (seq_str ho hd ⟨_, rfl, rfl, ?_⟩) (F.args_str_eq_2 _ _)))
    refine wpAny_bind (wpAny_rule (wpAny_bind (wpAny_of_eq (show isSame (.ref T) (.str x t) = pure false from rfl) (wpAny_pure ?_))))
    exact wpAny_truthy_bool q
  kct_strs
theorem mayTell {key : Value} {Q : Bool → Shared → Prop} {l : List Value} (hk : ∀ {Q : Bool → Shared → Prop}, Q true s → wpAny (model prog w) A (eqIsQuiet 8 key) Q E s)
    (hl : ∀ v ∈ l, ∀ {Q : Bool → Shared → Prop}, Q true s → wpAny (model prog w) A (eqIsQuiet 8 v) Q E s) (q : Q false s) : wpAny (model prog w) A (tableMayTell key l) Q E s := by
  refine wk ?_ ?_
  · unfold tableMayTell
    split
    · exact wpAny_pure q
    refine wpAny_bind (hk ?_)
    simp only [Bool.not_true, Bool.false_eq_true, if_false]
    refine wpAny_bind (wpAny_forIn_list _ (fun rest r s' => s' = s ∧ r = (none, ()) ∧ ∀ v ∈ rest, v ∈ l) _ ?_ ?_ _ _ ⟨rfl, rfl, fun v hv => hv⟩)
    · rintro v rest r s' ⟨rfl, rfl, hr⟩
      refine wpAny_bind (hl v (hr v (.head _)) ?_)
      simp only [Bool.not_true, Bool.false_eq_true, if_false]
      exact wpAny_pure ⟨rfl, rfl, fun u hu => hr u (.tail _ hu)⟩
    · rintro r s' ⟨rfl, rfl, _⟩
      exact wpAny_pure q
  kct_strs
theorem quiet_str {x : Str} {t : Tok} {Q : Bool → Shared → Prop} (q : Q true s) : wpAny (model prog w) A (eqIsQuiet 8 (.str x t)) Q E s := by
  rw [eqIsQuiet_byValue _ rfl]; exact wpAny_pure q
theorem wp_pos {α : Type} {c : Prop} [Decidable c] {a b : Sem α} {M : Model} {Q : α → Shared → Prop} (h : c) (q : wpAny M A a Q E s) : wpAny M A (if c then a else b) Q E s := by rw [if_pos h]; exact q
theorem wp_neg {α : Type} {c : Prop} [Decidable c] {a b : Sem α} {M : Model} {Q : α → Shared → Prop} (h : ¬ c) (q : wpAny M A b Q E s) : wpAny M A (if c then a else b) Q E s := by rw [if_neg h]; exact q
theorem pl1 {hx : Int} {k v : Value} : placesWithHash 1 (fun i => Option.map (fun x => x.hash) (#[(⟨hx, k, v⟩ : DictEntry)])[i]?) hx = [0] := by simp [placesWithHash, List.range, List.range.loop]
theorem pl1n {hx hk : Int} {k v : Value} (e : ¬ hx = hk) : placesWithHash 1 (fun i => Option.map (fun x => x.hash) (#[(⟨hx, k, v⟩ : DictEntry)])[i]?) hk = [] := by simp [placesWithHash, List.range, List.range.loop, e]
theorem pl2b {hx : Int} {k v k' v' : Value} : placesWithHash 2 (fun i => Option.map (fun x => x.hash) (#[(⟨hx, k, v⟩ : DictEntry), ⟨hx, k', v'⟩])[i]?) hx = [0, 1] := by simp [placesWithHash, List.range, List.range.loop]
theorem pl2l {hx hk : Int} {k v k' v' : Value} (e : ¬ hk = hx) : placesWithHash 2 (fun i => Option.map (fun x => x.hash) (#[(⟨hx, k, v⟩ : DictEntry), ⟨hk, k', v'⟩])[i]?) hx = [0] := by simp [placesWithHash, List.range, List.range.loop, e]
theorem pl2r {hx hk : Int} {k v k' v' : Value} (e : ¬ hx = hk) : placesWithHash 2 (fun i => Option.map (fun x => x.hash) (#[(⟨hx, k, v⟩ : DictEntry), ⟨hk, k', v'⟩])[i]?) hk = [1] := by simp [placesWithHash, List.range, List.range.loop, e]
theorem find1 {d T : Addr} {t : Tok} {v₁ : Value} {ep : Nat} {x : Str} {ks : List Str} {hx hk : Int} {Q : Option Nat → Shared → Prop} (hu : A.units < cLine)
    (ho : s.heap.get? d = some (dictOf [⟨hx, .str x t, v₁⟩] ep)) (hT : IsTupleKey (strKind prog w) s.heap ks T)
    (q : Q none s) : wpAny (model prog w) A (dictFind d (.ref T) hk) Q E s := by
  refine wk ?_ ?_
  · obtain ⟨o, vs, n, h1, h2, h3, h4⟩ := id hT
    unfold dictFind
    refine wpAny_holding ?_
    refine wpAny_bind (wpAny_dictEntries ho rfl ?_)
    dsimp only
    generalize hp : placesWithHash _ _ _ = ps
    by_cases hh : hx = hk
    · subst hh
      obtain rfl : ps = [0] := hp.symm.trans pl1
      refine wp_neg Bool.false_ne_true ?_
      refine wp_neg (by simp) ?_
      refine wpAny_bind ?_
      refine wp_neg Bool.false_ne_true ?_
      refine mayTell (wpAny_eqIsQuiet_tuple hT) (l := [.str x t]) (fun v hv => by rw [List.mem_singleton.mp hv]; exact quiet_str) ?_
      refine wp_neg Bool.false_ne_true ?_
      refine wpAny_bind ?_
      rw [List.forIn_cons]
      refine wpAny_bind ?_
      show wpAny _ _ (if (hx == hx) = true then _ else _) _ _ _
      refine wp_pos (by simp) ?_
      refine wpAny_bind (wpAny_dictEpoch ho rfl (wpAny_bind (eqB_st hu h1 h2 h3 (wpAny_bind (wpAny_dictEpoch ho rfl ?_)))))
      refine wp_neg (by simp) ?_
      refine wp_neg Bool.false_ne_true ?_
      refine wpAny_bind (wpAny_rule ?_)
      refine wp_neg Bool.false_ne_true ?_
      exact wpAny_pure (wpAny_pure (wpAny_pure q))
    · obtain rfl : ps = [] := hp.symm.trans (pl1n hh)
      refine wp_neg Bool.false_ne_true ?_
      refine wp_neg (by simp) ?_
      refine wp_neg Bool.false_ne_true ?_
      refine wpAny_bind (mayTell (wpAny_eqIsQuiet_tuple hT) (l := []) (fun v hv => nomatch hv) ?_)
      refine wp_neg Bool.false_ne_true ?_
      exact wpAny_bind (wpAny_pure (wpAny_pure q))
  kct_strs
theorem find2s {d T : Addr} {t u : Tok} {v₁ v₂ : Value} {ep : Nat} {x : Str} {ks : List Str} {hx hk : Int} {Q : Option Nat → Shared → Prop} (hu : A.units < cLine)
    (ho : s.heap.get? d = some (dictOf [⟨hx, .str x t, v₁⟩, ⟨hk, .ref T, v₂⟩] ep)) (hT : IsTupleKey (strKind prog w) s.heap ks T)
    (q : Q (some 0) s) : wpAny (model prog w) A (dictFind d (.str x u) hx) Q E s := by
  refine wk ?_ ?_
  · obtain ⟨o, vs, n, h1, h2, h3, h4⟩ := id hT
    unfold dictFind
    refine wpAny_holding ?_
    refine wpAny_bind (wpAny_dictEntries ho rfl ?_)
    dsimp only
    generalize hp : placesWithHash _ _ _ = ps
    refine wp_neg (by simp [isExactStrKey]) ?_
    by_cases hh : hk = hx
    · subst hh
      obtain rfl : ps = [0, 1] := hp.symm.trans pl2b
      refine wp_neg Bool.false_ne_true ?_
      refine wp_neg (by simp) ?_
      refine wpAny_bind (mayTell quiet_str (l := [.str x t, .ref T]) (fun v hv => ?_) ?_)
      · rcases List.mem_cons.mp hv with rfl | hv
        · exact quiet_str
        · rw [List.mem_singleton.mp hv]; exact wpAny_eqIsQuiet_tuple hT
      refine wp_neg Bool.false_ne_true ?_
      refine wpAny_bind ?_
      rw [List.forIn_cons]
      refine wpAny_bind ?_
      show wpAny _ _ (if (hk == hk) = true then _ else _) _ _ _
      refine wp_pos (by simp) ?_
      refine wpAny_bind (wpAny_dictEpoch ho rfl (wpAny_bind (wpAny_eqBool_str (wpAny_bind (wpAny_dictEpoch ho rfl ?_)))))
      refine wp_neg (by simp) ?_
      refine wp_pos (decide_eq_true rfl) ?_
      refine wp_neg Bool.false_ne_true ?_
      refine wpAny_bind (wpAny_rule ?_)
      refine wp_neg (show ¬ 2 < 2 by decide) ?_
      refine wpAny_pure ?_
      dsimp only
      rw [List.forIn_cons]
      refine wpAny_bind ?_
      show wpAny _ _ (if (hk == hk) = true then _ else _) _ _ _
      refine wp_pos (by simp) ?_
      refine wpAny_bind (wpAny_dictEpoch ho rfl (wpAny_bind (eqB_ts hu h1 h2 h3 (wpAny_bind (wpAny_dictEpoch ho rfl ?_)))))
      refine wp_neg (by simp) ?_
      refine wp_neg Bool.false_ne_true ?_
      refine wpAny_bind (wpAny_rule ?_)
      refine wp_neg Bool.false_ne_true ?_
      exact wpAny_pure (wpAny_pure (wpAny_pure q))
    · obtain rfl : ps = [0] := hp.symm.trans (pl2l hh)
      refine wp_pos rfl ?_
      refine wpAny_bind ?_
      rw [List.forIn_cons]
      refine wpAny_bind ?_
      show wpAny _ _ (if (hx == hx) = true then _ else _) _ _ _
      refine wp_pos (by simp) ?_
      refine wpAny_bind (wpAny_dictEpoch ho rfl (wpAny_bind (wpAny_eqBool_str (wpAny_bind (wpAny_dictEpoch ho rfl ?_)))))
      refine wp_neg (by simp) ?_
      refine wp_pos (decide_eq_true rfl) ?_
      refine wpAny_bind (wpAny_rule ?_)
      exact wpAny_pure (wpAny_pure (wpAny_pure q))
  kct_strs
theorem find2t {d T T' : Addr} {t : Tok} {v₁ v₂ : Value} {ep : Nat} {x : Str} {ks : List Str} {hx hk : Int} {Q : Option Nat → Shared → Prop} (hu : A.units < cLine)
    (ho : s.heap.get? d = some (dictOf [⟨hx, .str x t, v₁⟩, ⟨hk, .ref T, v₂⟩] ep)) (hT : IsTupleKey (strKind prog w) s.heap ks T) (hT' : IsTupleKey (strKind prog w) s.heap ks T')
    (q : Q (some 1) s) : wpAny (model prog w) A (dictFind d (.ref T') hk) Q E s := by
  refine wk ?_ ?_
  · obtain ⟨o, vs, n, h1, h2, h3, h4⟩ := id hT'
    unfold dictFind
    refine wpAny_holding ?_
    refine wpAny_bind (wpAny_dictEntries ho rfl ?_)
    dsimp only
    generalize hp : placesWithHash _ _ _ = ps
    by_cases hh : hx = hk
    · subst hh
      obtain rfl : ps = [0, 1] := hp.symm.trans pl2b
      refine wp_neg Bool.false_ne_true ?_
      refine wp_neg (by simp) ?_
      refine wp_neg (by simp) ?_
      refine wpAny_bind (mayTell (wpAny_eqIsQuiet_tuple hT') (l := [.str x t, .ref T]) (fun v hv => ?_) ?_)
      · rcases List.mem_cons.mp hv with rfl | hv
        · exact quiet_str
        · rw [List.mem_singleton.mp hv]; exact wpAny_eqIsQuiet_tuple hT
      refine wp_neg Bool.false_ne_true ?_
      refine wpAny_bind ?_
      rw [List.forIn_cons]
      refine wpAny_bind ?_
      show wpAny _ _ (if (hx == hx) = true then _ else _) _ _ _
      refine wp_pos (by simp) ?_
      refine wpAny_bind (wpAny_dictEpoch ho rfl (wpAny_bind (eqB_st hu h1 h2 h3 (wpAny_bind (wpAny_dictEpoch ho rfl ?_)))))
      refine wp_neg (by simp) ?_
      refine wp_neg Bool.false_ne_true ?_
      refine wpAny_bind (wpAny_rule ?_)
      refine wp_neg Bool.false_ne_true ?_
      refine wpAny_pure ?_
      dsimp only
      rw [List.forIn_cons]
      refine wpAny_bind ?_
      show wpAny _ _ (if (hx == hx) = true then _ else _) _ _ _
      refine wp_pos (by simp) ?_
      refine wpAny_bind (wpAny_dictEpoch ho rfl (wpAny_bind (wpAny_eqBool_tuple hu hT hT' (wpAny_bind (wpAny_dictEpoch ho rfl ?_)))))
      refine wp_neg (by simp) ?_
      refine wp_pos (decide_eq_true rfl) ?_
      refine wp_neg Bool.false_ne_true ?_
      refine wpAny_bind (wpAny_rule ?_)
      refine wp_neg (show ¬ 2 < 2 by decide) ?_
      exact wpAny_pure (wpAny_pure (wpAny_pure q))
    · obtain rfl : ps = [1] := hp.symm.trans (pl2r hh)
      refine wp_neg Bool.false_ne_true ?_
      refine wp_neg (by simp) ?_
      by_cases hE : T = T'
      · subst hE
        refine wp_pos (by simp) ?_
        refine wpAny_bind (wpAny_pure ?_)
        refine wp_neg Bool.false_ne_true ?_
        refine wpAny_bind ?_
        rw [List.forIn_cons]
        refine wpAny_bind ?_
        show wpAny _ _ (if (hk == hk) = true then _ else _) _ _ _
        refine wp_pos (by simp) ?_
        refine wpAny_bind (wpAny_dictEpoch ho rfl (wpAny_bind (wpAny_eqBool_tuple hu hT hT' (wpAny_bind (wpAny_dictEpoch ho rfl ?_)))))
        refine wp_neg (by simp) ?_
        refine wp_pos (decide_eq_true rfl) ?_
        refine wp_neg Bool.false_ne_true ?_
        refine wpAny_bind (wpAny_rule ?_)
        refine wp_pos (show 1 < 2 by decide) ?_
        exact wpAny_pure (wpAny_pure (wpAny_pure q))
      · refine wp_neg (by simp [hE]) ?_
        refine wpAny_bind (mayTell (wpAny_eqIsQuiet_tuple hT') (l := [.ref T]) (fun v hv => by rw [List.mem_singleton.mp hv]; exact wpAny_eqIsQuiet_tuple hT) ?_)
        refine wp_neg Bool.false_ne_true ?_
        refine wpAny_bind ?_
        rw [List.forIn_cons]
        refine wpAny_bind ?_
        show wpAny _ _ (if (hk == hk) = true then _ else _) _ _ _
        refine wp_pos (by simp) ?_
        refine wpAny_bind (wpAny_dictEpoch ho rfl (wpAny_bind (wpAny_eqBool_tuple hu hT hT' (wpAny_bind (wpAny_dictEpoch ho rfl ?_)))))
        refine wp_neg (by simp) ?_
        refine wp_pos (decide_eq_true rfl) ?_
        refine wp_neg Bool.false_ne_true ?_
        refine wpAny_bind (wpAny_rule ?_)
        refine wp_pos (show 1 < 2 by decide) ?_
        exact wpAny_pure (wpAny_pure (wpAny_pure q))
  kct_strs
/-- the table of offsets: of the section, and its end -/
noncomputable def twoOf (prog : Program) (w : World) (t : Tok) (T : Addr) (v₁ v₂ : Value) (ep : Nat) : Obj := dictOf [⟨hashStr w ".text", .str ".text" t, v₁⟩, ⟨tupleKeyHash (strKind prog w) endKey, .ref T, v₂⟩] ep
noncomputable def Tabs (prog : Program) (w : World) (h : Heap) (d : Addr) (v₁ v₂ : Value) : Prop := ∃ T t ep, h.get? d = some (twoOf prog w t T v₁ v₂ ep) ∧ IsTupleKey (strKind prog w) h endKey T
theorem IsTupleKey.keeps' {KT : Type} [DecidableEq KT] {knd : PySem.KeyKind prog w KT} {ks : List KT} {h h' : Heap} {T : Addr} (x : IsTupleKey knd h ks T) (kp : ∀ a o, h.get? a = some o → h'.get? a = some o) : IsTupleKey knd h' ks T :=
  let ⟨o, vs, n, h1, r⟩ := x; ⟨o, vs, n, kp _ _ h1, r⟩
theorem Tabs.keeps {h h' : Heap} {d : Addr} {v₁ v₂ : Value} (x : Tabs prog w h d v₁ v₂) (kp : ∀ a o, h.get? a = some o → h'.get? a = some o) : Tabs prog w h' d v₁ v₂ :=
  let ⟨T, t, ep, h1, h2⟩ := x; ⟨T, t, ep, kp _ _ h1, IsTupleKey.keeps' h2 kp⟩
theorem get_of_dict {d : Addr} {key v : Value} {es : List DictEntry} {ep i : Nat} {hh : Int} {Q : Value → Shared → Prop} (ho : s.heap.get? d = some (dictOf es ep)) {n : Nat}
    (hp : ∀ {E : Value → Shared → Prop} {Q : Int → Shared → Prop}, Q hh { s with toks := s.toks + n } → wpAny (model prog w) A.in1 (pyHash key) Q E s)
    (hf : ∀ {E : Value → Shared → Prop} {Q : Option Nat → Shared → Prop}, Q (some i) { s with toks := s.toks + n } → wpAny (model prog w) A.in1 (dictFind d key hh) Q E { s with toks := s.toks + n })
    (hv : (es[i]?).map (·.val) = some v) (q : Q v { s with toks := s.toks + n }) : wpAny (model prog w) A (getItem (.ref d) key) Q E s := by
  have hT : s.TypeIs (.ref d) "dict" := ⟨_, ho, rfl⟩
  unfold getItem
  refine wpAny_holding ?_
  refine wpAny_bind (wpAny_sequenceKey hT (by decide) ?_)
  refine wpAny_bind (wpAny_callSpecial?_slot (name := Str.ofString "__getitem__") hT slot_dict_getitem
    (wpAny_call_entry slot_dict_getitem hT entry_dict_getitem ?_ (args_dict_getitem _ _)))
  show wpAny _ _ (dictGet d key >>= _) _ _ s
  refine wpAny_bind ?_
  unfold dictGet
  refine wpAny_holding ?_
  refine wpAny_bind (hp (wpAny_bind (hf ?_)))
  refine wpAny_bind (wpAny_dictEntries (s := { s with toks := s.toks + n }) ho rfl ?_)
  rw [show (es.toArray)[i]? = es[i]? by simp, hv]
  refine wpAny_pure ?_
  exact wpAny_pure ⟨v, rfl, wpAny_pure q⟩
end
section
variable {prog : Program} {w : World} {A : Around} {E : Value → Shared → Prop} {K : Frag} {b h : Heap} {L : Addr} {m : Str → Option Value} {nw nw' : List (Addr × Obj)} {g : Array GenState} {dr : Drawn} {tk : Nat} {os : OsState} {env : Env} {pos : Pos} {k : Nat}
  {ns : List Str} {gns bns : List (Str × Value)} {Q : Value → Shared → Prop} {n : Nat}
theorem in1_cl (M : Rm A (n + 1)) : A.in1.units < cLine := by have := M.units; rw [cLine_is]; show A.units + 1 < _; omega
theorem z_tab {value slice : Expr} {d : Addr} {v₁ v₂ : Value} {u : Tok} (M : Rm A (n + 1)) (T : Tabs prog w h d v₁ v₂) (hs : SubOk slice (.ref d) (.str ".text" u)) (q : ∀ tk', Q v₁ ⟨h, g, dr, tk', os⟩) :
    wpAny (model prog w) A (subscriptTail value slice (.ref d) (.str ".text" u)) Q E ⟨h, g, dr, tk, os⟩ := by
  obtain ⟨T, t, ep, h1, h2⟩ := T
  exact tail_any (s := ⟨h, g, dr, tk, os⟩) ⟨_, h1, rfl⟩ slot_dict_getitem.lookup (get_of_dict (n := 1) (i := 0) h1 (fun q => wpAny_pyHash_str q) (fun q => find2s (in1_cl M) h1 h2 q) rfl (q _)) hs
theorem z_tabE {value slice : Expr} {d T' : Addr} {v₁ v₂ : Value} (M : Rm A (n + 1)) (T : Tabs prog w h d v₁ v₂) (hT' : IsTupleKey (strKind prog w) h endKey T') (hs : SubOk slice (.ref d) (.ref T')) (q : ∀ tk', Q v₂ ⟨h, g, dr, tk', os⟩) :
    wpAny (model prog w) A (subscriptTail value slice (.ref d) (.ref T')) Q E ⟨h, g, dr, tk, os⟩ := by
  obtain ⟨T, t, ep, h1, h2⟩ := T
  exact tail_any (s := ⟨h, g, dr, tk, os⟩) ⟨_, h1, rfl⟩ slot_dict_getitem.lookup (get_of_dict (n := 3) (i := 1) h1 (fun q => wpAny_pyHash_tuple (in1_cl M) hT' q) (fun q => find2t (in1_cl M) h1 h2 hT' q) rfl (q _)) hs
theorem z_tabSet {d T : Addr} {o : Obj} {v₁ v₂ : Value} {i : Nat} {Q : Unit → Shared → Prop} (M : Rm A (n + 1)) (S : SF b L h m nw) (hi : AtI (d, o) nw i) (D : DObj (strKind prog w) o [(".text", v₁)]) (hT : IsTupleKey (strKind prog w) h endKey T)
    (q : ∀ h' tk' t ep, SF b L h' m (nw.set i (d, twoOf prog w t T v₁ v₂ ep)) → Q () ⟨h', g, dr, tk', os⟩) :
    wpAny (model prog w) A (setItem (.ref d) (.ref T) v₂) Q E ⟨h, g, dr, tk, os⟩ := by
  refine wk ?_ ?_
  · have ho := (S.news _ hi.mem).1
    obtain ⟨o', es, ep, ho', hx, hd, hk, hp, hn⟩ := D h d ho
    obtain ⟨e, t, he, hek⟩ : ∃ e t, es.toList = [e] ∧ e = ⟨hashStr w ".text", .str ".text" t, v₁⟩ := by
      generalize hl : es.toList = l at hp
      cases hp with
      | cons h1 h2 hr =>
        rename_i e l'
        cases hr
        obtain ⟨t, ht⟩ := Value.isStrOf_shape h1
        obtain ⟨k', hk1, hk2⟩ := hk e (Array.mem_toList_iff.mp (by rw [hl]; exact .head _))
        refine ⟨e, t, rfl, ?_⟩
        obtain ⟨eh, ek, ev⟩ := e
        dsimp only at *
        subst ht
        have : k' = ".text" := (strKind prog w).inj _ _ _ hk1 h1
        subst this
        rw [hk2, h2]
        rfl
    obtain ⟨l⟩ := es
    obtain ⟨oc, od, ol, os'⟩ := o'
    obtain ⟨rfl, rfl, rfl⟩ := hx
    dsimp only at hd he
    subst hd; subst he; subst hek
    have hT' : (⟨h, g, dr, tk, os⟩ : Shared).TypeIs (.ref d) "dict" := ⟨_, ho', rfl⟩
    unfold setItem
    refine wpAny_holding ?_
    refine wpAny_bind (wpAny_sequenceKey hT' (by decide) ?_)
    refine wpAny_bind (wpAny_callSpecial?_slot (name := Str.ofString "__setitem__") hT' slot_dict_setitem
      (wpAny_call_entry slot_dict_setitem hT' entry_dict_setitem ?_ (args_dict_setitem _ _ _)))
    show wpAny _ _ (Builtin.Dict.notOrdered "__setitem__" ⟨[.ref d, .ref T, v₂], []⟩ >>= _) _ _ _
    refine wpAny_bind (wpAny_notOrdered_dict hT' ?_)
    show wpAny _ _ (dictSet d (.ref T) v₂ >>= _) _ _ _
    refine wpAny_bind ?_
    unfold dictSet
    refine wpAny_holding ?_
    refine wpAny_bind (wpAny_pyHash_tuple (in1_cl M) hT ?_)
    unfold dictSetHashed
    refine wpAny_holding ?_
    refine wpAny_bind (find1 (s := ⟨h, g, dr, tk + 3, os⟩) (in1_cl M) ho' hT ?_)
    refine wpAny_bind (wpAny_rule (wpAny_updateDictKeys (s := ⟨h, g, dr, tk + 3, os⟩) ho' rfl ?_ (by show 1 ≤ sizeLine; rw [sizeLine_eq]; omega)))
    have hup := Heap.get?_update_self (Obj.mapDictKeys (fun x => x.push ⟨tupleKeyHash (strKind prog w) endKey, .ref T, v₂⟩)) ho' rfl
    exact wpAny_pure ⟨_, rfl, wpAny_pure (q _ _ t _ (S.setI (o' := twoOf prog w t T v₁ v₂ _) hi hup fun a x hne e => ((Heap.SameBut.update ..).2 a hne).trans e))⟩
  kct_strs
theorem SF.ekey {a : Addr} {t u : Tok} (S : SF b L h m nw) (x : At (a, ⟨.type "tuple", none, .seq #[.str ".text" t, .str "end" u] 0, #[]⟩) nw) : IsTupleKey (strKind prog w) h endKey a :=
  ⟨_, _, 0, (S.news _ x.mem).1, rfl, rfl, .cons (strKind_is _ _ _ _) (.cons (strKind_is _ _ _ _) .nil)⟩
end
section
variable {prog : Program} {w : World} {A : Around} {E : Value → Shared → Prop} {K : Frag} {b h : Heap} {L : Addr} {m : Str → Option Value} {nw nw' : List (Addr × Obj)} {g : Array GenState} {dr : Drawn} {tk : Nat} {os : OsState} {env : Env} {pos : Pos} {k : Nat}
  {ns : List Str} {gns bns : List (Str × Value)} {n : Nat}
theorem pos_name {x : Str} {p : Pos} : (Expr.Name x p).pos = p := rfl
theorem swaps2 {x y : Str} {px py tpos vpos : Pos} {kk kv : Nat} {e₁ e₂ : Expr} (hk : env.blockKind = .function) (hx : env.kindOf x = some .local) (hy : env.kindOf y = some .local)
    (hc : (px.line == px.line && py.line == px.line && !(x == y)) = true) (hs : ([e₁, e₂].any fun | .Starred .. => true | _ => false) = false) (hf : [e₁, e₂].all (foldedForSure 8) = false) (hcs : [e₁, e₂].all (constantsAlone 8) = false) :
    swappedStores [.Tuple [.Name x px, .Name y py] kk tpos] (.Tuple [e₁, e₂] kv vpos) env = pure (some [x, y]) := by
  refine wk ?_ ?_
  · simp only [Bool.and_eq_true, Bool.not_eq_true', beq_iff_eq, beq_eq_false_iff_ne, ne_eq] at hc
    obtain ⟨⟨_, h1⟩, h2⟩ := hc
    unfold swappedStores
    simp only [hf, hcs, hs, hk]
    simp [hx, hy, h1, pos_name, List.eraseDups, List.eraseDupsBy, List.eraseDupsBy.loop, h2, Ne.symm h2]
    have h3 : (y == x) = false := by simpa using (Ne.symm h2)
    rw [h3]
    simp only [List.any_cons, List.any_nil, Bool.or_false, Bool.or_eq_false_iff] at hs
    rw [if_neg (fun hh => hh.elim (fun z => Bool.noConfusion (z.symm.trans hs.1)) (fun z => Bool.noConfusion (z.symm.trans hs.2)))]
    rfl
  kct_strs
theorem swaps3 {x y z : Str} {px py pz tpos vpos : Pos} {kk kv : Nat} {e₁ e₂ e₃ : Expr} (hk : env.blockKind = .function) (hx : env.kindOf x = some .local) (hy : env.kindOf y = some .local) (hz : env.kindOf z = some .local)
    (hc : (py.line == px.line && pz.line == px.line && !(x == y) && !(x == z) && !(y == z)) = true) (hs : ([e₁, e₂, e₃].any fun | .Starred .. => true | _ => false) = false) (hf : [e₁, e₂, e₃].all (foldedForSure 8) = false) (hcs : [e₁, e₂, e₃].all (constantsAlone 8) = false) :
    swappedStores [.Tuple [.Name x px, .Name y py, .Name z pz] kk tpos] (.Tuple [e₁, e₂, e₃] kv vpos) env = pure (some [x, y, z]) := by
  refine wk ?_ ?_
  · simp only [Bool.and_eq_true, Bool.not_eq_true', beq_iff_eq, beq_eq_false_iff_ne, ne_eq] at hc
    obtain ⟨⟨⟨⟨h1, h1'⟩, h2⟩, h2'⟩, h2''⟩ := hc
    unfold swappedStores
    simp only [hf, hcs, hs, hk]
    simp [hx, hy, hz, h1, h1', pos_name, List.eraseDups, List.eraseDupsBy, List.eraseDupsBy.loop, h2, Ne.symm h2]
    have h3 : (y == x) = false := by simpa using (Ne.symm h2)
    have h4 : (z == x) = false := by simpa using (Ne.symm h2')
    have h5 : (z == y) = false := by simpa using (Ne.symm h2'')
    rw [h3]
    simp only [List.any_cons, List.any_nil, Bool.or_false, Bool.or_eq_false_iff, List.mem_cons] at *
    rw [if_neg (fun hh => hh.elim (fun z => Bool.noConfusion (z.symm.trans hs.1)) (fun hh => hh.elim (fun z => Bool.noConfusion (z.symm.trans hs.2.1)) (fun z => Bool.noConfusion (z.symm.trans hs.2.2))))]
    simp [h4, h5, List.elem_cons]
  kct_strs
theorem EV.block (V : EV K env L ns gns bns) : env.blockKind = .function := by unfold Env.blockKind; rw [V.kind]; rfl
theorem z_swap2 {x y : Str} {i j : Nat} {px py tpos vpos : Pos} {kk kv : Nat} {e₁ e₂ : Expr} {rest : List Stmt} {Q : Flow → Shared → Prop} {s : Shared} (V : EV K env L ns gns bns) (hx : IxAt ns x i) (hy : IxAt ns y j)
    (hc : (px.line == px.line && py.line == px.line && !(x == y)) = true) (hs : ([e₁, e₂].any fun | .Starred .. => true | _ => false) = false) (hf : [e₁, e₂].all (foldedForSure 8) = false) (hcs : [e₁, e₂].all (constantsAlone 8) = false)
    (q : wpAny (model prog w) A (eval (.Tuple [e₁, e₂] kv vpos) env) (fun v s₁ => wpAny (model prog w) A (unpackItems v [x, y].length none) (fun items s₂ => wpAny (model prog w) A (assignInOrder ([x, y].reverse.map fun n => bindName env n) items.reverse) (fun _ s₃ => wpAny (model prog w) A (execs rest env) Q E s₃) E s₂) E s₁) E s) :
    wpAny (model prog w) A (execs (.Assign [.Tuple [.Name x px, .Name y py] kk tpos] (.Tuple [e₁, e₂] kv vpos) pos :: rest) env) Q E s :=
  wpAny_execs_cons (Assign_Tuple_swapped q rfl (swaps2 V.block (V.loc' x hx.mem) (V.loc' y hy.mem) hc hs hf hcs))
theorem z_swap3 {x y z : Str} {i j l : Nat} {px py pz tpos vpos : Pos} {kk kv : Nat} {e₁ e₂ e₃ : Expr} {rest : List Stmt} {Q : Flow → Shared → Prop} {s : Shared} (V : EV K env L ns gns bns) (hx : IxAt ns x i) (hy : IxAt ns y j) (hz : IxAt ns z l)
    (hc : (py.line == px.line && pz.line == px.line && !(x == y) && !(x == z) && !(y == z)) = true) (hs : ([e₁, e₂, e₃].any fun | .Starred .. => true | _ => false) = false) (hf : [e₁, e₂, e₃].all (foldedForSure 8) = false) (hcs : [e₁, e₂, e₃].all (constantsAlone 8) = false)
    (q : wpAny (model prog w) A (eval (.Tuple [e₁, e₂, e₃] kv vpos) env) (fun v s₁ => wpAny (model prog w) A (unpackItems v [x, y, z].length none) (fun items s₂ => wpAny (model prog w) A (assignInOrder ([x, y, z].reverse.map fun n => bindName env n) items.reverse) (fun _ s₃ => wpAny (model prog w) A (execs rest env) Q E s₃) E s₂) E s₁) E s) :
    wpAny (model prog w) A (execs (.Assign [.Tuple [.Name x px, .Name y py, .Name z pz] kk tpos] (.Tuple [e₁, e₂, e₃] kv vpos) pos :: rest) env) Q E s :=
  wpAny_execs_cons (Assign_Tuple_swapped q rfl (swaps3 V.block (V.loc' x hx.mem) (V.loc' y hy.mem) (V.loc' z hz.mem) hc hs hf hcs))
theorem z_put2 {x y : Str} {i j : Nat} {v₁ v₂ : Value} {a : Addr} {f : Nat → Option Value} {Q : Unit → Shared → Prop} (V : EV K env L ns gns bns) (S : SF b L h (lc ns f) nw) (M : Rm A n) (hx : IxAt ns x i) (hy : IxAt ns y j) (hT : IsTup h a #[v₁, v₂])
    (q : ∀ h' tk', SF b L h' (lc ns (up (up f j v₂) i v₁)) nw → Q () ⟨h', g, dr, tk', os⟩) :
    wpAny (model prog w) A (unpackItems (.ref a) [x, y].length none) (fun items s₂ => wpAny (model prog w) A (assignInOrder ([x, y].reverse.map fun n => bindName env n) items.reverse) Q E s₂) E ⟨h, g, dr, tk, os⟩ := by
  refine (PyProof.Rows.unpackItems_tuple (s := ⟨h, g, dr, tk, os⟩) (items := #[v₁, v₂]) M.handled hT fun h' he => ?_ : wpAny _ _ (unpackItems (.ref a) (#[v₁, v₂]).size none) _ _ _)
  have kp : ∀ c o, h.get? c = some o → h'.get? c = some o := fun c o e => he c o (Nat.ne_of_lt (Heap.lt_size e)) e
  have S' := S.keeps kp
  show wpAny _ _ (assignInOrder [bindName env y, bindName env x] [v₂, v₁]) _ _ _
  refine assignInOrder_cons (wpAny_bindName (z_store V S' hy fun h₁ tk₁ S₁ => assignInOrder_cons (wpAny_bindName (z_store V S₁ hx fun h₂ tk₂ S₂ => assignInOrder_nil (q _ _ S₂)))))
theorem z_put3 {x y z : Str} {i j l : Nat} {v₁ v₂ v₃ : Value} {a : Addr} {f : Nat → Option Value} {Q : Unit → Shared → Prop} (V : EV K env L ns gns bns) (S : SF b L h (lc ns f) nw) (M : Rm A n) (hx : IxAt ns x i) (hy : IxAt ns y j) (hz : IxAt ns z l) (hT : IsTup h a #[v₁, v₂, v₃])
    (q : ∀ h' tk', SF b L h' (lc ns (up (up (up f l v₃) j v₂) i v₁)) nw → Q () ⟨h', g, dr, tk', os⟩) :
    wpAny (model prog w) A (unpackItems (.ref a) [x, y, z].length none) (fun items s₂ => wpAny (model prog w) A (assignInOrder ([x, y, z].reverse.map fun n => bindName env n) items.reverse) Q E s₂) E ⟨h, g, dr, tk, os⟩ := by
  refine (PyProof.Rows.unpackItems_tuple (s := ⟨h, g, dr, tk, os⟩) (items := #[v₁, v₂, v₃]) M.handled hT fun h' he => ?_ : wpAny _ _ (unpackItems (.ref a) (#[v₁, v₂, v₃]).size none) _ _ _)
  have kp : ∀ c o, h.get? c = some o → h'.get? c = some o := fun c o e => he c o (Nat.ne_of_lt (Heap.lt_size e)) e
  have S' := S.keeps kp
  show wpAny _ _ (assignInOrder [bindName env z, bindName env y, bindName env x] [v₃, v₂, v₁]) _ _ _
  refine assignInOrder_cons (wpAny_bindName (z_store V S' hz fun h₀ tk₀ S₀ => assignInOrder_cons (wpAny_bindName (z_store V S₀ hy fun h₁ tk₁ S₁ => assignInOrder_cons (wpAny_bindName (z_store V S₁ hx fun h₂ tk₂ S₂ => assignInOrder_nil (q _ _ S₂)))))))
end
section
variable {prog : Program} {w : World} {A : Around} {E : Value → Shared → Prop} {K : Frag} {b h : Heap} {L : Addr} {m : Str → Option Value} {nw nw' : List (Addr × Obj)} {g : Array GenState} {dr : Drawn} {tk : Nat} {os : OsState} {env : Env} {pos : Pos} {k : Nat}
  {ns : List Str} {gns bns : List (Str × Value)} {n : Nat}
theorem chain_lastE {M : Model} {s : Shared} {a : Value} {op : CmpOp} {e : Expr} {Q : Value → Shared → Prop}
    (q : wpAny M A (eval e env) (fun b s₁ => wpAny M A (compareOp op a b) Q E s₁) E s) : wpAny M A (compareChain pos a [op] (eval e env :: evalEach [] env)) Q E s := chain_last q
theorem test_lastE {M : Model} {s : Shared} {a : Value} {op : CmpOp} {e : Expr} {Q : Bool → Shared → Prop}
    (q : wpAny M A (eval e env) (fun b s₁ => wpAny M A (compareOp op a b) (fun c s₂ => wpAny M A (truthy c) Q E s₂) E s₁) E s) : wpAny M A (testChain pos a [op] (eval e env :: evalEach [] env)) Q E s := test_last q
theorem z_fun0 {fn : Str} {p : Pos} {fa : Addr} {Q : Value → Shared → Prop} (V : EV K env L ns gns bns) (S : SF b L h m nw) (G : GR K b) (hx : At (fn, .ref fa) gns) (hk : keepIn K (.ref fa) = true)
    (q : wpAny (model prog w) A (call (.ref fa) []) Q E ⟨h, g, dr, tk, os⟩) :
    wpAny (model prog w) A (eval (.Call (.Name fn p) [] [] pos) env) Q E ⟨h, g, dr, tk, os⟩ := z_call0 V G S hx hk q
theorem z_atL {x C dx : Addr} {es : List DictEntry} {c : Nat} {name : Str} {v : Value} {expr : Bool} {Q : Value → Shared → Prop} (S : SF b L h m nw) (G : GR K b) (h1 : At (x, instObj C dx) nw) (h2 : At (dx, dictOf es c) nw) (h3 : getL name es = some (some v)) (h4 : handedIn v = true) (h5 : atChk K C name = true)
    (q : ∀ tk', Q v ⟨h, g, dr, tk', os⟩) : wpAny (model prog w) A (getAttr (.ref x) name expr) Q E ⟨h, g, dr, tk, os⟩ := z_attrH (G.keeps S.keep) (AttrIs.of S h1 h2 h3 h4 h5) q
end
section
variable {prog : Program} {w : World} {A : Around} {E : Value → Shared → Prop} {K : Frag} {b h : Heap} {L : Addr} {m : Str → Option Value} {nw nw' : List (Addr × Obj)} {g : Array GenState} {dr : Drawn} {tk : Nat} {os : OsState} {env : Env} {pos : Pos} {k : Nat}
  {ns : List Str} {gns bns : List (Str × Value)} {n : Nat}
/-! ### captured names -/
theorem z_nameC {x : Str} {c : Addr} {v : Value} {p : Pos} {Q : Value → Shared → Prop} (V : EV K env L ns gns bns) (hk : env.kindOf x = some .cell) (hc : env.cells.lookup x = some c) (hv : h.IsCell c (some v)) (hd : (x == ("__debug__" : Str)) = false)
    (q : Q v ⟨h, g, dr, tk, os⟩) : wpAny (model prog w) A (eval (.Name x p) env) Q E ⟨h, g, dr, tk, os⟩ := wpAny_Name (wpAny_loadName_cell V.kind hk hc hv q) hd
theorem z_storeC {x : Str} {c : Addr} {o : Obj} {v₀ : Option Value} {v : Value} {i : Nat} {Q : Unit → Shared → Prop} (V : EV K env L ns gns bns) (S : SF b L h m nw) (hk : env.kindOf x = some .cell) (hc : env.cells.lookup x = some c) (hi : AtI (c, o) nw i) (ho : o.data = .cell v₀)
    (q : ∀ h' o', SF b L h' m (nw.set i (c, o')) → o'.data = .cell (some v) → Q () ⟨h', g, dr, tk, os⟩) : wpAny (model prog w) A (storeName env x v) Q E ⟨h, g, dr, tk, os⟩ := by
  refine wpAny_storeName_cell V.kind hk hc ⟨o, (S.news _ hi.mem).1, ho⟩ fun h' hc' hs => ?_
  obtain ⟨o', h1, h2⟩ := hc'
  exact q h' o' (S.setI hi h1 fun a x hne e => (hs.2 a hne).trans e) h2

/-! ### what a loop draws -/
structure Src (prog : Program) (w : World) (A : Around) (b : Heap) (env : Env) (C : Addr) (ns : List Str) (I : Addr) (fp wr : List Addr) (n : Nat) (target : Expr) (St : Nat → Heap → Prop) (Bd : Nat → (Nat → Option Value) → (Nat → Option Value) → Prop) : Prop where
  frame : ∀ i h h', St i h → (∀ c ∈ fp, ∀ o, h.get? c = some o → h'.get? c = some o) → St i h'
  live : ∀ i h, St i h → ∀ c ∈ wr, ∃ o, h.get? c = some o
  item : ∀ i h f nw own g dr tk os (Q : Shared → Prop), i < n → St i h → SF b C h (lc ns f) (nw ++ own) → own.map (·.1) = wr →
    (∀ h' tk' f' own', own'.map (·.1) = wr → SF b C h' (lc ns f') (nw ++ own') → St (i + 1) h' → Bd i f f' → Q ⟨h', g, dr, tk', os⟩) →
    wpAny (model prog w) A (pyNext (.ref I)) (fun r s₁ => match r with
      | none => False
      | some v => wpAny (model prog w) A (letOwnedTupleGo target (.ref I) v) (fun _ s₂ => wpAny (model prog w) A (assign target env v) (fun _ s₃ => Q s₃) (fun _ _ => False) s₂) (fun _ _ => False) s₁) (fun _ _ => False) ⟨h, g, dr, tk, os⟩
  done : ∀ (s : Shared) (Q : Option Value → Shared → Prop) (E : Value → Shared → Prop), St n s.heap →
    (∀ h' tk, (∀ b o, b ∉ wr → s.heap.get? b = some o → h'.get? b = some o) → Q none { s with heap := h', toks := tk }) → wpAny (model prog w) A (pyNext (.ref I)) Q E s
  self : ∀ i (s : Shared) (Q : Value → Shared → Prop) (E : Value → Shared → Prop), St i s.heap → Q (.ref I) s → wpAny (model prog w) A (pyIter (.ref I)) Q E s

theorem Src.name {x : Str} {px : Pos} {i₀ : Nat} {I : Addr} {fp wr : List Addr} {n : Nat} {P : Nat → Value → Prop} {St : Nat → Heap → Prop} {C : Addr} (W : Walks prog w A I fp wr n P St) (hlive : ∀ i h, St i h → ∀ c ∈ wr, ∃ o, h.get? c = some o)
    (V : EV K env C ns gns bns) (hx : IxAt ns x i₀) (hfp : ∀ c ∈ fp, c ∈ wr ∨ ∃ o, b.get? c = some o) :
    Src prog w A b env C ns I fp wr n (.Name x px) St (fun i f f' => ∃ v, P i v ∧ f' = up f i₀ v) := by
  refine wk ?_ ?_
  · refine ⟨W.frame, hlive, ?_, W.done, W.self⟩
    intro i h f nw own g dr tk os Q hi hs S ho q
    refine W.item i _ _ _ hi hs fun v h₂ tk₂ hP hs₂ hk => ?_
    obtain ⟨own₂, e₂, S₂⟩ := S.own' (h' := h₂) ho hk (hlive _ _ hs₂)
    dsimp only
    rw [letGo_name]
    refine wpAny_pure (PySem.wpAny_assign_Name (z_store V S₂ hx fun h₃ tk₃ S₃ => ?_))
    exact q h₃ tk₃ _ own₂ e₂ S₃ (W.frame _ _ _ hs₂ (SF.same (stay := []) S₂ S₃ e₂ (fun c hc => (hfp c hc).imp id .inl) (fun _ hp => nomatch hp) (fun _ hp => nomatch hp))) ⟨v, hP, rfl⟩
  kct_strs
/-- a tuple as the target: how it is laid -/
theorem Src.tuple {elts : List Expr} {kk : Nat} {tpos : Pos} {I : Addr} {fp wr : List Addr} {n : Nat} {Pt : Nat → Array Value → Prop} {St : Nat → Heap → Prop} {Mid : Nat → Addr → Heap → Prop} {C : Addr} {Bd : Nat → (Nat → Option Value) → (Nat → Option Value) → Prop}
    (W : WalksU prog w A I fp wr n Pt St Mid) (hlive : ∀ i h, St i h → ∀ c ∈ wr, ∃ o, h.get? c = some o) (hmid : ∀ i T h, Mid i T h → ∀ c ∈ wr, ∃ o, h.get? c = some o) (hfp : ∀ c ∈ fp, c ∈ wr ∨ ∃ o, b.get? c = some o)
    (lay : ∀ i T vals h f nw g dr tk os (Q : Shared → Prop), Pt i vals → IsTup h T vals → SF b C h (lc ns f) nw → (∀ h' tk' f', SF b C h' (lc ns f') nw → Bd i f f' → Q ⟨h', g, dr, tk', os⟩) →
      wpAny (model prog w) A (assign (.Tuple elts kk tpos) env (.ref T)) (fun _ s₃ => Q s₃) (fun _ _ => False) ⟨h, g, dr, tk, os⟩) :
    Src prog w A b env C ns I fp wr n (.Tuple elts kk tpos) St Bd := by
  refine wk ?_ ?_
  · refine ⟨W.frame, hlive, ?_, W.done, W.self⟩
    intro i h f nw own g dr tk os Q hi hs S ho q
    refine W.item i _ _ _ hi hs fun T vals h₂ tk₂ hP hT hM hk => ?_
    obtain ⟨own₂, e₂, S₂⟩ := S.own' (h' := h₂) ho hk (hmid _ _ _ hM)
    dsimp only
    refine W.go _ _ _ i T _ _ _ hM fun h₃ hs₃ hk₃ => ?_
    obtain ⟨own₃, e₃, S₃⟩ := S₂.own' (h' := h₃) e₂ hk₃ (hlive _ _ hs₃)
    have hT₃ : IsTup h₃ T vals := by
      obtain ⟨o, ho', r⟩ := hT
      exact ⟨o, hk₃ _ _ (W.apart _ _ _ hM) ho', r⟩
    refine lay i T vals _ _ _ _ _ _ _ _ hP hT₃ S₃ fun h₄ tk₄ f' S₄ hB => ?_
    exact q h₄ tk₄ _ own₃ e₃ S₄ (W.frame _ _ _ hs₃ (SF.same (stay := []) S₃ S₄ e₃ (fun c hc => (hfp c hc).imp id .inl) (fun _ hp => nomatch hp) (fun _ hp => nomatch hp))) hB
  kct_strs
/-! ### comprehensions -/
noncomputable def Own (h h₂ : Heap) (own : List (Addr × Obj)) : Prop := (∀ a o, h.get? a = some o → h₂.get? a = some o) ∧ (∀ p ∈ own, h₂.get? p.1 = some p.2 ∧ h.get? p.1 = none) ∧ (own.map (·.1)).Nodup
theorem SF.ownOf {add : List (Addr × Obj)} {h' : Heap} (S : SF b L h m nw) (O : Own h h' add) : SF b L h' m (add ++ nw) := S.more O.1 (fun p hp => O.2.1 p hp) O.2.2
noncomputable def tests (ifs : List Expr) (env : Env) : Sem Bool := forIn ifs true fun c r => if r = true then do let ok ← isTrue c env (eval c env); pure (ForInStep.yield ok) else pure (ForInStep.yield r)
theorem z_tests0 {M : Model} {s : Shared} {Q : Bool → Shared → Prop} (q : Q true s) : wpAny M A (tests [] env) Q E s := wpAny_pure q
theorem z_tests1 {M : Model} {s : Shared} {c : Expr} {Q : Bool → Shared → Prop} (q : wpAny M A (PySem.isTrue c env (eval c env)) Q E s) : wpAny M A (tests [c] env) Q E s := by
  unfold tests
  simp only [List.forIn_cons, List.forIn_nil, if_true]
  exact wpAny_bind (wpAny_bind (wpAny_mono q (fun b s' hb => wpAny_pure (wpAny_pure hb)) fun _ _ x => x))
theorem z_compRaw {s : Shared} {R : Result → Shared → Prop} {elt target iter : Expr} {ifs : List Expr} {scope : Scope} {it acc : Value} (I : Nat → Shared → Prop)
    (turn : ∀ n s, I n s → wpAny (model prog w) A (pyNext it) (fun r s₁ => match r with
      | none => R (.ok .next) s₁
      | some v => wpAny (model prog w) A (letOwnedTupleGo target it v) (fun _ s₂ => wpAny (model prog w) A (assign target env v) (fun _ s₃ =>
          wpAny (model prog w) A (tests ifs env) (fun ok s₄ =>
            if ok = true then wpAny (model prog w) A (eval elt env) (fun x s₅ =>
              wpAny (model prog w) A (call (.builtin "list.append") [acc, x]) (fun _ s₆ => ∃ m, m < n ∧ I m s₆) (fun _ _ => False) s₅) (fun _ _ => False) s₄
            else ∃ m, m < n ∧ I m s₄) (fun _ _ => False) s₃) (fun _ _ => False) s₂) (fun _ _ => False) s₁) (fun _ _ => False) s)
    (n : Nat) (hI : I n s) :
    codeAny (model prog w) A (.compLoop (.ListComp elt [⟨target, iter, ifs, 0⟩] scope pos) 0 it acc env) R s := by
  refine codeAny_loop rfl I (fun n s hI => ?_) n hI
  show wpAny _ A ((compTurn (.ListComp elt [⟨target, iter, ifs, 0⟩] scope pos) 0 it acc env).onRaise (fun x => do noteFrame x env; theTreesLotGoes x)) _ _ s
  refine wpAny_noted ?_
  rw [compTurn_list]
  refine wpAny_bind (wpAny_standAt (wpAny_bind (wpAny_mono (turn n s hI) (fun r s₁ h₁ => ?_) fun _ _ h' => h'.elim)))
  cases r with
  | none => exact wpAny_pure h₁
  | some v =>
    refine wpAny_bind (wpAny_mono h₁ (fun _ s₂ h₂ => wpAny_bind (wpAny_mono h₂ (fun _ s₃ h₃ => wpAny_bind (wpAny_mono h₃ (fun ok s₄ h₄ => ?_) fun _ _ h' => h'.elim)) fun _ _ h' => h'.elim)) fun _ _ h' => h'.elim)
    cases ok with
    | false => exact wpAny_pure ⟨rfl, h₄⟩
    | true =>
      exact wpAny_bind (wpAny_bind (wpAny_mono h₄ (fun x s₄ h₄ => wpAny_bind (wpAny_mono h₄ (fun _ s₅ h₅ => wpAny_pure (wpAny_pure ⟨rfl, h₅⟩)) fun _ _ h' => h'.elim)) fun _ _ h' => h'.elim))
noncomputable def compChk (K : Frag) (sc : Scope) (ns : List Str) (gns bns : List (Str × Value)) : Bool :=
  sc.kind == .function && decide ns.Nodup && ns.all (fun x => sc.names.lookup x == some .local) && gnOk K sc gns && bnOk K sc bns &&
  !ns.contains ("__debug__" : Str) && !(gns.map (·.1)).contains ("__debug__" : Str) && !(bns.map (·.1)).contains ("__debug__" : Str)
theorem EV.comp {scope cs : Scope} {cl : List (Str × Addr)} {C : Addr} {cns : List Str} {cg cb : List (Str × Value)} (V : EV K env L ns gns bns) (hrel : relabel scope env = cs) (chk : compChk K cs cns cg cb = true) : EV K (compEnvC scope cl C env) C cns cg cb := by
  refine wk ?_ ?_
  · unfold compChk at chk
    simp only [Bool.and_eq_true, Bool.not_eq_true', beq_iff_eq, decide_eq_true_eq] at chk
    obtain ⟨⟨⟨⟨⟨⟨⟨hk, nd⟩, hloc⟩, hg⟩, hbn⟩, d1⟩, d2⟩, d3⟩ := chk
    have nmem : ∀ {l : List Str} {x : Str}, l.contains x = false → x ∉ l := fun {l x} e hm => by
      rw [List.contains_iff_mem.mpr hm] at e; cases e
    have hs : (compEnvC scope cl C env).scope = cs := hrel
    refine ⟨by rw [hs]; exact hk, rfl, V.glob, V.bi, nd, fun x hx => ?_, by rw [hs]; exact hg, by rw [hs]; exact hbn, nmem d1, nmem d2, nmem d3⟩
    unfold Env.kindOf
    rw [hs]
    exact beq_iff_eq.mp (List.all_eq_true.mp hloc x hx)
  kct_strs
end
section
variable {prog : Program} {w : World} {A : Around} {E : Value → Shared → Prop} {K : Frag} {b h : Heap} {L : Addr} {m : Str → Option Value} {nw nw' : List (Addr × Obj)} {g : Array GenState} {dr : Drawn} {tk : Nat} {os : OsState} {env : Env} {pos : Pos} {k : Nat}
  {ns : List Str} {gns bns : List (Str × Value)} {n : Nat}
/-- the end of a comprehension's turn -/
noncomputable def CompEnd (b : Heap) (C : Addr) (ns : List Str) (own : List (Addr × Obj)) (Inv : (Nat → Option Value) → List (Addr × Obj) → List Value → Prop) (g : Array GenState) (dr : Drawn) (os : OsState) (ys : List Value) (s : Shared) : Prop :=
  ∃ h' tk' f' nw', s = ⟨h', g, dr, tk', os⟩ ∧ SF b C h' (lc ns f') (nw' ++ own) ∧ Inv f' nw' ys
theorem CompEnd.of {own : List (Addr × Obj)} {Inv : (Nat → Option Value) → List (Addr × Obj) → List Value → Prop} {ys : List Value} {f' : Nat → Option Value} {nw₁ : List (Addr × Obj)} (S : SF b L h (lc ns f') nw₁) (hs : (nw' ++ own).Sublist nw₁) (hi : Inv f' nw' ys) :
    CompEnd b L ns own Inv g dr os ys ⟨h, g, dr, tk, os⟩ := ⟨h, tk, f', nw', rfl, S.sub hs, hi⟩
theorem Put.mid {d : Addr} {o o' : Obj} {l₁ l₂ : List (Addr × Obj)} : Put d o o' (l₁ ++ (d, o) :: l₂) (l₁ ++ (d, o') :: l₂) := Put.append .head
theorem z_compCore {scope cs : Scope} {cl : List (Str × Addr)} {elt iter target : Expr} {ifs : List Expr} {I : Addr} {fp wr : List Addr} {n : Nat} {St : Nat → Heap → Prop} {Bd : Nat → (Nat → Option Value) → (Nat → Option Value) → Prop} {use : Option (Value → Sem Unit)} {Q : Value → Shared → Prop}
    {own₀ : List (Addr × Obj)} {h₂ : Heap} (cns : List Str) (cg cb : List (Str × Value)) (Inv : Nat → (Nat → Option Value) → List (Addr × Obj) → List Value → Prop)
    (V : EV K env L ns gns bns) (hrel : relabel scope env = cs) (chk : compChk K cs cns cg cb = true) (hcell : ∀ y ∈ scope.names, y.2 ≠ .cell) (hkind : scope.kind = .function)
    (O : Own h h₂ own₀) (hle : h.objs.size ≤ h₂.objs.size) (how : own₀.map (·.1) = wr) (src : ∀ C, EV K (compEnvC scope cl C env) C cns cg cb → Src prog w A h (compEnvC scope cl C env) C cns I fp wr n target St Bd) (hst : St 0 h₂) (hn : n ≤ 1000)
    (hfp : ∀ c ∈ fp, c ∈ wr ∨ ∃ o, h.get? c = some o)
    (h0 : Inv 0 (fun _ => none) [] [])
    (turn : ∀ C i h₁ tk₁ f f₁ nw₁ own ys, i < n → Inv i f nw₁ ys → Bd i f f₁ → EV K (compEnvC scope cl C env) C cns cg cb → SF h C h₁ (lc cns f₁) (nw₁ ++ own) →
      wpAny (model prog w) A (tests ifs (compEnvC scope cl C env)) (fun ok s => if ok = true then wpAny (model prog w) A (eval elt (compEnvC scope cl C env)) (fun y s' => CompEnd h C cns own (Inv (i + 1)) g dr os (ys ++ [y]) s') (fun _ _ => False) s
        else CompEnd h C cns own (Inv (i + 1)) g dr os ys s) (fun _ _ => False) ⟨h₁, g, dr, tk₁, os⟩)
    (done : ∀ D C oC h' tk' f nw' ys, Inv n f nw' ys → Own h h' ((D, listOf ys.toArray ys.length) :: (C, oC) :: nw') → h'.Ns C (lc cns f) → compPost (model prog w) A E use Q (.ref D) C (.ok .next) ⟨h', g, dr, tk', os⟩) :
    wpAny (model prog w) A (newList []) (fun acc s₃ => wpAny (model prog w) A (newFunctionEnv scope env.globals cl [] env.qual none .none (some env)) (fun cenv s₄ =>
      codeAny (model prog w) A (.compStart (.ListComp elt [⟨target, iter, ifs, 0⟩] scope pos) 0 (.ref I) acc { cenv with scope := relabel scope env }) (compPost (model prog w) A E use Q acc cenv.locals) s₄) E s₃) E ⟨h₂, g, dr, tk, os⟩ := by
  refine wk ?_ ?_
  · have none_of : ∀ {hh : Heap} c, hh.objs.size ≤ c → hh.get? c = none := fun {hh} c hc => by
      cases z : hh.get? c with
      | none => rfl
      | some o => exact absurd (Heap.lt_size z) (Nat.not_lt.mpr hc)
    refine wpAny_newObj_type (wpAny_newFunctionEnv hcell (by intro y hy; simp at hy) (fun h₁ hns₁ hsb₁ => ?_) hkind)
    dsimp only at hns₁ hsb₁ ⊢
    generalize hH2 : h₂.push { cls := .type "list", dict := none, data := .seq ([] : List Value).toArray } = H2 at hns₁ hsb₁ ⊢
    have hC : H2.objs.size = h₂.objs.size + 1 := by rw [← hH2, Heap.size_push]
    have below : ∀ b, b < h₂.objs.size → b ≠ H2.objs.size := fun b hb => by rw [hC]; exact Nat.ne_of_lt (Nat.lt_succ_of_lt hb)
    have old : ∀ b o, h₂.get? b = some o → h₁.get? b = some o := fun b o e => hsb₁.extBut b o (below b (Heap.lt_size e)) (Heap.get?_push_of_some _ (hH2 ▸ Heap.get?_push_of_some _ e))
    have hD : h₁.get? h₂.objs.size = some (listOf #[] 0) := hsb₁.extBut _ _ (by rw [hC]; exact Nat.ne_of_lt (Nat.lt_succ_self _)) (Heap.get?_push_of_some _ (hH2 ▸ Heap.get?_push_size _ rfl))
    generalize hDD : h₂.objs.size = D at *
    generalize hCC : H2.objs.size = C at *
    have hDC : D ≠ C := by rw [hC]; exact Nat.ne_of_lt (Nat.lt_succ_self _)
    have hDn : h.get? D = none := none_of _ hle
    have hCn : h.get? C = none := none_of _ (by rw [hC]; exact Nat.le_succ_of_le hle)
    have hCn₂ : h₂.get? C = none := none_of _ (by rw [hC, hDD]; exact Nat.le_succ _)
    have hDn₂ : h₂.get? D = none := none_of _ (by rw [hDD]; exact Nat.le_refl _)
    have S₀ : SF h C h₁ (lc cns fun _ => none) (((D, listOf #[] 0) :: []) ++ own₀) := by
      refine ⟨⟨?_, fun a o e => old a o (O.1 a o e), by rw [hC]; exact Nat.le_succ_of_le hle⟩, fun p hp => ?_, ?_⟩
      · have e : (fun x => List.lookup x ([] : List (Str × Value)).reverse) = lc cns fun _ => none := funext fun x => by
          show none = (ix cns x).bind fun _ => none
          cases ix cns x <;> rfl
        rw [← e]; exact hns₁
      · rcases List.mem_cons.mp hp with rfl | hp
        · exact ⟨hD, hDC, hDn⟩
        · have := O.2.1 p hp
          exact ⟨old _ _ this.1, (fun e => by rw [e, hCn₂] at this; exact absurd this.1 (fun z => nomatch z)), this.2⟩
      · rw [List.cons_append, List.nil_append, List.map_cons, List.nodup_cons]
        refine ⟨fun hm => ?_, O.2.2⟩
        obtain ⟨p, hp, e⟩ := List.mem_map.mp hm
        have h1 := (O.2.1 p hp).1
        rw [e, hDn₂] at h1; cases h1
    have VC := V.comp (C := C) (cl := cl) hrel chk
    have R := src C VC
    have hst₁ : St 0 h₁ := R.frame _ _ _ hst fun c _ o e => old c o e
    have sh : ∀ (a : List (Addr × Obj)) (x : Addr × Obj) (c : List (Addr × Obj)), a ++ x :: c = (a ++ [x]) ++ c := fun a x c => by simp
    have loop : ∀ tk₁, codeAny (model prog w) A (.compLoop (.ListComp elt [⟨target, iter, ifs, 0⟩] scope pos) 0 (.ref I) (.ref D) (compEnvC scope cl C env)) (compPost (model prog w) A E use Q (.ref D) C) ⟨h₁, g, dr, tk₁, os⟩ := by
      intro tk₁
      refine z_compRaw (fun j s => ∃ i h₃ tk₃ f nw₁ own ys, j = n - i ∧ i ≤ n ∧ s = ⟨h₃, g, dr, tk₃, os⟩ ∧ own.map (·.1) = wr ∧ SF h C h₃ (lc cns f) (nw₁ ++ (D, listOf (List.toArray ys) ys.length) :: own) ∧ Inv i f nw₁ ys ∧ ys.length ≤ i ∧ St i h₃) ?_ n
        ⟨0, h₁, tk₁, _, [], own₀, [], rfl, Nat.zero_le _, rfl, how, S₀, h0, Nat.le_refl _, hst₁⟩
      rintro j s ⟨i, h₃, tk₃, f, nw₁, own, ys, rfl, hin, rfl, ho, S₃, hI, hy, hs₃⟩
      rcases Nat.lt_or_ge i n with hlt | hge
      · rw [sh] at S₃
        refine wpAny_mono (R.item i h₃ f _ own g dr tk₃ os (fun s' => wpAny (model prog w) A (tests ifs (compEnvC scope cl C env)) (fun ok s₄ =>
              if ok = true then wpAny (model prog w) A (eval elt (compEnvC scope cl C env)) (fun x s₅ =>
                wpAny (model prog w) A (call (.builtin "list.append") [.ref D, x]) (fun _ s₆ => ∃ m, m < n - i ∧ ∃ i h₃ tk₃ f nw₁ own ys, m = n - i ∧ i ≤ n ∧ s₆ = ⟨h₃, g, dr, tk₃, os⟩ ∧ own.map (·.1) = wr ∧ SF h C h₃ (lc cns f) (nw₁ ++ (D, listOf (List.toArray ys) ys.length) :: own) ∧ Inv i f nw₁ ys ∧ ys.length ≤ i ∧ St i h₃) (fun _ _ => False) s₅) (fun _ _ => False) s₄
              else ∃ m, m < n - i ∧ ∃ i h₃ tk₃ f nw₁ own ys, m = n - i ∧ i ≤ n ∧ s₄ = ⟨h₃, g, dr, tk₃, os⟩ ∧ own.map (·.1) = wr ∧ SF h C h₃ (lc cns f) (nw₁ ++ (D, listOf (List.toArray ys) ys.length) :: own) ∧ Inv i f nw₁ ys ∧ ys.length ≤ i ∧ St i h₃) (fun _ _ => False) s') hlt hs₃ S₃ ho ?_) (fun r s₁ z => ?_) fun _ _ x => x
        · intro h₄ tk₄ f' own' ho' S₄ hs₄ hB
          have S₄' := S₄
          rw [← sh] at S₄
          refine wpAny_mono (turn C i h₄ tk₄ f f' nw₁ _ ys hlt hI hB VC S₄) (fun ok s₅ z => ?_) fun _ _ x => x
          cases ok with
          | false =>
            obtain ⟨h₅, tk₅, f₅, nw₅, rfl, S₅, hI₅⟩ := (show CompEnd h C cns _ (Inv (i + 1)) g dr os ys s₅ from z)
            show ∃ m, _
            have S₅' := S₅
            rw [sh] at S₅'
            exact ⟨n - (i + 1), by omega, i + 1, h₅, tk₅, f₅, nw₅, own', ys, rfl, hlt, rfl, ho', S₅, hI₅, by omega, R.frame _ _ _ hs₄ (SF.same (stay := []) S₄' S₅' ho' (fun c hc => (hfp c hc).imp id .inl) (fun _ hp => nomatch hp) (fun _ hp => nomatch hp))⟩
          | true =>
            show wpAny _ _ _ _ _ _
            refine wpAny_mono (show wpAny (model prog w) A (eval elt (compEnvC scope cl C env)) _ (fun _ _ => False) s₅ from z) (fun y s₆ z => ?_) fun _ _ x => x
            obtain ⟨h₅, tk₅, f₅, nw₅, rfl, S₅, hI₅⟩ := z
            refine z_append S₅ Put.mid (by simp; omega) fun h₆ S₆ => ?_
            have e1 : ys.toArray.push y = (ys ++ [y]).toArray := by simp
            have e2 : ys.length + 1 = (ys ++ [y]).length := by simp
            rw [e1, e2] at S₆
            have S₆' := S₆
            rw [sh] at S₆'
            exact ⟨n - (i + 1), by omega, i + 1, h₆, _, f₅, nw₅, own', ys ++ [y], rfl, hlt, rfl, ho', S₆, hI₅, by simp; omega, R.frame _ _ _ hs₄ (SF.same (stay := []) S₄' S₆' ho' (fun c hc => (hfp c hc).imp id .inl) (fun _ hp => nomatch hp) (fun _ hp => nomatch hp))⟩
        · cases r with
          | none => exact z.elim
          | some v => exact z
      · have : i = n := Nat.le_antisymm hin hge
        subst this
        refine R.done _ _ _ hs₃ fun h₄ tk₄ hk => ?_
        rw [sh] at S₃
        have S₄ := S₃.done ho hk
        obtain ⟨oC, _, _, hoC, _⟩ := id S₄.fr.ns
        refine done D C oC h₄ tk₄ f nw₁ ys hI ⟨S₄.keep, fun p hp => ?_, ?_⟩ S₄.fr.ns
        · rcases List.mem_cons.mp hp with rfl | hp
          · have := S₄.news (D, _) (List.mem_append_right _ (.head _))
            exact ⟨this.1, this.2.2⟩
          rcases List.mem_cons.mp hp with rfl | hp
          · exact ⟨hoC, hCn⟩
          · have := S₄.news p (List.mem_append_left _ hp)
            exact ⟨this.1, this.2.2⟩
        · have nd := S₄.nd
          rw [List.map_append, List.nodup_append] at nd
          rw [List.map_cons, List.map_cons, List.nodup_cons, List.nodup_cons]
          refine ⟨fun hm => ?_, fun hm => ?_, nd.1⟩
          · rcases List.mem_cons.mp hm with e | hm
            · exact hDC e
            · exact nd.2.2 _ hm D (by simp) rfl
          · obtain ⟨p, hp, e⟩ := List.mem_map.mp hm
            exact (S₄.news p (List.mem_append_left _ hp)).2.1 e
    exact codeAny_compStart_list (loop _) (R.self 0 _ _ _ hst₁ (loop _))
  kct_strs
end
section
variable {prog : Program} {w : World} {A : Around} {E : Value → Shared → Prop} {K : Frag} {b h : Heap} {L : Addr} {m : Str → Option Value} {nw nw' : List (Addr × Obj)} {g : Array GenState} {dr : Drawn} {tk : Nat} {os : OsState} {env : Env} {pos : Pos} {k : Nat}
  {ns : List Str} {gns bns : List (Str × Value)} {n : Nat}
noncomputable def CompTail (M : Model) (A : Around) (E : Value → Shared → Prop) (elt target iter : Expr) (ifs : List Expr) (scope : Scope) (pos : Pos) (cl : List (Str × Addr)) (env : Env) (use : Option (Value → Sem Unit)) (Q : Value → Shared → Prop) (it : Value) (s₂ : Shared) : Prop :=
  wpAny M A (newList []) (fun acc s₃ => wpAny M A (newFunctionEnv scope env.globals cl [] env.qual none .none (some env)) (fun cenv s₄ =>
      codeAny M A (.compStart (.ListComp elt [⟨target, iter, ifs, 0⟩] scope pos) 0 it acc { cenv with scope := relabel scope env }) (compPost M A E use Q acc cenv.locals) s₄) E s₃) E s₂
/-- [elt for target in iter if ..] -/
theorem z_compE {M : Model} {elt target iter : Expr} {ifs : List Expr} {scope : Scope} {cl : List (Str × Addr)} {Q : Value → Shared → Prop} {s : Shared} (hclos : closureFor scope env = pure cl) (hkind : scope.kind = .function) (hnames : ∀ x ∈ scope.names, x.2 = .local → scope.names.lookup x.1 = some .local)
    (hs : ∀ x, foldedSetIterable iter env x = pure x)
    (q : wpAny M A (eval iter env) (fun xv s₁ => wpAny M A (pyIter xv) (CompTail M A E elt target iter ifs scope pos cl env none Q) E s₁) E s) :
    wpAny M A (eval (.ListComp elt [⟨target, iter, ifs, 0⟩] scope pos) env) Q E s := by
  rw [eval_ListComp]
  exact wpAny_comprehension_free (use := none) rfl hs hclos hkind hnames q
/-- y = [..] -/
theorem z_compS {M : Model} {elt target iter : Expr} {ifs : List Expr} {scope : Scope} {cl : List (Str × Addr)} {y : Str} {py spos : Pos} {rest : List Stmt} {Q : Flow → Shared → Prop} {s : Shared} (hsw : swapsWith (.ListComp elt [⟨target, iter, ifs, 0⟩] scope pos) (some (.Name y py)) spos.line env = pure true)
    (hclos : closureFor scope env = pure cl) (hkind : scope.kind = .function) (hnames : ∀ x ∈ scope.names, x.2 = .local → scope.names.lookup x.1 = some .local) (hs : ∀ x, foldedSetIterable iter env x = pure x)
    (q : wpAny M A (eval iter env) (fun xv s₁ => wpAny M A (pyIter xv) (CompTail M A E elt target iter ifs scope pos cl env (some (assign (.Name y py) env)) (fun _ s' => wpAny M A (execs rest env) Q E s')) E s₁) E s) :
    wpAny M A (execs (.Assign [.Name y py] (.ListComp elt [⟨target, iter, ifs, 0⟩] scope pos) spos :: rest) env) Q E s := by
  refine wpAny_execs_cons ?_
  rw [exec_Assign_Name_used _ _ _ _ hsw]
  refine wpAny_bind (wpAny_standAt (wpAny_bind ?_))
  show wpAny _ A (do let _ ← comprehension (.ListComp elt [⟨target, iter, ifs, 0⟩] scope pos) scope env _ (newList []) false (eval iter env) (some (assign (.Name y py) env))) _ _ s
  exact wpAny_bind (wpAny_mono (wpAny_comprehension_free (use := some (assign (.Name y py) env)) (Q := fun _ s' => wpAny M A (execs rest env) Q E s') rfl hs hclos hkind hnames q) (fun _ s' hq => wpAny_pure (wpAny_pure hq)) fun _ _ e => e)
theorem Own.drop {h₁ h₂ : Heap} {C : Addr} {oC : Obj} {x : Addr × Obj} {r : List (Addr × Obj)} (O : Own h h₁ (x :: (C, oC) :: r)) (hs : Heap.SameBut C h₁ h₂) : Own h h₂ (x :: r) := by
  refine wk ?_ ?_
  · have hC := (O.2.1 _ (.tail _ (.head _))).2
    have nd := O.2.2
    simp only [List.map_cons, List.nodup_cons, List.mem_cons, not_or] at nd
    refine ⟨fun a o e => (hs.2 a (fun z => by rw [z, hC] at e; cases e)).trans (O.1 a o e), fun p hp => ?_, ?_⟩
    · have hne : p.1 ≠ C := by
        rcases List.mem_cons.mp hp with rfl | hp
        · exact nd.1.1
        · exact fun e => nd.2.1 (e ▸ List.mem_map_of_mem (f := (·.1)) hp)
      have := O.2.1 p (by rcases List.mem_cons.mp hp with rfl | hp; exact .head _; exact .tail _ (.tail _ hp))
      exact ⟨(hs.2 _ hne).trans this.1, this.2⟩
    · simp only [List.map_cons, List.nodup_cons]; exact ⟨nd.1.2, nd.2.2⟩
  kct_strs
theorem post_none {D C : Addr} {oC : Obj} {h' : Heap} {tk' : Nat} {ys : List Value} {mC : Str → Option Value} {Q : Value → Shared → Prop} {od : Obj} {nwx : List (Addr × Obj)} (S : SF b L h m nw) (O : Own h h' ((D, od) :: (C, oC) :: nwx)) (hN : h'.Ns C mC)
    (q : ∀ h'', SF b L h'' m (((D, od) :: nwx) ++ nw) → (∀ a o, h.get? a = some o → h''.get? a = some o) → Q (.ref D) ⟨h'', g, dr, tk', os⟩) :
    compPost (model prog w) A E none Q (.ref D) C (.ok .next) ⟨h', g, dr, tk', os⟩ :=
  ⟨mC, hN, fun h'' hs => q h'' (S.ownOf (O.drop hs)) (O.drop hs).1⟩
theorem post_store {D C : Addr} {oC : Obj} {h' : Heap} {tk' : Nat} {mC : Str → Option Value} {y : Str} {py : Pos} {i : Nat} {f : Nat → Option Value} {Q : Value → Shared → Prop} {od : Obj} {nwx : List (Addr × Obj)} (V : EV K env L ns gns bns) (S : SF b L h (lc ns f) nw) (hy : IxAt ns y i) (O : Own h h' ((D, od) :: (C, oC) :: nwx)) (hN : h'.Ns C mC)
    (q : ∀ h'' tk'', SF b L h'' (lc ns (up f i (.ref D))) (((D, od) :: nwx) ++ nw) → Q .none ⟨h'', g, dr, tk'', os⟩) :
    compPost (model prog w) A E (some (assign (.Name y py) env)) Q (.ref D) C (.ok .next) ⟨h', g, dr, tk', os⟩ := by
  refine wk ?_ ?_
  · show wpAny _ _ (assign (.Name y py) env (.ref D)) _ _ _
    have S' := S.ownOf O
    refine PySem.wpAny_assign_Name (z_store V S' hy fun h₁ tk₁ S₁ => ?_)
    have hc := S₁.news (C, oC) (.tail _ (.head _))
    have hc' := S'.news (C, oC) (.tail _ (.head _))
    have hN' : h₁.Ns C mC := hN.at' fun o e => by rw [hc'.1] at e; rw [← e]; exact hc.1
    refine ⟨mC, hN', fun h₂ hs => ?_⟩
    have hs' : SF b L h₂ (lc ns (up f i (.ref D))) (((D, od) :: nwx) ++ nw) := by
      obtain ⟨oL, es, ep, hL, r⟩ := S₁.fr.ns
      have nd := S₁.nd
      simp only [List.cons_append, List.map_cons, List.nodup_cons, List.mem_cons, not_or] at nd
      refine ⟨⟨⟨oL, es, ep, (hs.2 _ (Ne.symm hc.2.1)).trans hL, r⟩, fun a o e => (hs.2 a (fun z => by rw [z, hc.2.2] at e; cases e)).trans (S₁.fr.keep a o e), S₁.fr.above⟩, fun p hp => ?_, by simp only [List.cons_append, List.map_cons, List.nodup_cons]; exact ⟨nd.1.2, nd.2.2⟩⟩
      have hne : p.1 ≠ C := by
        rcases List.mem_cons.mp hp with rfl | hp
        · exact nd.1.1
        · exact fun e => nd.2.1 (e ▸ List.mem_map_of_mem (f := (·.1)) hp)
      have := S₁.news p (by rcases List.mem_cons.mp hp with rfl | hp; exact .head _; exact .tail _ (.tail _ hp))
      exact ⟨(hs.2 _ hne).trans this.1, this.2⟩
    exact q h₂ _ hs'
  kct_strs
/-- over a list, one name -/
theorem z_cList {scope cs : Scope} {cl : List (Str × Addr)} {elt iter : Expr} {x : Str} {px : Pos} {i₀ : Nat} {ifs : List Expr} {l : Addr} {vs : List Value} {use : Option (Value → Sem Unit)} {Q : Value → Shared → Prop}
    (cns : List Str) (cg cb : List (Str × Value)) (Inv : Nat → (Nat → Option Value) → List (Addr × Obj) → List Value → Prop) (hh : A.handled = none)
    (V : EV K env L ns gns bns) (hrel : relabel scope env = cs) (chk : compChk K cs cns cg cb = true) (hcell : ∀ y ∈ scope.names, y.2 ≠ .cell) (hkind : scope.kind = .function) (hx : IxAt cns x i₀) (hl : h.IsList l vs.toArray) (hn : vs.length ≤ 1000)
    (h0 : Inv 0 (fun _ => none) [] [])
    (turn : ∀ C i v h₁ tk₁ f nw₁ own ys (T : List Value → Shared → Prop) (_ : ∀ ys s, CompEnd h C cns own (Inv (i + 1)) g dr os ys s → T ys s), vs[i]? = some v → Inv i f nw₁ ys → EV K (compEnvC scope cl C env) C cns cg cb → (compEnvC scope cl C env).scope = cs → SF h C h₁ (lc cns (up f i₀ v)) (nw₁ ++ own) →
      wpAny (model prog w) A (tests ifs (compEnvC scope cl C env)) (fun ok s => if ok = true then wpAny (model prog w) A (eval elt (compEnvC scope cl C env)) (fun y s' => T (ys ++ [y]) s') (fun _ _ => False) s
        else T ys s) (fun _ _ => False) ⟨h₁, g, dr, tk₁, os⟩)
    (done : ∀ D C oC h' tk' f nw' ys, Inv vs.length f nw' ys → Own h h' ((D, listOf ys.toArray ys.length) :: (C, oC) :: nw') → h'.Ns C (lc cns f) → compPost (model prog w) A E use Q (.ref D) C (.ok .next) ⟨h', g, dr, tk', os⟩) :
    wpAny (model prog w) A (pyIter (.ref l)) (CompTail (model prog w) A E elt (.Name x px) iter ifs scope pos cl env use Q) E ⟨h, g, dr, tk, os⟩ := by
  refine wk ?_ ?_
  · obtain ⟨ol, hol, _⟩ := id hl
    have hne : l ≠ h.objs.size := Nat.ne_of_lt (Heap.lt_size hol)
    refine wpAny_pyIter_list (s := ⟨h, g, dr, tk, os⟩) hl ?_
    have W := Walks.list (prog := prog) (w := w) hh h.objs.size l hne vs.toArray
    have hnone : h.get? h.objs.size = none := by
      cases z : h.get? h.objs.size with
      | none => rfl
      | some o => exact absurd (Heap.lt_size z) (Nat.lt_irrefl _)
    have hfp : ∀ c ∈ [h.objs.size, l], c ∈ [h.objs.size] ∨ ∃ o, h.get? c = some o := fun c hc => by
      rcases List.mem_cons.mp hc with rfl | hc
      · exact .inl (.head _)
      · rw [List.mem_singleton.mp hc]; exact .inr ⟨_, hol⟩
    refine z_compCore (own₀ := [(h.objs.size, ⟨.type "list_iterator", none, .fields #[.ref l, .int 0 0], #[]⟩)]) cns cg cb Inv V hrel chk hcell hkind ⟨fun a o e => Heap.get?_push_of_some _ e, fun p hp => ?_, by simp⟩ (by rw [Heap.size_push]; exact Nat.le_succ _) rfl
      (fun C VC => Src.name W (fun i h hs c hc => by rw [List.mem_singleton.mp hc]; obtain ⟨o, ho, _⟩ := hs.1; exact ⟨o, ho⟩) VC hx hfp) ⟨⟨_, Heap.get?_push_size _ rfl, rfl, rfl⟩, hl.at fun o e => Heap.get?_push_of_some _ e⟩ (by simpa using hn) hfp h0 ?_ ?_
    · rw [List.mem_singleton.mp hp]; exact ⟨Heap.get?_push_size _ rfl, hnone⟩
    · rintro C i h₁ tk₁ f f₁ nw₁ own ys hi hI ⟨v, hv, rfl⟩ VC S₁
      exact turn C i v h₁ tk₁ f nw₁ own ys _ (fun _ _ x => x) (by simpa using hv) hI VC hrel S₁
    · intro D C oC h' tk' f nw' ys hI
      rw [List.size_toArray] at hI
      exact done D C oC h' tk' f nw' ys hI
  kct_strs
/-- over a range, one name -/
theorem z_cRange {scope cs : Scope} {cl : List (Str × Addr)} {elt iter : Expr} {x : Str} {px : Pos} {i₀ : Nat} {ifs : List Expr} {n : Nat} {t : Tok} {use : Option (Value → Sem Unit)} {Q : Value → Shared → Prop}
    (cns : List Str) (cg cb : List (Str × Value)) (Inv : Nat → (Nat → Option Value) → List (Addr × Obj) → List Value → Prop) (hh : A.handled = none)
    (V : EV K env L ns gns bns) (hrel : relabel scope env = cs) (chk : compChk K cs cns cg cb = true) (hcell : ∀ y ∈ scope.names, y.2 ≠ .cell) (hkind : scope.kind = .function) (hx : IxAt cns x i₀) (hn : n ≤ 1000)
    (h0 : Inv 0 (fun _ => none) [] [])
    (turn : ∀ C i t h₁ tk₁ f nw₁ own ys (T : List Value → Shared → Prop) (_ : ∀ ys s, CompEnd h C cns own (Inv (i + 1)) g dr os ys s → T ys s), i < n → Inv i f nw₁ ys → EV K (compEnvC scope cl C env) C cns cg cb → (compEnvC scope cl C env).scope = cs → SF h C h₁ (lc cns (up f i₀ (.int (i : Nat) t))) (nw₁ ++ own) →
      wpAny (model prog w) A (tests ifs (compEnvC scope cl C env)) (fun ok s => if ok = true then wpAny (model prog w) A (eval elt (compEnvC scope cl C env)) (fun y s' => T (ys ++ [y]) s') (fun _ _ => False) s
        else T ys s) (fun _ _ => False) ⟨h₁, g, dr, tk₁, os⟩)
    (done : ∀ D C oC h' tk' f nw' ys, Inv n f nw' ys → Own h h' ((D, listOf ys.toArray ys.length) :: (C, oC) :: nw') → h'.Ns C (lc cns f) → compPost (model prog w) A E use Q (.ref D) C (.ok .next) ⟨h', g, dr, tk', os⟩) :
    wpAny (model prog w) A (call (.type "range") [.int (n : Nat) t]) (fun xv s₁ => wpAny (model prog w) A (pyIter xv) (CompTail (model prog w) A E elt (.Name x px) iter ifs scope pos cl env use Q) E s₁) E ⟨h, g, dr, tk, os⟩ := by
  refine wk ?_ ?_
  · refine call_range_1 (s := ⟨h, g, dr, tk, os⟩) ?_
    have hsz : Builtin.Range.rangeSize 0 (n : Int) 1 = n := by rw [rangeSize_one]; split <;> omega
    refine wpAny_pyIter_range (IsRange.new h 0 n 1 tk t (tk + 1)) (small_one (by omega) (by omega) (by omega) (by omega)) ?_
    dsimp only
    rw [hsz]
    generalize hR : h.push ⟨.type "range", none, .fields #[.int 0 tk, .int n t, .int 1 (tk + 1)], #[]⟩ = H1
    have k1 : ∀ a o, h.get? a = some o → H1.get? a = some o := fun a o e => by rw [← hR]; exact Heap.get?_push_of_some _ e
    have z1 : H1.objs.size = h.objs.size + 1 := by rw [← hR, Heap.size_push]
    have W := Walks.range (prog := prog) (w := w) hh H1.objs.size 0 1 n
    have hnone : h.get? H1.objs.size = none := by
      cases z : h.get? H1.objs.size with
      | none => rfl
      | some o => exact absurd (Heap.lt_size z) (by rw [z1]; exact Nat.not_lt.mpr (Nat.le_succ _))
    have hit : (H1.push ⟨.type "range_iterator", none, .fields #[rawInt 0, rawInt n, rawInt 1], #[]⟩).get? H1.objs.size = some ⟨.type "range_iterator", none, .fields #[rawInt 0, rawInt n, rawInt 1], #[]⟩ := Heap.get?_push_size _ rfl
    refine z_compCore (own₀ := [(H1.objs.size, ⟨.type "range_iterator", none, .fields #[rawInt 0, rawInt n, rawInt 1], #[]⟩)]) cns cg cb Inv V hrel chk hcell hkind ⟨fun a o e => Heap.get?_push_of_some _ (k1 a o e), fun p hp => ?_, by simp⟩ (by rw [Heap.size_push, z1]; exact Nat.le_succ_of_le (Nat.le_succ _)) rfl
      (fun C VC => Src.name W (fun i h hs c hc => by rw [List.mem_singleton.mp hc]; exact ⟨_, hs⟩) VC hx (fun c hc => .inl hc)) ?_ hn (fun c hc => .inl hc) h0 ?_ done
    · rw [List.mem_singleton.mp hp]; exact ⟨hit, hnone⟩
    · simpa using hit
    · rintro C i h₁ tk₁ f f₁ nw₁ own ys hi hI ⟨v, ⟨t', rfl⟩, rfl⟩ VC S₁
      have e : (0 : Int) + (i : Int) * 1 = (i : Nat) := by omega
      rw [e] at S₁
      exact turn C i t' h₁ tk₁ f nw₁ own ys _ (fun _ _ x => x) hi hI VC hrel S₁
  kct_strs
end
section
variable {prog : Program} {w : World} {A : Around} {E : Value → Shared → Prop} {K : Frag} {b h : Heap} {L : Addr} {m : Str → Option Value} {nw nw' : List (Addr × Obj)} {g : Array GenState} {dr : Drawn} {tk : Nat} {os : OsState} {env : Env} {pos : Pos} {k : Nat}
  {ns : List Str} {gns bns : List (Str × Value)} {n : Nat}
noncomputable def compOk (scope : Scope) : Bool := scope.kind == .function && scope.names.all (fun x => x.2 != .local || scope.names.lookup x.1 == some .local)
theorem compOk_kind {scope : Scope} (h : compOk scope = true) : scope.kind = .function := by
  unfold compOk at h; rw [Bool.and_eq_true, beq_iff_eq] at h; exact h.1
theorem compOk_names {scope : Scope} (h : compOk scope = true) : ∀ x ∈ scope.names, x.2 = .local → scope.names.lookup x.1 = some .local := by
  refine wk ?_ ?_
  · unfold compOk at h
    rw [Bool.and_eq_true, List.all_eq_true] at h
    intro x hx hl
    have := h.2 x hx
    rw [hl] at this
    simpa using this
  kct_strs
noncomputable def noFree (scope : Scope) : Bool := scope.names.all (fun x => x.2 != .free)
theorem clos0 {scope : Scope} (h : noFree scope = true) : closureFor scope env = pure [] := closureFor_none fun x hx => by
  unfold noFree at h
  have := List.all_eq_true.mp h x hx
  simpa using this
theorem relab0 {scope : Scope} (h : noFree scope = true) : relabel scope env = scope := by
  refine wk ?_ ?_
  · obtain ⟨k, nm, r⟩ := scope
    unfold relabel
    dsimp only
    congr 1
    refine map_eq_self fun x hx => ?_
    have := List.all_eq_true.mp h x hx
    obtain ⟨a, c⟩ := x
    have e : (c == NameKind.free) = false := by simpa using this
    simp [e]
  kct_strs
noncomputable def noCell (scope : Scope) : Bool := scope.names.all (fun x => x.2 != .cell)
theorem cell0 {scope : Scope} (h : noCell scope = true) : ∀ y ∈ scope.names, y.2 ≠ .cell := fun x hx => by
  have := List.all_eq_true.mp h x hx
  simpa using this
theorem swapsT {elt target iter : Expr} {ifs : List Expr} {scope : Scope} {y : Str} {py : Pos} {l i : Nat} (V : EV K env L ns gns bns) (hy : IxAt ns y i) (hc : (py.line == pos.line && !(scope.names.any fun x => x.1 == y && (x.2 == .local || x.2 == .cell))) = true) :
    swapsWith (.ListComp elt [⟨target, iter, ifs, 0⟩] scope pos) (some (.Name y py)) l env = pure true := by
  refine wk ?_ ?_
  · have h1 := V.block
    have h2 := V.loc' y hy.mem
    unfold swapsWith
    dsimp only
    rw [h1, h2]
    have : (py.line == (Expr.ListComp elt [⟨target, iter, ifs, 0⟩] scope pos).pos.line && !(scope.names.any fun x => x.1 == y && (x.2 == .local || x.2 == .cell))) = true := hc
    rw [Bool.and_eq_true] at this
    show pure (_ && _ && _ && _) = _
    rw [this.1, this.2]
    rfl
  kct_strs
theorem z_compS0 {elt target iter : Expr} {ifs : List Expr} {scope : Scope} {y : Str} {py spos : Pos} {rest : List Stmt} {i : Nat} {Q : Flow → Shared → Prop} {s : Shared} (V : EV K env L ns gns bns) (hy : IxAt ns y i)
    (hc : (py.line == pos.line && !(scope.names.any fun x => x.1 == y && (x.2 == .local || x.2 == .cell))) = true) (hk : compOk scope = true) (hf : noFree scope = true) (hs : ∀ x, foldedSetIterable iter env x = pure x)
    (q : wpAny (model prog w) A (eval iter env) (fun xv s₁ => wpAny (model prog w) A (pyIter xv) (CompTail (model prog w) A E elt target iter ifs scope pos [] env (some (assign (.Name y py) env)) (fun _ s' => wpAny (model prog w) A (execs rest env) Q E s')) E s₁) E s) :
    wpAny (model prog w) A (execs (.Assign [.Name y py] (.ListComp elt [⟨target, iter, ifs, 0⟩] scope pos) spos :: rest) env) Q E s := z_compS (swapsT V hy hc) (clos0 hf) (compOk_kind hk) (compOk_names hk) hs q
/-! ### a while loop by an invariant -/
noncomputable def WEnd (b : Heap) (L : Addr) (ns : List Str) (I : Nat → (Nat → Option Value) → List (Addr × Obj) → Prop) (j : Nat) (g : Array GenState) (dr : Drawn) (os : OsState) (Q : Flow → Shared → Prop) (f : Flow) (s : Shared) : Prop :=
  match f with
  | .next | .cont => ∃ j' h' tk' f' nw', j' < j ∧ s = ⟨h', g, dr, tk', os⟩ ∧ SF b L h' (lc ns f') nw' ∧ I j' f' nw'
  | .brk => Q .next s
  | .ret v => Q (.ret v) s
theorem z_whileI {test : Expr} {body rest : List Stmt} {f : Nat → Option Value} {j : Nat} {Q : Flow → Shared → Prop} (I : Nat → (Nat → Option Value) → List (Addr × Obj) → Prop) (S : SF b L h (lc ns f) nw) (h0 : I j f nw)
    (turn : ∀ j h₁ tk₁ f₁ nw₁ (T : Flow → Shared → Prop) (_ : ∀ f s, WEnd b L ns I j g dr os (seqK (model prog w) A rest env Q E) f s → T f s), I j f₁ nw₁ → SF b L h₁ (lc ns f₁) nw₁ → wpAny (model prog w) A (PySem.isTrue test env (eval test env)) (fun c s₂ =>
      if c = true then wpAny (model prog w) A (execs body env) T (fun _ _ => False) s₂
      else wpAny (model prog w) A (execs rest env) Q E s₂) (fun _ _ => False) ⟨h₁, g, dr, tk₁, os⟩) :
    wpAny (model prog w) A (execs (.While test body [] pos :: rest) env) Q E ⟨h, g, dr, tk, os⟩ := by
  refine wk ?_ ?_
  · refine z_while (z_whileC (fun j s => ∃ h₁ tk₁ f₁ nw₁, s = ⟨h₁, g, dr, tk₁, os⟩ ∧ SF b L h₁ (lc ns f₁) nw₁ ∧ I j f₁ nw₁) (fun _ _ => False) (fun _ _ x => x.elim) ?_ j ⟨h, tk, f, nw, rfl, S, h0⟩)
    rintro j s ⟨h₁, tk₁, f₁, nw₁, rfl, S₁, hI⟩
    refine wpAny_mono (turn j h₁ tk₁ f₁ nw₁ _ (fun _ _ x => x) hI S₁) (fun c s₂ z => ?_) fun _ _ x => x
    cases c with
    | true =>
      rw [if_pos rfl] at z ⊢
      refine wpAny_mono z (fun fl s₃ z => ?_) fun _ _ x => x
      have fin : (∃ j' h' tk' f' nw', j' < j ∧ s₃ = ⟨h', g, dr, tk', os⟩ ∧ SF b L h' (lc ns f') nw' ∧ I j' f' nw') → ∃ m, m < j ∧ ∃ h₁ tk₁ f₁ nw₁, s₃ = ⟨h₁, g, dr, tk₁, os⟩ ∧ SF b L h₁ (lc ns f₁) nw₁ ∧ I m f₁ nw₁ := by
        rintro ⟨j', h', tk', f', nw', hj, rfl, S', hI'⟩
        exact ⟨j', hj, h', tk', f', nw', rfl, S', hI'⟩
      cases fl with
      | next => exact fin z
      | cont => exact fin z
      | brk => exact z
      | ret v => exact z
    | false =>
      rw [if_neg Bool.false_ne_true] at z ⊢
      exact z
  kct_strs
end
section
variable {prog : Program} {w : World} {A : Around} {E : Value → Shared → Prop} {K : Frag} {b h : Heap} {L : Addr} {m : Str → Option Value} {nw nw' : List (Addr × Obj)} {g : Array GenState} {dr : Drawn} {tk : Nat} {os : OsState} {env : Env} {pos : Pos} {k : Nat}
  {ns : List Str} {gns bns : List (Str × Value)} {n : Nat}
noncomputable def LObj (o : Obj) (vs : Array Value) : Prop := ∀ (h : Heap) (d : Addr), h.get? d = some o → h.IsList d vs
theorem LObj.listOf {vs : Array Value} {n : Nat} : LObj (listOf vs n) vs := fun h d e => ⟨_, e, rfl, n, rfl⟩
theorem LObj.of {h : Heap} {d : Addr} {vs : Array Value} (x : h.IsList d vs) : ∃ o, h.get? d = some o ∧ LObj o vs := let ⟨o, ho, r⟩ := x; ⟨o, ho, fun h d e => ⟨o, e, r⟩⟩
theorem LObj.at {d : Addr} {o : Obj} {vs : Array Value} (D : LObj o vs) (S : SF b L h m nw) (hm : At (d, o) nw) : h.IsList d vs := D h d (S.news _ hm.mem).1
theorem wpAny_setItem_list_neg {s : Shared} {l : Addr} {items : Array Value} {k : Int} {t : Tok} {v : Value} {Q : Unit → Shared → Prop} (hl : s.heap.IsList l items)
    (h0 : k < 0) (h1 : -(items.size : Int) ≤ k) (hfit : -(2 ^ 63) ≤ k)
    (hQ : ∀ h', h'.IsList l (items.setIfInBounds (k + items.size).toNat v) → Heap.SameBut l s.heap h' → Q () { s with heap := h' }) :
    wpAny (model prog w) A (setItem (.ref l) (.int k t) v) Q E s := by
  obtain ⟨o, ho, hc, ne, hd⟩ := id hl
  unfold setItem
  try with_reducible refine wpAny_holding ?_
  refine wpAny_bind (wpAny_sequenceKey hl.typeIs (by decide) ?_)
  refine wpAny_bind (wpAny_callSpecial?_slot (name := Str.ofString "__setitem__") hl.typeIs slot_list_setitem
    (wpAny_call_entry slot_list_setitem hl.typeIs entry_list_setitem ?_ (args_list_setitem _ _ _)))
  show wpAny _ _ (Builtin.List.listSubscript? (.int k t) >>= _) _ _ s
  refine wpAny_bind (wpAny_listSubscript_int (fitsIndex_neg h0 hfit) ?_)
  clear hfit
  have hidx := seqIndex_neg h0 h1
  have hj : (k + items.size).toNat < items.size := by omega
  have hx : items[(k + items.size).toNat]? = some items[(k + items.size).toNat] := Array.getElem?_eq_getElem hj
  generalize (k + items.size).toNat = j at *
  obtain ⟨q, rfl⟩ : ∃ q : Nat, k = Int.negSucc q := by
    cases k with
    | ofNat n => exact absurd h0 (Int.not_lt.mpr (Int.ofNat_nonneg n))
    | negSucc n => exact ⟨n, rfl⟩
  show wpAny _ _ ((Builtin.List.listItems (.ref l) >>= fun xs => pure ((seqIndex? (Int.negSucc q) xs.size).bind fun i => xs[i]?.map (i, ·))) >>= _) _ _ s
  refine wpAny_bind (wpAny_bind ?_)
  show wpAny _ _ (seqItems? (.ref l) >>= _) _ _ s
  refine wpAny_bind (wpAny_seqItems ho hd (wpAny_pure (wpAny_pure ?_)))
  rw [hidx]
  simp only [Option.bind_some, hx, Option.map_some]
  show wpAny _ _ (setSeqItemAt l j v >>= _) _ _ s
  obtain ⟨n', hd'⟩ := Obj.data_mapSeq hd (·.setIfInBounds j v)
  have hfin : (s.heap.update l (Obj.mapSeq (·.setIfInBounds j v))).IsList l (items.setIfInBounds j v) :=
    ⟨_, Heap.get?_update_self _ ho (Obj.isFreed_of_seq hd'), (Obj.cls_mapSeq ..).trans hc, n', hd'⟩
  refine wpAny_bind (wpAny_setSeqItemAt ho hd ?_)
  first
    | exact wpAny_bind (wpAny_pure (wpAny_pure ⟨.none, rfl, wpAny_pure (hQ _ hfin (Heap.SameBut.update ..))⟩))
    | exact wpAny_pure ⟨.none, rfl, wpAny_pure (hQ _ hfin (Heap.SameBut.update ..))⟩
/-- l[i] = v on a list of the ledger -/
theorem z_setL {d : Addr} {o : Obj} {vs : List Value} {i : Nat} {x : Int} {t : Tok} {v : Value} {Q : Unit → Shared → Prop} (S : SF b L h m nw) (hi : AtI (d, o) nw i) (D : LObj o vs.toArray) (h0 : 0 ≤ x) (h1 : x < vs.length) (h2 : vs.length ≤ 1000)
    (q : ∀ h' o', SF b L h' m (nw.set i (d, o')) → LObj o' (vs.set x.toNat v).toArray → Q () ⟨h', g, dr, tk, os⟩) :
    wpAny (model prog w) A (setItem (.ref d) (.int x t) v) Q E ⟨h, g, dr, tk, os⟩ := by
  refine wpAny_setItem_list (s := ⟨h, g, dr, tk, os⟩) (D h d (S.news _ hi.mem).1) h0 (by omega) (by simpa using h1) fun h' hl hs => ?_
  obtain ⟨o', ho', hL⟩ := LObj.of hl
  exact q h' o' (S.setI hi ho' fun a x hne e => (hs.2 a hne).trans e) (by rw [List.setIfInBounds_toArray] at hL; exact hL)
theorem z_setLneg {d : Addr} {o : Obj} {vs : List Value} {i : Nat} {x : Int} {t : Tok} {v : Value} {Q : Unit → Shared → Prop} (S : SF b L h m nw) (hi : AtI (d, o) nw i) (D : LObj o vs.toArray) (h0 : x < 0) (h1 : -(vs.length : Int) ≤ x) (h2 : vs.length ≤ 1000)
    (q : ∀ h' o', SF b L h' m (nw.set i (d, o')) → LObj o' (vs.set (x + vs.length).toNat v).toArray → Q () ⟨h', g, dr, tk, os⟩) :
    wpAny (model prog w) A (setItem (.ref d) (.int x t) v) Q E ⟨h, g, dr, tk, os⟩ := by
  refine wpAny_setItem_list_neg (s := ⟨h, g, dr, tk, os⟩) (D h d (S.news _ hi.mem).1) h0 (by simpa using h1) (by omega) fun h' hl hs => ?_
  obtain ⟨o', ho', hL⟩ := LObj.of hl
  exact q h' o' (S.setI hi ho' fun a x hne e => (hs.2 a hne).trans e) (by rw [List.setIfInBounds_toArray, List.size_toArray] at hL; exact hL)
/-- l[-1] -/
theorem z_itemNeg {value slice : Expr} {l : Addr} {vs : List Value} {x : Int} {u : Tok} {v : Value} {Q : Value → Shared → Prop} (hl : h.IsList l vs.toArray) (h0 : x < 0) (h1 : -(vs.length : Int) ≤ x) (h2 : vs.length ≤ 1000) (hi : vs[(x + vs.length).toNat]? = some v) (hs : SubOk slice (.ref l) (.int x u)) (q : Q v ⟨h, g, dr, tk, os⟩) :
    wpAny (model prog w) A (subscriptTail value slice (.ref l) (.int x u)) Q E ⟨h, g, dr, tk, os⟩ :=
  tail_any (s := ⟨h, g, dr, tk, os⟩) hl.typeIs slot_list_getitem.lookup (wpAny_getItem_list_neg hl h0 (by simpa using h1) (by omega) (by simpa using hi) q) hs
theorem IntsAre.get {vs : List Value} {xs : List Int} (P : IntsAre vs xs) : ∀ {i : Nat} {x : Int}, xs[i]? = some x → ∃ t, vs[i]? = some (.int x t) := by
  induction P with
  | nil => intro i x e; exact nomatch (show (none : Option Int) = some x from e)
  | cons n t r ih =>
    intro i x e
    cases i with
    | zero =>
      have h' : some n = some x := e
      cases h'
      exact ⟨t, rfl⟩
    | succ i => exact ih (i := i) e
theorem IntsAre.snoc {x : Int} {t : Tok} {vs : List Value} {xs : List Int} (P : IntsAre vs xs) : IntsAre (vs ++ [.int x t]) (xs ++ [x]) := by
  induction P with
  | nil => exact .cons x t .nil
  | cons n u r ih => exact .cons n u ih
theorem IntsAre.set {x : Int} {t : Tok} {vs : List Value} {xs : List Int} (P : IntsAre vs xs) : ∀ i : Nat, IntsAre (vs.set i (.int x t)) (xs.set i x) := by
  refine wk ?_ ?_
  · induction P with
    | nil => intro i; exact .nil
    | cons n u r ih =>
      intro i
      cases i with
      | zero => exact .cons x t r
      | succ i => exact .cons n u (ih i)
  kct_strs
theorem IntsAre.of_get : ∀ {vs : List Value} {xs : List Int}, vs.length = xs.length → (∀ (i : Nat) (x : Int), xs[i]? = some x → ∃ t, vs[i]? = some (.int x t)) → IntsAre vs xs
  | [], [], _, _ => .nil
  | v :: vs, x :: xs, hl, hg => by
    obtain ⟨t, ht⟩ := hg 0 x rfl
    simp at ht; subst ht
    exact .cons x t (IntsAre.of_get (by simpa using hl) fun i y e => by
      obtain ⟨t, ht⟩ := hg (i + 1) y (by simpa using e)
      exact ⟨t, by simpa using ht⟩)
/-- bytes(l) -/
theorem z_bytes {l : Addr} {vs : List Value} {xs : List Int} {Q : Value → Shared → Prop} (M : Rm A n) (hl : h.IsList l vs.toArray) (hi : IntsAre vs xs) (hr : ∀ n ∈ xs, 0 ≤ n ∧ n < 256) (hz : vs.length ≤ 1000)
    (q : ∀ h' t tk' b, (∀ a o, h.get? a = some o → h'.get? a = some o) → b.size = xs.length → Q (.bytes b t) ⟨h', g, dr, tk', os⟩) : wpAny (model prog w) A (call (.type "bytes") [.ref l]) Q E ⟨h, g, dr, tk, os⟩ :=
  call_bytes_ints (s := ⟨h, g, dr, tk, os⟩) hl hi hr (by rw [sizeLine_eq]; omega) M.handled fun h' t k kp => q h' t k _ kp (by rw [byteArr_size])
theorem z_lenB {bs : Array UInt8} {t : Tok} {Q : Value → Shared → Prop} (hz : bs.size ≤ 1000) (q : ∀ t' tk', Q (.int (bs.size : Nat) t') ⟨h, g, dr, tk', os⟩) : wpAny (model prog w) A (call (.builtin "len") [.bytes bs t]) Q E ⟨h, g, dr, tk, os⟩ :=
  len_bytes (s := ⟨h, g, dr, tk, os⟩) (by omega) (q _ _)
/-- l.append(e) on a list of the ledger -/
theorem z_appM {d : Addr} {vs : Array Value} {c : Nat} {pl : Sem Bool} {e : Expr} {Q : Value → Shared → Prop} (S : SF b L h m nw) (x : At (d, listOf vs c) nw)
    (q : wpAny (model prog w) A (eval e env) (fun v s₁ => wpAny (model prog w) A (call (.builtin "list.append") [.ref d, v]) Q E s₁) E ⟨h, g, dr, tk, os⟩) (he : starEach [e] env = (false, eval e env) :: starEach [] env) :
    wpAny (model prog w) A (getMethod (.ref d) "append" pl) (fun fx s₂ => wpAny (model prog w) A (callWith pos fx.fst fx.snd (backTo pos (starEach [e] env)) []) Q E s₂) E ⟨h, g, dr, tk, os⟩ := z_appendM (S.news _ x.mem).1 rfl rfl q he
theorem z_appI {d : Addr} {vs : List Value} {c i : Nat} {x : Value} {Q : Value → Shared → Prop} (S : SF b L h m nw) (hi : AtI (d, listOf vs.toArray c) nw i) (hz : vs.length ≤ 1000)
    (q : ∀ h', SF b L h' m (nw.set i (d, listOf (vs ++ [x]).toArray (c + 1))) → Q .none ⟨h', g, dr, tk, os⟩) : wpAny (model prog w) A (call (.builtin "list.append") [.ref d, x]) Q E ⟨h, g, dr, tk, os⟩ := by
  refine z_append S (hi.put (o' := listOf (vs.toArray.push x) (c + 1))) (by simpa using hz) fun h' S' => q h' ?_
  rw [show (vs ++ [x]).toArray = vs.toArray.push x by simp]; exact S'
theorem z_nf {P Q : Prop} (p : P) : if (!false) = true then P else Q := by rw [if_pos (show (!false) = true from rfl)]; exact p
theorem z_nt {P Q : Prop} (q : Q) : if (!true) = true then P else Q := by rw [if_neg (by decide)]; exact q
end
section
variable {prog : Program} {w : World} {A : Around} {E : Value → Shared → Prop} {K : Frag} {b h : Heap} {L : Addr} {m : Str → Option Value} {nw nw' : List (Addr × Obj)} {g : Array GenState} {dr : Drawn} {tk : Nat} {os : OsState} {env : Env} {pos : Pos} {k : Nat}
  {ns : List Str} {gns bns : List (Str × Value)} {n : Nat}
theorem not_sys {d : Addr} (hd : 1 < d) : (d == sysModules) = false := by
  have : d ≠ sysModules := fun e => by
    have e' : d = 1 := e
    rw [e'] at hd; exact absurd hd (Nat.lt_irrefl _)
  simpa using this
theorem SF.big {fa : Addr} {o : Obj} (S : SF b L h m nw) (G : GR K b) (ho : K.lookup fa = some o) (h1 : Nat.ble 1 fa = true) : 1 < h.objs.size := by
  have h2 := Heap.lt_size ((G.keeps S.keep).inK _ _ ho)
  have h3 : 1 ≤ fa := Nat.le_of_ble_eq_true h1
  exact Nat.lt_of_le_of_lt h3 h2
/-- {} , which is not sys.modules -/
theorem z_newdictS {Q : Value → Shared → Prop} (S : SF b L h m nw) (hb : 1 < h.objs.size)
    (q : ∀ d h', SF b L h' m ((d, dictOf [] 0) :: nw) → (d == sysModules) = false → Q (.ref d) ⟨h', g, dr, tk, os⟩) :
    wpAny (model prog w) A (eval (.Dict [] [] pos) env) Q E ⟨h, g, dr, tk, os⟩ :=
  wpAny_Dict_empty (s := ⟨h, g, dr, tk, os⟩) (q _ _ (S.push _ rfl) (not_sys hb))
variable {KT : Type} [DecidableEq KT] {knd : PySem.KeyKind prog w KT}
/-- for x in a dict -/
theorem z_keyLoop {x : Str} {px : Pos} {i₀ : Nat} {d : Addr} {kvs : List (KT × Value)} {f : Nat → Option Value} {body : List Stmt} {Q : Flow → Shared → Prop}
    (Er : Value → Shared → Prop) (hEr : ∀ e s, Er e s → notedBy (model prog w) A env (cameBackBy (model prog w) A env E) e s)
    (Inv : Nat → (Nat → Option Value) → List (Addr × Obj) → Prop) (stay : List (Addr × Obj)) (hh : A.handled = none)
    (V : EV K env L ns gns bns) (S : SF b L h (lc ns f) nw) (hx : IxAt ns x i₀) (hd : (d == sysModules) = false) (D : h.DictOf knd d kvs) (hb : (∃ o, b.get? d = some o) ∨ d ∈ stay.map (·.1)) (hstay : ∀ i f nw, Inv i f nw → ∀ p ∈ stay, p ∈ nw) (h0 : Inv 0 f nw)
    (turn : ∀ i kk x v h₁ tk₁ f₁ nw₁ own (T : Flow → Shared → Prop) (_ : ∀ f s, LoopEnd b L ns own (Inv (i + 1)) g dr os Q f s → T f s), kvs[i]? = some (kk, x) → knd.is kk v = true → Inv i f₁ nw₁ → SF b L h₁ (lc ns (up f₁ i₀ v)) (nw₁ ++ own) →
      wpAny (model prog w) A (execs body env) T Er ⟨h₁, g, dr, tk₁, os⟩)
    (done : ∀ h₁ tk₁ f₁ nw₁, Inv kvs.length f₁ nw₁ → SF b L h₁ (lc ns f₁) nw₁ → Q .next ⟨h₁, g, dr, tk₁, os⟩) :
    wpAny (model prog w) A (pyIter (.ref d)) (fun it s₂ => codeAny (model prog w) A (.forLoop (.Name x px) it body [] env) (fun r s' => match r with | .ok f => Q f s' | .error e => cameBackBy (model prog w) A env E e s') s₂) E ⟨h, g, dr, tk, os⟩ := by
  refine wk ?_ ?_
  · obtain ⟨o, es, ep, ho, r⟩ := id D
    have DA : h.DictAt knd d kvs ep := ⟨o, es, ho, r⟩
    have hne : d ≠ h.objs.size := Nat.ne_of_lt (Heap.lt_size ho)
    refine wpAny_pyIter_dict (s := ⟨h, g, dr, tk, os⟩) hd DA ?_
    have W := Walks.dictKeys (prog := prog) (w := w) (knd := knd) hh h.objs.size d hne kvs ep
    have S' := (S.push ⟨.type "dict_keyiterator", none, .fields #[.ref d, .int 0 0, .int kvs.length 0, .int ep 0], #[]⟩ rfl).rot
    refine z_for Er hEr Inv stay W (fun i h hs c hc => ?_) V S' rfl hx ⟨⟨_, Heap.get?_push_size _ rfl, rfl, rfl⟩, DA.at' fun o e => Heap.get?_push_of_some _ e⟩ (fun c hc => ?_) hstay h0 ?_ done
    · rw [List.mem_singleton.mp hc]; obtain ⟨o, ho, _⟩ := hs.1; exact ⟨o, ho⟩
    · rcases List.mem_cons.mp hc with rfl | hc
      · exact .inl (.head _)
      · rw [List.mem_singleton.mp hc]; exact .inr hb
    · rintro i v h₁ tk₁ f₁ nw₁ own hi ⟨kk, x, hx', hk⟩ hI S₁
      exact turn i kk x v h₁ tk₁ f₁ nw₁ own _ (fun _ _ x => x) hx' hk hI S₁
  kct_strs
end
section
variable {prog : Program} {w : World} {A : Around} {E : Value → Shared → Prop} {s : Shared}
noncomputable def isMix : (Str ⊕ Int) → Value → Bool
  | .inl x, v => Value.isStrOf x v
  | .inr i, v => Value.isInt i v
theorem mixl {x : Str} {v : Value} (h : isMix (.inl x) v = true) : Value.isStrOf x v = true := by unfold isMix at h; exact h
theorem mixr {i : Int} {v : Value} (h : isMix (.inr i) v = true) : Value.isInt i v = true := by unfold isMix at h; exact h
theorem eqB_si {x : Str} {t u : Tok} {i : Int} {Q : Bool → Shared → Prop} (q : Q false s) : wpAny (model prog w) A (eqBool (.str x t) (.int i u)) Q E s := by
  unfold eqBool
  refine wpAny_holding ?_
  rw [if_neg (by simp)]
  refine wpAny_bind ?_
  exact (show wpAny (model prog w) A (compareOp .Eq (.str x t) (.int i u)) _ E s from PySem.EqMixed.eq_str_int (wpAny_truthy_bool q))
theorem eqB_is {x : Str} {t u : Tok} {i : Int} {Q : Bool → Shared → Prop} (q : Q false s) : wpAny (model prog w) A (eqBool (.int i u) (.str x t)) Q E s := by
  unfold eqBool
  refine wpAny_holding ?_
  rw [if_neg (by simp)]
  refine wpAny_bind ?_
  exact (show wpAny (model prog w) A (compareOp .Eq (.int i u) (.str x t)) _ E s from PySem.EqMixed.eq_int_str (wpAny_truthy_bool q))
noncomputable def mixKind (prog : Program) (w : World) : PySem.KeyKind prog w (Str ⊕ Int) where
  is := isMix
  hash := fun k => match k with | .inl x => hashStr w x | .inr i => hashInt i
  inj := fun v a b ha hb => by
    cases a with
    | inl x =>
      obtain ⟨t, rfl⟩ := Value.isStrOf_shape (mixl ha)
      cases b with
      | inl y => rw [Value.isStrOf_inj _ _ _ (mixl ha) (mixl hb)]
      | inr j => obtain ⟨u, h⟩ := Value.isInt_shape (mixr hb); cases h
    | inr i =>
      obtain ⟨t, rfl⟩ := Value.isInt_shape (mixr ha)
      cases b with
      | inl y => obtain ⟨u, h⟩ := Value.isStrOf_shape (mixl hb); cases h
      | inr j => rw [Value.isInt_inj _ _ _ (mixr ha) (mixr hb)]
  byValue := fun k v h => by
    cases k with
    | inl x => obtain ⟨t, rfl⟩ := Value.isStrOf_shape (mixl h); rfl
    | inr i => obtain ⟨t, rfl⟩ := Value.isInt_shape (mixr h); rfl
  pyHash := fun {A E s k v Q} hv h => by
    cases k with
    | inl x => obtain ⟨t, rfl⟩ := Value.isStrOf_shape (mixl hv); exact wpAny_pyHash_str h
    | inr i => obtain ⟨t, rfl⟩ := Value.isInt_shape (mixr hv); exact wpAny_pyHash_int h
  eqBool := fun {A E s a b u v Q} hu hv h => by
    cases a with
    | inl x =>
      obtain ⟨t, rfl⟩ := Value.isStrOf_shape (mixl hu)
      cases b with
      | inl y =>
        obtain ⟨t', rfl⟩ := Value.isStrOf_shape (mixl hv)
        refine wpAny_eqBool_str ?_
        rw [show decide (x = y) = decide ((Sum.inl x : Str ⊕ Int) = Sum.inl y) from decide_eq_decide.mpr ⟨fun e => by rw [e], fun e => by injection e⟩]
        exact h
      | inr j =>
        obtain ⟨t', rfl⟩ := Value.isInt_shape (mixr hv)
        refine eqB_si ?_
        rw [show false = decide ((Sum.inl x : Str ⊕ Int) = Sum.inr j) from (decide_eq_false fun e => nomatch e).symm]
        exact h
    | inr i =>
      obtain ⟨t, rfl⟩ := Value.isInt_shape (mixr hu)
      cases b with
      | inl y =>
        obtain ⟨t', rfl⟩ := Value.isStrOf_shape (mixl hv)
        refine eqB_is ?_
        rw [show false = decide ((Sum.inr i : Str ⊕ Int) = Sum.inl y) from (decide_eq_false fun e => nomatch e).symm]
        exact h
      | inr j =>
        obtain ⟨t', rfl⟩ := Value.isInt_shape (mixr hv)
        refine wpAny_eqBool_int ?_
        rw [show (i == j) = decide ((Sum.inr i : Str ⊕ Int) = Sum.inr j) from by
          rw [Bool.eq_iff_iff, beq_iff_eq, decide_eq_true_eq]
          exact ⟨fun e => by rw [e], fun e => by injection e⟩]
        exact h
  «strs» := fun k x t v h => by
    cases k with
    | inl y =>
      obtain ⟨u, hu⟩ := Value.isStrOf_shape (mixl h)
      injection hu with hx
      subst hx
      cases v <;> rfl
    | inr i => obtain ⟨u, hu⟩ := Value.isInt_shape (mixr h); cases hu
end
theorem mix_is {prog : Program} {w : World} (k : Str ⊕ Int) (v : Value) : (mixKind prog w).is k v = isMix k v := by unfold mixKind; rfl
/-- the key of piece i -/
noncomputable def pk (i : Nat) : List (Str ⊕ Int) := [.inl ".text", .inr (i : Int)]
noncomputable abbrev pkO (i : Nat) (t u : Tok) : Obj := ⟨.type "tuple", none, .seq #[.str ".text" t, .int (i : Nat) u] 0, #[]⟩
theorem pk_inj {i j : Nat} (h : pk i = pk j) : i = j := by
  unfold pk at h
  injection h with _ h
  injection h with h _
  injection h with h
  omega
section
variable {prog : Program} {w : World} {A : Around} {E : Value → Shared → Prop} {K : Frag} {b h : Heap} {L : Addr} {m : Str → Option Value} {nw nw' : List (Addr × Obj)} {g : Array GenState} {dr : Drawn} {tk : Nat} {os : OsState} {env : Env} {pos : Pos} {k : Nat}
  {ns : List Str} {gns bns : List (Str × Value)} {n : Nat}
noncomputable abbrev PKind (prog : Program) (w : World) := tupleKind (mixKind prog w)
theorem pk_is {T : Addr} {i : Nat} {t u : Tok} (hT : h.get? T = some (pkO i t u)) : (PKind prog w).is h (pk i) T :=
  ⟨_, _, 0, hT, rfl, rfl, .cons (by rw [mix_is]; simp [isMix, Value.isStrOf]) (.cons (by rw [mix_is]; simp [isMix, Value.isInt]) .nil)⟩
/-- a dict whose keys are those tuples, as an object, with its keys' objects -/
noncomputable def HO (prog : Program) (w : World) (ks : List (Addr × Obj)) (o : Obj) (xs : List (List (Str ⊕ Int) × Addr × Value)) : Prop := ∀ (H : Heap) (d : Addr), H.get? d = some o → (∀ p ∈ ks, H.get? p.1 = some p.2) → H.DictOfH (PKind prog w) d xs
theorem HO.nil : HO prog w [] (dictOf [] 0) [] := fun H d e _ => ⟨_, #[], 0, e, ⟨rfl, rfl, rfl⟩, rfl, rfl, fun _ hx => by simp at hx, List.nodup_nil⟩
theorem HO.of {ks : List (Addr × Obj)} {d : Addr} {xs : List (List (Str ⊕ Int) × Addr × Value)} (D : h.DictOfH (PKind prog w) d xs) (hk : ∀ x ∈ xs, ∃ i t u, x.1 = pk i ∧ (x.2.1, pkO i t u) ∈ ks) : ∃ o, h.get? d = some o ∧ HO prog w ks o xs := by
  obtain ⟨o, es, ep, ho, hx, hd, he, hi, hn⟩ := D
  refine ⟨o, ho, fun H d' e hp => ⟨o, es, ep, e, hx, hd, he, fun x hm => ?_, hn⟩⟩
  obtain ⟨i, t, u, e1, e2⟩ := hk x hm
  rw [e1]
  exact pk_is (hp _ e2)
theorem in1_P (M : Rm A (n + 1)) : (PKind prog w).room A.in1 := in1_cl M
/-- d[(name, i)] = v, a new key -/
theorem z_setP {d T : Addr} {o : Obj} {ks : List (Addr × Obj)} {xs : List (List (Str ⊕ Int) × Addr × Value)} {i j : Nat} {t u : Tok} {v : Value} {Q : Unit → Shared → Prop} (M : Rm A (n + 1)) (S : SF b L h m nw) (hi : AtI (d, o) nw j) (D : HO prog w ks o xs) (hks : ∀ p ∈ ks, p ∈ nw) (hkx : ∀ x ∈ xs, ∃ i t u, x.1 = pk i ∧ (x.2.1, pkO i t u) ∈ ks)
    (hT : At (T, pkO i t u) nw) (hnew : ∀ x ∈ xs, x.1 ≠ pk i) (hz : xs.length ≤ 1000)
    (q : ∀ h' tk' o', SF b L h' m (nw.set j (d, o')) → HO prog w ((T, pkO i t u) :: ks) o' (xs ++ [(pk i, T, v)]) → Q () ⟨h', g, dr, tk', os⟩) :
    wpAny (model prog w) A (setItem (.ref d) (.ref T) v) Q E ⟨h, g, dr, tk, os⟩ := by
  refine wk ?_ ?_
  · have hd := D h d (S.news _ hi.mem).1 fun p hp => (S.news p (hks p hp)).1
    have ha : atKey xs (pk i) = none := atKey_none_of_get fun j p e => hnew _ (List.mem_of_getElem? e) rfl
    refine wpAny_setItem_heap (s := ⟨h, g, dr, tk, os⟩) (in1_P M) (pk_is (S.news _ hT.mem).1) hd (fun h' D' hs => ?_) (by rw [sizeLine_eq]; omega)
    rw [storedH_new ha] at D'
    obtain ⟨o', ho', D''⟩ := HO.of (ks := (T, pkO i t u) :: ks) D' fun x hx => by
      rcases List.mem_append.mp hx with hx | hx
      · obtain ⟨a, b, c, e1, e2⟩ := hkx x hx
        exact ⟨a, b, c, e1, .tail _ e2⟩
      · rw [List.mem_singleton.mp hx]; exact ⟨i, t, u, rfl, .head _⟩
    exact q h' _ o' (S.setI hi ho' fun a x hne e => (hs.2 a hne).trans e) D''
  kct_strs
/-- d[(name, i)] -/
theorem z_getP {value slice : Expr} {d T : Addr} {xs : List (List (Str ⊕ Int) × Addr × Value)} {i : Nat} {p : Addr × Value} {Q : Value → Shared → Prop} (M : Rm A (n + 1)) (D : h.DictOfH (PKind prog w) d xs) (hT : (PKind prog w).is h (pk i) T) (hp : atKey xs (pk i) = some p) (hs : SubOk slice (.ref d) (.ref T))
    (q : ∀ tk', Q p.2 ⟨h, g, dr, tk', os⟩) : wpAny (model prog w) A (subscriptTail value slice (.ref d) (.ref T)) Q E ⟨h, g, dr, tk, os⟩ :=
  tail_any (s := ⟨h, g, dr, tk, os⟩) D.typeIs slot_dict_getitem.lookup (wpAny_getItem_heap (in1_P M) hT D hp (q _)) hs
/-- (name, i) in d -/
theorem z_inP {d T : Addr} {xs : List (List (Str ⊕ Int) × Addr × Value)} {i : Nat} {Q : Value → Shared → Prop} (M : Rm A (n + 1)) (hd : (d == sysModules) = false) (D : h.DictOfH (PKind prog w) d xs) (hT : (PKind prog w).is h (pk i) T)
    (q : ∀ tk', Q (.bool (atKey xs (pk i)).isSome) ⟨h, g, dr, tk', os⟩) : wpAny (model prog w) A (compareOp .In (.ref T) (.ref d)) Q E ⟨h, g, dr, tk, os⟩ :=
  wpAny_in_heap (s := ⟨h, g, dr, tk, os⟩) (in1_P M) hT hd D (q _)
end
/-- what a frame leaves by when a raise goes through it -/
noncomputable def Lv (prog : Program) (w : World) (A' : Around) (env : Env) (R : Result → Shared → Prop) (e : Value) (s' : Shared) : Prop :=
  wpAny (model prog w) A' (leaving env e) (fun _ s'' => R (.error e) s'') (fun e' s'' => R (.error e') s'') s'
section
variable {prog : Program} {w : World} {A : Around} {E : Value → Shared → Prop} {K : Frag} {b h : Heap} {L : Addr} {m : Str → Option Value} {nw : List (Addr × Obj)} {g : Array GenState} {dr : Drawn} {tk : Nat} {os : OsState}
theorem Lv.passes {A' : Around} {env : Env} {R : Result → Shared → Prop} : ∀ (e : Value) (s : Shared), Lv prog w A' env R e s → notedBy (model prog w) A' env (cameBackBy (model prog w) A' env (Lv prog w A' env R)) e s :=
  PassesOwn.leaving (Q₁ := fun e s => R (.error e) s) (E₁ := fun e s => R (.error e) s)
/-- a call of a def that may raise -/
theorem enterR {R : Result → Shared → Prop} {fa : Addr} {name qual : Str} {params : Arguments} {body : List Stmt} {sc : Scope} {dV kV doc pm cdv ct oc : Value} {an od : Option Addr} {osl : Array (Option Value)} {args : Args}
    {ps rest : List Str} (ns : List Str) {vs : List Value} (gns bns : List (Str × Value)) {n : Nat}
    (G : GR K h) (M : Rm A (n + 1)) (ho : K.lookup fa = some ⟨oc, od, .func (fnOf name qual params body sc dV kV doc pm an cdv ct), osl⟩) (hcd : codeIn K cdv qual = true)
    (hb : BindsTo ⟨h, g, dr, tk, os⟩ (fnOf name qual params body sc dV kV doc pm an cdv ct) args (ps.zip vs)) (hl : ps.length = vs.length) (hns : ps ++ rest = ns) (chk : fnChk K sc ns gns bns = true)
    (q : ∀ env L' h₁ tk', Rm (A.deeper env) n → EV K env L' ns gns bns → env.frame = some L' → SF h L' h₁ (lc ns fun i => vs[i]?) [] →
      wpAny (model prog w) (A.deeper env) (execs body env) (fun fl s' => R (.ok (.ret (retv fl))) s') (Lv prog w (A.deeper env) env R) ⟨h₁, g, dr, tk', os⟩) :
    codeAny (model prog w) A (.call (.ref fa) args) R ⟨h, g, dr, tk, os⟩ := by
  refine wk ?_ ?_
  · unfold fnChk at chk
    simp only [Bool.and_eq_true, Bool.not_eq_true', beq_iff_eq, decide_eq_true_eq] at chk
    obtain ⟨⟨⟨⟨⟨⟨⟨⟨⟨⟨hk, hco⟩, hgen⟩, hcell⟩, nd⟩, hloc⟩, hg⟩, hbn⟩, d1⟩, d2⟩, d3⟩ := chk
    have nmem : ∀ {l : List Str} {x : Str}, l.contains x = false → x ∉ l := fun {l x} e hm => by
      rw [List.contains_iff_mem.mpr hm] at e; cases e
    subst hns
    have ndp : ps.Nodup := (List.nodup_append.mp nd).1
    have hps : ∀ x ∈ ps ++ rest, sc.names.lookup x = some .local := fun x hx => by
      have := List.all_eq_true.mp hloc x hx
      exact beq_iff_eq.mp this
    have hmap : (ps.zip vs).map (·.1) = ps := List.map_fst_zip (l₁ := ps) (l₂ := vs) (Nat.le_of_eq hl)
    have hzip : ∀ x ∈ ps.zip vs, x.1 ∈ ps := fun x hx => by rw [← hmap]; exact List.mem_map_of_mem (f := (·.1)) hx
    refine codeAny_call_def (fd := fnOf name qual params body sc dV kV doc pm an cdv ct) (body := body) (binds := ps.zip vs) M.room (G.inK _ _ ho) rfl G.nolimit (codeRec_of G.inK hcd) rfl hb
      (fun x hx => by have := List.all_eq_true.mp hcell x hx; simpa using this) (fun x hx => hps _ (List.mem_append_left _ (hzip x hx))) (fun h₁ hns hk₁ => ?_) hco hgen hk
    have e : (fun x => List.lookup x (ps.zip vs).reverse) = lc (ps ++ rest) fun i => vs[i]? := funext fun x => by
      rw [lookup_rev (by rw [hmap]; exact ndp)]
      exact lookup_zip hl fun y hy hp => (List.nodup_append.mp nd).2.2 y hp y hy rfl
    rw [e] at hns
    refine wpAny_mono (q _ h.objs.size h₁ _ M.deeper ⟨hk, rfl, rfl, rfl, nd, fun x hx => hps x hx, hg, hbn, nmem d1, nmem d2, nmem d3⟩ rfl ⟨⟨hns, hk₁, Nat.le_refl _⟩, News.nil, List.nodup_nil⟩) (fun fl s' x => ?_) (fun _ _ x => x)
    cases fl <;> exact x
  kct_strs
/-- the same with captured names -/
theorem enterCR {R : Result → Shared → Prop} {fa : Addr} {name qual : Str} {params : Arguments} {body : List Stmt} {sc : Scope} {dV kV doc pm cdv ct oc : Value} {an od : Option Addr} {osl : Array (Option Value)} {args : Args}
    {binds : List (Str × Value)} {ps rest : List Str} (ns : List Str) {vs : List Value} (gns bns : List (Str × Value)) {n : Nat}
    (G : GR K h) (M : Rm A (n + 1)) (ho : K.lookup fa = some ⟨oc, od, .func (fnOf name qual params body sc dV kV doc pm an cdv ct), osl⟩) (hcd : codeIn K cdv qual = true)
    (hb : BindsTo ⟨h, g, dr, tk, os⟩ (fnOf name qual params body sc dV kV doc pm an cdv ct) args binds) (hlb : binds.filter (fun x => sc.names.lookup x.1 == some .local) = ps.zip vs)
    (hkind : (binds.all fun y => sc.names.lookup y.1 == some .local || sc.names.lookup y.1 == some .cell) = true)
    (hl : ps.length = vs.length) (hns : ps ++ rest = ns) (chk : fnChkK K sc ns gns bns = true)
    (q : ∀ env L' h₁ tk' cells, Rm (A.deeper env) n → EV K env L' ns gns bns → env.frame = some L' → env.scope = sc → env.cells = cellsFrom (L' + 1) sc.names [] → CellsAre (bindC (fun x => sc.names.lookup x) binds fun _ => none) (cellsFrom (L' + 1) sc.names []) cells → SF h L' h₁ (lc ns fun i => vs[i]?) cells →
      wpAny (model prog w) (A.deeper env) (execs body env) (fun fl s' => R (.ok (.ret (retv fl))) s') (Lv prog w (A.deeper env) env R) ⟨h₁, g, dr, tk', os⟩) :
    codeAny (model prog w) A (.call (.ref fa) args) R ⟨h, g, dr, tk, os⟩ := by
  refine wk ?_ ?_
  · unfold fnChkK at chk
    simp only [Bool.and_eq_true, Bool.not_eq_true', beq_iff_eq, decide_eq_true_eq] at chk
    obtain ⟨⟨⟨⟨⟨⟨⟨⟨⟨⟨hk, hco⟩, hgen⟩, nd⟩, hloc⟩, hg⟩, hbn⟩, d1⟩, d2⟩, d3⟩, hnd⟩ := chk
    have nmem : ∀ {l : List Str} {x : Str}, l.contains x = false → x ∉ l := fun {l x} e hm => by
      rw [List.contains_iff_mem.mpr hm] at e; cases e
    subst hns
    have ndp : ps.Nodup := (List.nodup_append.mp nd).1
    have hps : ∀ x ∈ ps ++ rest, sc.names.lookup x = some .local := fun x hx => beq_iff_eq.mp (List.all_eq_true.mp hloc x hx)
    have hmap : (ps.zip vs).map (·.1) = ps := List.map_fst_zip (l₁ := ps) (l₂ := vs) (Nat.le_of_eq hl)
    refine codeAny_call_function (fd := fnOf name qual params body sc dV kV doc pm an cdv ct) M.room (G.inK _ _ ho) rfl hco hgen rfl (codeRec_of G.inK hcd) (hb _ _ _ _ ?_)
    refine wpAny_newFunctionEnv_cells hk (kindsX hkind _) fun env' he s' x => ?_
    subst he
    refine ⟨G.nolimit.keeps x.toInCall.keep, codeAny_func ?_⟩
    obtain ⟨h₁, tk', rfl, _⟩ := x.done
    have hk₁ := x.toInCall.keep
    obtain ⟨cells, NC, Y⟩ := Cl.news (h₀ := h) (Nat.le_refl _) fun n c hm => ⟨x.cell n c (lookup_of_mem_nodup (cellsFrom_names sc.names 0 (h.objs.size + 1) [] [] rfl ▸ hnd) hm), x.above n c hm⟩
    have hN := x.toInCall.ns
    have e : (bindL (fun x => sc.names.lookup x) binds fun _ => none) = lc (ps ++ rest) fun i => vs[i]? := funext fun y => by
      rw [bindL_eq, hlb, lookup_rev (by rw [hmap]; exact ndp), lookup_zip hl fun y hy hp => (List.nodup_append.mp nd).2.2 y hp y hy rfl]
      cases lc (ps ++ rest) (fun i => vs[i]?) y <;> rfl
    have hN' : h₁.Ns h.objs.size (lc (ps ++ rest) fun i => vs[i]?) := by rw [← e]; exact hN
    refine wpAny_mono (q _ h.objs.size h₁ tk' cells M.deeper ⟨hk, rfl, rfl, rfl, nd, fun x hx => hps x hx, hg, hbn, nmem d1, nmem d2, nmem d3⟩ rfl rfl rfl Y
      ⟨⟨hN', fun b o e => hk₁ b o e, Nat.le_refl _⟩, NC, ?_⟩) (fun fl s' x => ?_) (fun _ _ x => x)
    · rw [CellsAre.keys Y]
      exact List.pairwise_map.mpr x.apart
    · cases fl <;> exact x
  kct_strs
end
/-! ### an own exception whose class has its own __init__ -/
noncomputable abbrev eNew : String := "Exception.__new__"
noncomputable abbrev eFacts := PySem.F.excBase_Exception
noncomputable def excMro (C : Addr) : List Value → Bool
  | [] => false
  | v :: bm => v == .ref C && (bm.contains (.type "Exception") && (bm.contains (.type "BaseException") && (!bm.contains (.type "AttributeError") && !bm.contains (.type "NameError"))))
noncomputable def excData (C : Addr) : Data → Bool
  | .cls cd => !cd.hasDel && excMro C cd.mro
  | _ => false
noncomputable def excOk (K : Frag) (C : Addr) : Bool := (K.lookup C).any fun o => o.cls == .type "type" && (o.slots.toList.length == 6 && (o.slots.toList[4]? == some (some (.builtin eNew)) && excData C o.data))
theorem six {α : Type} {l : List α} {x : α} (h : l.length = 6) (e : l[4]? = some x) : ∃ a b c d f, l = [a, b, c, d, x, f] := by
  refine wk ?_ ?_
  · obtain _ | ⟨a, l⟩ := l
    · cases h
    obtain _ | ⟨b, l⟩ := l
    · cases h
    obtain _ | ⟨c, l⟩ := l
    · cases h
    obtain _ | ⟨d, l⟩ := l
    · cases h
    obtain _ | ⟨y, l⟩ := l
    · cases h
    obtain _ | ⟨f, l⟩ := l
    · cases h
    obtain _ | ⟨z, l⟩ := l
    · have e' : some y = some x := e
      cases e'
      exact ⟨a, b, c, d, f, rfl⟩
    · cases h
  kct_strs
noncomputable def ExcObj (h : Heap) (C : Addr) : Prop := ∃ nm q N bs bm hdct sn sub ab col dd k0 k1 k2 k3 k5, h.get? C = some (excClassObj nm q C N bs bm hdct sn sub ab col dd k0 k1 k2 k3 k5 eNew) ∧
  bm.contains (.type "Exception") = true ∧ bm.contains (.type "BaseException") = true ∧ bm.contains (.type "AttributeError") = false ∧ bm.contains (.type "NameError") = false
theorem excObj_of {K : Frag} {h : Heap} {C : Addr} (X : K.In h) (q : excOk K C = true) : ExcObj h C := by
  refine wk ?_ ?_
  · obtain ⟨o, ho, q⟩ := any_some q
    obtain ⟨q1, q⟩ := Bool.and_eq_true_iff.mp q
    obtain ⟨q2, q⟩ := Bool.and_eq_true_iff.mp q
    obtain ⟨q3, q⟩ := Bool.and_eq_true_iff.mp q
    obtain ⟨oc, dd, dat, ⟨sl⟩⟩ := o
    obtain rfl : oc = .type "type" := beq_iff_eq.mp q1
    obtain ⟨k0, k1, k2, k3, k5, hsl⟩ := six (beq_iff_eq.mp q2) (beq_iff_eq.mp q3)
    obtain rfl : sl = _ := hsl
    cases dat with
    | cls cd =>
      obtain ⟨q4, q⟩ := Bool.and_eq_true_iff.mp (show (!cd.hasDel && excMro C cd.mro) = true from q)
      obtain ⟨nm, bs, mro, ns, qn, hd, sn, sub, ab, col, del⟩ := cd
      cases mro with
      | nil => cases q
      | cons v bm =>
        obtain ⟨q5, q⟩ := Bool.and_eq_true_iff.mp q
        obtain ⟨a1, q⟩ := Bool.and_eq_true_iff.mp q
        obtain ⟨a2, q⟩ := Bool.and_eq_true_iff.mp q
        obtain ⟨a3, a4⟩ := Bool.and_eq_true_iff.mp q
        obtain rfl : v = .ref C := beq_iff_eq.mp q5
        obtain rfl : del = false := (Bool.not_eq_true' _).mp q4
        exact ⟨nm, qn, ns, bs, bm, hd, sn, sub, ab, col, dd, k0, k1, k2, k3, k5, X _ _ ho, a1, a2, (Bool.not_eq_true' _).mp a3, (Bool.not_eq_true' _).mp a4⟩
    | _ => cases q
  kct_strs
section
variable {M : Model} {A : Around} {E : Value → Shared → Prop} {h : Heap} {g : Array GenState} {d : Drawn} {t : Nat} {os : OsState}
variable {nm q : Str} {C N : Addr} {bs bm : List Value} {hdct : Bool} {sn : List Str} {sub : List Value} {ab : Bool} {col : Option Bool} {dd : Option Addr} {k0 k1 k2 k3 k5 : Option Value}
theorem exc_check_new (a1 : bm.contains (.type "Exception") = true) {rest : List Value} {Q : Unit → Shared → Prop} (hC : h.get? C = some (excClassObj nm q C N bs bm hdct sn sub ab col dd k0 k1 k2 k3 k5 eNew))
    (hq : Q () ⟨h, g, d, t, os⟩) : wpAny M A (checkBuiltinCall eNew ⟨.ref C :: rest, []⟩) Q E ⟨h, g, d, t, os⟩ := by
  have hcont : (Value.ref C :: bm).contains (.type "Exception") = true := by rw [List.contains_cons, a1, Bool.or_true]
  have hstar := eFacts.noStar
  simp only [checkBuiltinCall, eFacts.newKind, eFacts.newSplit, eFacts.newRow]
  repeat (first | refine wpAny_loadPart_at hC ?_ | (refine wpAny_isSubtype_exc hC ?_; rw [hcont]) | refine wpAny_staticBase_exc hC ?_ | refine wpAny_madeBy_exc hC ?_ | simp only [bne_self_eq_false, Bool.false_eq_true, if_false] | wp_step)
  exact hq
theorem exc_check_init (a1 : bm.contains (.type "Exception") = true) {e : Addr} {oe : Obj} {rest : List Value} {Q : Unit → Shared → Prop}
    (hC : h.get? C = some (excClassObj nm q C N bs bm hdct sn sub ab col dd k0 k1 k2 k3 k5 eNew)) (he : h.get? e = some oe) (hcls : oe.cls = .ref C) (hq : Q () ⟨h, g, d, t, os⟩) :
    wpAny M A (checkBuiltinCall "Exception.__init__" ⟨.ref e :: rest, []⟩) Q E ⟨h, g, d, t, os⟩ := by
  refine wk ?_ ?_
  · have hcB : (Value.ref C :: bm).contains (.type "Exception") = true := by rw [List.contains_cons, a1, Bool.or_true]
    have hshort := eFacts.noStar
    simp only [checkBuiltinCall, eFacts.initKind, eFacts.initSplit, eFacts.initRow]
    repeat (first | (with_reducible refine wpAny_loadPart_at he ?_; rw [hcls]) | with_reducible refine wpAny_loadPart_at hC ?_ | (with_reducible refine wpAny_isSubtype_exc hC ?_; rw [hcB]) | wp_step)
    refine wpAny_onRaise ?_
    rw [show ∀ (a b : String) (n : Nat), Bind.check ⟨.positional, "*", "Exception", .self, [⟨"args", .varPos, false⟩]⟩ a b n (List.map (fun x => x.fst) ({ pos := Value.ref e :: rest } : Args).kw) = pure () from
      fun a b n => check_star_args _ _ _ _ _ _]
    exact wpAny_pure hq
  kct_strs
end
section
variable {prog : Program} {w : World} {A : Around} {E : Value → Shared → Prop} {R : Result → Shared → Prop} {h : Heap} {g : Array GenState} {d : Drawn} {t : Nat} {os : OsState} {K : Frag}
variable {nm q : Str} {C N : Addr} {bs bm : List Value} {hdct : Bool} {sn : List Str} {sub : List Value} {ab : Bool} {col : Option Bool} {dd : Option Addr} {k0 k1 k2 k3 k5 : Option Value}
noncomputable abbrev excNew (C t : Addr) : Obj := { cls := .ref C, data := .fields #[.ref t, .none, .none, .none, .bool false, .none] }
noncomputable abbrev tupOf (vs : List Value) : Obj := { cls := .type "tuple", data := .seq vs.toArray }
theorem exc_new (a1 : bm.contains (.type "Exception") = true) (a3 : bm.contains (.type "AttributeError") = false) (a4 : bm.contains (.type "NameError") = false) {rest : List Value} (hC : h.get? C = some (excClassObj nm q C N bs bm hdct sn sub ab col dd k0 k1 k2 k3 k5 eNew))
    (hrest : rest.length ≤ sizeLine) (hq : R (.ok (.ret (.ref (h.objs.size + 1)))) ⟨(h.push (tupOf rest)).push (excNew C h.objs.size), g, d, t, os⟩) :
    codeAny (model prog w) A (.builtin eNew ⟨.ref C :: rest, []⟩) R ⟨h, g, d, t, os⟩ := by
  refine wk ?_ ?_
  · have hends := eFacts.ends
    have hcB : (Value.ref C :: bm).contains (.type "Exception") = true := by rw [List.contains_cons, a1, Bool.or_true]
    have hcA : (Value.ref C :: bm).contains (.type "AttributeError") = false := by rw [List.contains_cons, a3]; rfl
    have hcN : (Value.ref C :: bm).contains (.type "NameError") = false := by rw [List.contains_cons, a4]; rfl
    refine PySem.codeAny_builtinAt eFacts.entry ?_
    unfold Builtin.«BaseException.__new__»
    refine PySem.wpAt_bind ?_
    show PySem.wpAt _ _ _ (stack >>= _) _ _ _
    refine PySem.wpAt_bind (PySem.wpAt_stack fun p below => PySem.wpAt_of_wpAny ?_)
    wp_walk
    refine PySem.wpAt_of_wpAny ?_
    rw [eFacts.owner]
    repeat (first | with_reducible refine wpAny_madeHere_exc eFacts.canon hC ?_ | with_reducible refine wpAny_loadPart_at hC ?_ | (with_reducible refine wpAny_isSubtype_exc hC ?_; first | rw [hcB] | rw [hcA] | rw [hcN]) | wp_step)
    show R _ _
    rw [Heap.size_push]
    exact hq
  kct_strs
theorem exc_type_call (X : K.In h) {rest : List Value} {fI : Addr} {Q : Fin → Shared → Prop} (q : excOk K C = true) (hi : findIn K (.ref C) "__init__" = some (some (.ref fI))) (hf : isFn K (.ref fI) = true) (hrest : rest.length ≤ sizeLine)
    (hq : wpAny (model prog w) A (call (.ref fI) (.ref (h.objs.size + 1) :: rest)) (fun r s' => r = .none ∧ Q (.done (.ret (.ref (h.objs.size + 1)))) s') E ⟨(h.push (tupOf rest)).push (excNew C h.objs.size), g, d, t, os⟩) :
    wpAny (model prog w) A (Builtin.«type.__call__» ⟨.ref C :: rest, []⟩) Q E ⟨h, g, d, t, os⟩ := by
  refine wk ?_ ?_
  · obtain ⟨nm, q, N, bs, bm, hdct, sn, sub, ab, col, dd, k0, k1, k2, k3, k5, hC, a1, a2, a3, a4⟩ := excObj_of X q
    have X₁ : K.In ((h.push (tupOf rest)).push (excNew C h.objs.size)) := X.keeps fun b o e => Heap.get?_push_of_some _ (Heap.get?_push_of_some _ e)
    repeat (first | with_reducible refine wpAny_loadPart_at hC ?_ | with_reducible refine wpAny_madeBy_exc hC ?_ | wp_step)
    refine codeAny_call_builtin_code (Code.quiet_builtin _ eFacts.quiet) (exc_check_new a1 hC ?_)
    refine exc_new a1 a3 a4 hC hrest ?_
    show wpAny _ _ _ _ _ _
    have hC₁ := Heap.get?_push_of_some (excNew C h.objs.size) (Heap.get?_push_of_some (tupOf rest) hC)
    have hget : ((h.push (tupOf rest)).push (excNew C h.objs.size)).get? (h.objs.size + 1) = some (excNew C h.objs.size) := by heap_get
    have hcC : (Value.ref C :: bm).contains (.ref C) = true := by simp
    unfold isInstance
    repeat (first | with_reducible refine wpAny_loadPart_at hget ?_ | (with_reducible refine wpAny_isSubtype_exc hC₁ ?_; rw [hcC]) | wp_step)
    show wpAny _ _ (typeLookup (.ref C) _) _ _ _
    refine (looks_findIn X₁ hi).here ?_
    refine wpAny_holding (wpAny_bind ?_)
    refine (bind_fn X₁ _ (beq_iff_eq.mp hf)).here ?_
    refine wpAny_bind (wpAny_mono hq (fun r s' hr => ?_) fun _ _ x => x)
    obtain ⟨rfl, hQ⟩ := hr
    wp_walk
    exact hQ
  kct_strs
theorem exc_call (X : K.In h) {rest : List Value} {fI : Addr} {Q : Value → Shared → Prop} (q : excOk K C = true) (hi : findIn K (.ref C) "__init__" = some (some (.ref fI))) (hf : isFn K (.ref fI) = true) (hrest : rest.length ≤ sizeLine)
    (hq : wpAny (model prog w) (A.under (.builtin "type.__call__" ⟨.ref C :: rest, []⟩)) (call (.ref fI) (.ref (h.objs.size + 1) :: rest)) (fun r s' => r = .none ∧ Q (.ref (h.objs.size + 1)) s') E ⟨(h.push (tupOf rest)).push (excNew C h.objs.size), g, d, t, os⟩) :
    wpAny (model prog w) A (call (.ref C) rest) Q E ⟨h, g, d, t, os⟩ := by
  refine wk ?_ ?_
  · obtain ⟨nm, q', N, bs, bm, hdct, sn, sub, ab, col, dd, k0, k1, k2, k3, k5, hC, a1, a2, a3, a4⟩ := excObj_of X q
    have f1 := tc_lookup
    have f2 := tc_bind (.ref C)
    have hT : (⟨h, g, d, t, os⟩ : Shared).TypeIs (.ref C) "type" := ⟨_, hC, rfl⟩
    refine wpAny_call (codeAny_of_tree ?_)
    show wpAny _ _ (callAny (.ref C) _) _ _ _
    repeat (any_goals (first | assumption | with_reducible refine wpAny_loadPart_at hC ?_ | wp_step))
    refine ⟨rfl, ?_⟩
    exact codeAny_call_builtin_at (Code.quiet_builtin _ (by decide +kernel)) entry_typeCall (wpAny_check_type_call_sub hC (exc_type_call X q hi hf hrest hq))
  kct_strs
theorem exc_init (X : K.In h) {rest : List Value} {e t₀ : Addr} {Q : Value → Shared → Prop} (q : excOk K C = true) (he : h.get? e = some (excNew C t₀)) (hrest : rest.length ≤ sizeLine)
    (hq : Q .none ⟨(h.push (tupOf rest)).update e (Obj.mapFields (·.setIfInBounds 0 (.ref h.objs.size))), g, d, t, os⟩) :
    wpAny (model prog w) A (call (.builtin "Exception.__init__") (.ref e :: rest)) Q E ⟨h, g, d, t, os⟩ := by
  obtain ⟨nm, q', N, bs, bm, hdct, sn, sub, ab, col, dd, k0, k1, k2, k3, k5, hC, a1, a2, a3, a4⟩ := excObj_of X q
  refine wpAny_call (codeAny_call_builtin eFacts.init.plain eFacts.initEntry (exc_check_init a1 hC he rfl ?_))
  wp_walk
  exact hq
variable {b : Heap} {L : Addr} {m : Str → Option Value} {nw : List (Addr × Obj)} {pos : Pos} {env : Env} {n : Nat}
theorem z_excInit {rest : List Value} {e t₀ : Addr} {i : Nat} {Q : Value → Shared → Prop} (S : SF b L h m nw) (G : GR K b) (q : excOk K C = true) (hi : AtI (e, excNew C t₀) nw i) (hrest : rest.length ≤ 1000)
    (hq : ∀ h' t', SF b L h' m ((t', tupOf rest) :: nw.set i (e, excNew C t')) → Q .none ⟨h', g, d, t, os⟩) :
    wpAny (model prog w) A (call (.builtin "Exception.__init__") (.ref e :: rest)) Q E ⟨h, g, d, t, os⟩ := by
  refine wk ?_ ?_
  · have he := (S.news _ hi.mem).1
    have S₁ := S.push (tupOf rest) rfl
    have he₁ := (S₁.news _ (.tail _ hi.mem)).1
    refine exc_init (G.keeps S.keep).inK q he (by rw [sizeLine_eq]; omega) ?_
    refine hq _ h.objs.size ?_
    exact S₁.setI (i := i + 1) (.tail hi) (Heap.get?_update_self _ he₁ rfl) fun a x hne e' => by rw [Heap.get?_update_other _ _ (Ne.symm hne)]; exact e'
  kct_strs
end
open PySem.Builtin PySem.Builtin.ObjectAttr in
section
variable {prog : Program} {w : World} {A : Around} {E : Value → Shared → Prop} {R : Result → Shared → Prop} {h : Heap} {g : Array GenState} {d : Drawn} {t : Nat} {os : OsState} {K : Frag} {C x : Addr} {s : Shared}
variable {b : Heap} {L : Addr} {m : Str → Option Value} {nw : List (Addr × Obj)} {pos : Pos} {env : Env} {n : Nat}
noncomputable def isR : Value → Bool
  | .ref _ => true
  | _ => false
theorem isR_ref {v : Value} (h : isR v = true) : ∃ c, v = .ref c := by
  cases v with
  | ref c => exact ⟨c, rfl⟩
  | _ => cases h
noncomputable def excEnd : List Value := [.type "Exception", .type "BaseException", .type "object"]
noncomputable def excOver : List Value → Bool
  | [] => false
  | v :: r => (isR v && excOver r) || (v :: r == excEnd)
theorem excOver_ind {P : List Value → Prop} (h0 : P excEnd) (h1 : ∀ c r, P r → P (.ref c :: r)) : ∀ {l : List Value}, excOver l = true → P l := by
  intro l
  induction l with
  | nil => intro e; cases e
  | cons v r ih =>
    intro e
    rcases (Bool.or_eq_true _ _).mp e with e | e
    · obtain ⟨e1, e2⟩ := (Bool.and_eq_true_iff).mp e
      obtain ⟨c, rfl⟩ := isR_ref e1
      exact h1 c r (ih e2)
    · rw [beq_iff_eq.mp e]; exact h0
theorem refuse_exc (self : Value) {l : List Value} (e : excOver l = true) : refuseLoop self "__setattr__" l = pure () :=
  excOver_ind (P := fun l => refuseLoop self "__setattr__" l = pure ()) (PySem.F.store_Exception.passes self) (fun c r h => by rw [refuseLoop_ref]; exact h) e
theorem exc_has {l : List Value} (e : excOver l = true) : l.contains (.type "object") = true :=
  excOver_ind (P := fun l => l.contains (.type "object") = true) (by decide) (fun c r h => by rw [List.contains_cons, h, Bool.or_true]) e
noncomputable def excP (K : Frag) (C : Addr) : Bool := (clsIn K C).any fun cd => excOver cd.mro
theorem osaE_open {ox : Obj} {od : Option Obj} {name : Str} {tk : Tok} {v : Value} (X : K.In s.heap) (I : InstAt s.heap x ox C od) (hp : excP K C = true) (ht : takerIn K C name = some none)
    (h : ∀ b, wpAny (model prog w) A.in1 (storeInOwnDict (.ref x) (.ref C) (.str name tk) name v b)
      (fun fin s' => match fin with | .done f => R (.ok f) s' | .again c' => c'.quiet = true ∧ codeAny (model prog w) A c' R s') (fun e s' => R (.error e) s') s) :
    codeAny (model prog w) A (.call (.builtin "object.__setattr__") ⟨[.ref x, .str name tk, v], []⟩) R s := by
  refine wk ?_ ?_
  · have SF := PySem.F.store_object
    obtain ⟨cd, hc, ho⟩ := any_some hp
    have ne : cd.mro.isEmpty = false := by cases q : cd.mro with | nil => rw [q] at ho; cases ho | cons _ _ => rfl
    have sub : Looks (model prog w) s.heap (isInstance (.ref x) (.type "object")) true := I.type.andThen (looks_mroIn X (by unfold mroIn; rw [hc, Option.bind_some, if_neg (by rw [ne]; decide), exc_has ho]))
    refine codeAny_call_builtin SF.slot.plain SF.entry (@check_slot (model prog w) _ _ s "object.__setattr__" "object" "__setattr__" (.ref x) [.str name tk, v] [] _ SF.kind SF.split sub (SF.args (.ref x) (.str name tk) v) ?_)
    obtain ⟨attr, ha, hr⟩ := Option.bind_eq_some_iff.mp ht
    have hm : Looks (model prog w) s.heap (mroOf (.ref C)) cd.mro := (looks_clsIn X hc).andThen .now
    have L3 : Looks (model prog w) s.heap (storeTaker? attr) none := by
      cases attr with
      | none => exact .now
      | some a =>
        obtain ⟨b, hb, hb'⟩ := Option.map_eq_some_iff.mp hr
        refine (looks_takesIn X hb).andThen ?_
        cases b with
        | true => cases hb'
        | false => exact .now
    rw [osa_eq, refuse_eq]
    refine wpAny_bind (wpAny_bind (I.type.here (wpAny_bind (hm.here ?_))))
    rw [refuse_exc _ ho]
    refine wpAny_pure (wpAny_bind (I.type.here (wpAny_bind ((looks_findIn X ha).here (wpAny_bind (L3.here ?_))))))
    exact h _
  kct_strs
noncomputable abbrev exO (C : Addr) (dd : Option Addr) (vs : Array Value) : Obj := { cls := .ref C, dict := dd, data := .fields vs }
theorem osaE_new {vs : Array Value} {i : Nat} {name : Str} {tk : Tok} {v : Value} (S : SF b L h m nw) (G : GR K b) (hi : AtI (x, exO C none vs) nw i) (hp : excP K C = true) (ht : takerIn K C name = some none) (hh : (clsIn K C).any (·.hasDict) = true)
    (q : ∀ h' dx, SF b L h' m ((dx, dictOf [⟨PyData.keyHash w.params name, .str name t, v⟩] 1) :: nw.set i (x, exO C (some dx) vs)) → R (.ok (.ret .none)) ⟨h', g, d, t + 1, os⟩) :
    codeAny (model prog w) A (.call (.builtin "object.__setattr__") ⟨[.ref x, .str name tk, v], []⟩) R ⟨h, g, d, t, os⟩ := by
  refine wk ?_ ?_
  · have X := (G.keeps S.keep).inK
    have hx := (S.news _ hi.mem).1
    have I : InstAt h x (exO C none vs) C none := ⟨hx, rfl, rfl, trivial⟩
    refine osaE_open (s := ⟨h, g, d, t, os⟩) X I hp ht fun b' => ?_
    obtain ⟨cd, hcl, hd'⟩ := any_some hh
    refine wpAny_bind (wpAny_pure (wpAny_bind (wpAny_bind (wpAny_loadPart hx (wpAny_bind ((looks_clsIn X hcl).here ?_))))))
    rw [hd']
    have S₁ := S.push (dictOf [] 0) rfl
    have hx₁ := (S₁.news _ (.tail _ hi.mem)).1
    have hU : ((h.push (dictOf [] 0)).update x fun o => { o with dict := some h.objs.size }).get? x = some (exO C (some h.objs.size) vs) := Heap.get?_update_self _ hx₁ rfl
    have S₂ : SF b L ((h.push (dictOf [] 0)).update x fun o => { o with dict := some h.objs.size }) m _ := S₁.setI (i := i + 1) (.tail hi) hU fun a y hne e' => by rw [Heap.get?_update_other _ _ (Ne.symm hne)]; exact e'
    dsimp only [List.set] at S₂
    have hD := (S₂.news (h.objs.size, dictOf [] 0) (.head _)).1
    refine wpAny_bind (wpAny_alloc (wpAny_bind (wpAny_update hx₁ (wpAny_pure (wpAny_bind (wpAny_pure (wpAny_bind ?_)))))))
    dsimp only
    unfold nsSet
    refine wpAny_bind (wpAny_bind (wpAny_askSetting (wpAny_pure (wpAny_bind (wpAny_mkText (wpAny_bind (wpAny_loadPart hD ?_)))))))
    have hD' := Heap.get?_update_self (Obj.putName name (PyData.keyHash w.params name) (.str name t) v) hD rfl
    have S₃ := S₂.setI (i := 0) .head hD' fun a y hne e' => by rw [Heap.get?_update_other _ _ (Ne.symm hne)]; exact e'
    dsimp only [List.set] at S₃
    refine wpAny_updatePart hD ?_
    refine wpAny_bind (wpAny_lookBehind hD' (by exact pastItsLine_dict (by rw [sizeLine_eq]; exact Nat.le_of_ble_eq_true rfl)) ?_)
    exact wpAny_pure (q _ _ S₃)
  kct_strs
theorem osaE_old {vs : Array Value} {dx : Addr} {i j : Nat} {es es' : List DictEntry} {k k' : Nat} {name : Str} {tk : Tok} {v : Value} (S : SF b L h m nw) (G : GR K b) (hi : AtI (x, exO C (some dx) vs) nw i) (hj : AtI (dx, dictOf es k) nw j) (hp : excP K C = true) (ht : takerIn K C name = some none) (hh : (clsIn K C).any (·.hasDict) = true)
    (hl : (getL name es).isSome = true) (he : (putL name (PyData.keyHash w.params name) (.str name t) v es, putN name es k) = (es', k')) (hz : es'.length ≤ 1000)
    (q : ∀ h', SF b L h' m (nw.set j (dx, dictOf es' k')) → R (.ok (.ret .none)) ⟨h', g, d, t + 1, os⟩) :
    codeAny (model prog w) A (.call (.builtin "object.__setattr__") ⟨[.ref x, .str name tk, v], []⟩) R ⟨h, g, d, t, os⟩ := by
  refine wk ?_ ?_
  · have X := (G.keeps S.keep).inK
    have hx := (S.news _ hi.mem).1
    have hD := (S.news _ hj.mem).1
    have I : InstAt h x (exO C (some dx) vs) C (some (dictOf es k)) := ⟨hx, rfl, rfl, hD⟩
    refine osaE_open (s := ⟨h, g, d, t, os⟩) X I hp ht fun b' => ?_
    obtain ⟨cd, hcl, hd'⟩ := any_some hh
    refine wpAny_bind (wpAny_pure (wpAny_bind (wpAny_bind (wpAny_loadPart hx (wpAny_bind ((looks_clsIn X hcl).here ?_))))))
    rw [hd']
    refine wpAny_pure (a := some dx) (wpAny_bind (wpAny_pure (wpAny_bind ?_)))
    unfold nsSet
    refine wpAny_bind (wpAny_bind (wpAny_askSetting (wpAny_pure (wpAny_bind (wpAny_mkText (wpAny_bind (wpAny_loadPart hD ?_)))))))
    obtain ⟨e1, e2⟩ := Prod.mk.inj he
    have hD' : (h.update dx (Obj.putName name (PyData.keyHash w.params name) (.str name t) v)).get? dx = some (dictOf es' k') := by
      rw [← e1, ← e2, ← putName_dict]
      exact Heap.get?_update_self _ hD (by rw [putName_dict]; rfl)
    have S₃ := S.setI hj hD' fun a y hne e' => by rw [Heap.get?_update_other _ _ (Ne.symm hne)]; exact e'
    have c : (!es.toArray.any (·.key.isStr name) && es.toArray.any (·.refKey)) = false := by
      rw [← Array.any_toList, ← Array.any_toList]
      have hl' : (lookIn name (dictOf es k)).isSome = true := hl
      unfold lookIn at hl'
      dsimp only at hl'
      split at hl'
      · rename_i en he
        rw [List.any_eq_true.mpr ⟨en, List.mem_of_find?_eq_some he, List.find?_some he⟩]; rfl
      · split at hl'
        · cases hl'
        · rename_i z; rw [Bool.not_eq_true] at z; rw [z, Bool.and_false]
    dsimp only
    rw [aRefKeyMayBeTheName_at, c]
    refine wpAny_updatePart hD ?_
    refine wpAny_bind (wpAny_lookBehind hD' (by exact pastItsLine_dict (by rw [List.size_toArray, sizeLine_eq]; omega)) ?_)
    exact wpAny_pure (q _ S₃)
  kct_strs
theorem z_setE {ox : Obj} {od : Option Obj} {name : Str} {v : Value} {Q : Unit → Shared → Prop} (X : K.In h) (I : InstAt h x ox C od)
    (hs : findIn K (.ref C) "__setattr__" = some (some (.builtin "object.__setattr__")))
    (q : codeAny (model prog w) A (.call (.builtin "object.__setattr__") ⟨[.ref x, .str name t, v], []⟩) (fun r s' => match r with | .ok (.ret _) => Q () s' | .ok _ => False | .error e => E e s') ⟨h, g, d, t + 1, os⟩) :
    wpAny (model prog w) A (setAttr (.ref x) name v) Q E ⟨h, g, d, t, os⟩ := by
  refine wpAny_bind (wpAny_mkText (wpAny_bind (wpAny_bind (wpAny_bind (I.type _ _ _ _ (fun _ _ e => e) (looks_findIn X hs _ _ _ _ (fun _ _ e => e) (wpAny_holding ?_)))))))
  rw [PySem.F.store_object.slot.bind]
  refine wpAny_bind (wpAny_pure (wpAny_bind (wpAny_call (codeAny_mono q fun r s' z => ?_))))
  rcases r with e | (v | _ | _ | _) <;> first | exact z | exact wpAny_pure (wpAny_pure z)
noncomputable def exChk (K : Frag) (C : Addr) (name : Str) : Bool := excP K C && takerIn K C name == some none && (clsIn K C).any (·.hasDict) && findIn K (.ref C) "__setattr__" == some (some (.builtin "object.__setattr__"))
theorem z_setE1 {vs : Array Value} {i : Nat} {name : Str} {v : Value} {Q : Unit → Shared → Prop} (S : SF b L h m nw) (G : GR K b) (hi : AtI (x, exO C none vs) nw i) (hc : exChk K C name = true)
    (q : ∀ h' dx, SF b L h' m ((dx, dictOf [⟨PyData.keyHash w.params name, .str name (t + 1), v⟩] 1) :: nw.set i (x, exO C (some dx) vs)) → Q () ⟨h', g, d, t + 2, os⟩) :
    wpAny (model prog w) A (setAttr (.ref x) name v) Q E ⟨h, g, d, t, os⟩ := by
  unfold exChk at hc
  simp only [Bool.and_eq_true, beq_iff_eq] at hc
  obtain ⟨⟨⟨h1, h2⟩, h3⟩, h4⟩ := hc
  exact z_setE (od := none) (G.keeps S.keep).inK ⟨(S.news _ hi.mem).1, rfl, rfl, trivial⟩ h4 (osaE_new S G hi h1 h2 h3 fun h' dx S' => q h' dx S')
theorem z_setE2 {vs : Array Value} {dx : Addr} {i j : Nat} {es es' : List DictEntry} {k k' : Nat} {name : Str} {v : Value} {Q : Unit → Shared → Prop} (S : SF b L h m nw) (G : GR K b) (hi : AtI (x, exO C (some dx) vs) nw i) (hj : AtI (dx, dictOf es k) nw j) (hc : exChk K C name = true)
    (hl : (getL name es).isSome = true) (he : (putL name (PyData.keyHash w.params name) (.str name (t + 1)) v es, putN name es k) = (es', k')) (hz : es'.length ≤ 1000)
    (q : ∀ h', SF b L h' m (nw.set j (dx, dictOf es' k')) → Q () ⟨h', g, d, t + 2, os⟩) :
    wpAny (model prog w) A (setAttr (.ref x) name v) Q E ⟨h, g, d, t, os⟩ := by
  unfold exChk at hc
  simp only [Bool.and_eq_true, beq_iff_eq] at hc
  obtain ⟨⟨⟨h1, h2⟩, h3⟩, h4⟩ := hc
  exact z_setE (od := some (dictOf es k)) (G.keeps S.keep).inK ⟨(S.news _ hi.mem).1, rfl, rfl, (S.news _ hj.mem).1⟩ h4 (osaE_old S G hi hj h1 h2 h3 hl he hz fun h' S' => q h' S')
noncomputable abbrev excVs (t : Addr) : Array Value := #[.ref t, .none, .none, .none, .bool false, .none]
theorem exc_raise {M : Model} {s : Shared} {y : Sem Value} {Q : Flow → Shared → Prop} (hh : A.handled = none)
    (h : wpAny M A y (fun v s₁ => ∃ e t dd, v = .ref e ∧ ExcObj s₁.heap C ∧ s₁.heap.get? e = some (exO C dd (excVs t)) ∧ E (.ref e) s₁) E s) :
    wpAny M A (raiseStmt env (some y) none) Q E s := by
  refine wk ?_ ?_
  · unfold raiseStmt
    refine wpAny_bind (wpAny_mono h (fun v s₁ h₁ => ?_) fun _ _ x => x)
    obtain ⟨e, t, dd, rfl, hE, he, hE'⟩ := h₁
    obtain ⟨nm, q', N, bs, bm, hdct, sn, sub, ab, col, dd', k0, k1, k2, k3, k5, hC, a1, a2, a3, a4⟩ := hE
    have hcB : (Value.ref C :: bm).contains (.type "BaseException") = true := by rw [List.contains_cons, a2, Bool.or_true]
    obtain ⟨hp, g, d, tk, os⟩ := s₁
    repeat (first | with_reducible refine wpAny_loadPart_at he ?_ | with_reducible refine wpAny_loadPart_at hC ?_ | (with_reducible refine wpAny_isSubtype_exc hC ?_; rw [hcB]) | wp_step)
    exact wpAny_raiseNew_none hh hE'
  kct_strs
theorem z_raise {M : Model} {s : Shared} {y : Expr} {rest : List Stmt} {Q : Flow → Shared → Prop} (hh : A.handled = none)
    (h : wpAny M A (eval y env) (fun v s₁ => ∃ e t dd, v = .ref e ∧ ExcObj s₁.heap C ∧ s₁.heap.get? e = some (exO C dd (excVs t)) ∧ E (.ref e) s₁) E s) :
    wpAny M A (execs (.Raise (some y) none pos :: rest) env) Q E s := by
  refine wk ?_ ?_
  · refine wpAny_execs_cons ?_
    rw [arm_exec_Raise]
    simp only [evalOpt, Option.map]
    refine wpAny_bind (wpAny_standAt (exc_raise (C := C) hh ?_))
    first
      | exact h
      | exact wpAny_bind (wpAny_mono h (fun v s₃ h₃ => wpAny_bind (wpAny_standAt (wpAny_pure h₃))) fun _ _ x => x)
  kct_strs
end
section
variable {prog : Program} {w : World} {A : Around} {E : Value → Shared → Prop} {R : Result → Shared → Prop} {h h₁ : Heap} {g : Array GenState} {dr : Drawn} {tk : Nat} {os : OsState} {K : Frag} {C e : Addr}
variable {b : Heap} {L : Addr} {m : Str → Option Value} {nw : List (Addr × Obj)} {pos : Pos} {env : Env} {outer : List Env} {base : Heap}
/-- an own exception in flight below the frames outer; all that stood in h stands, but for those frames' slots -/
noncomputable def ErrAt (h : Heap) (outer : List Env) (C e : Addr) (h' : Heap) : Prop := ∃ a0, Heap.FlyingW (hideAll h (outer.filterMap (·.frame))) outer e (.ref C) a0 h'
theorem leave_E {dd : Option Addr} {t : Addr} (hfr : A.frames = some outer) (hff : h.FunFrames base outer) (hL : env.frame = some L) (hk : env.scope.kind = .function) (S : SF h L h₁ m nw) (he : (e, exO C dd (excVs t)) ∈ nw)
    (q : ∀ h', ErrAt h outer C e h' → h.UpToSlots h' → R (.error (.ref e)) ⟨h', g, dr, tk, os⟩) : Lv prog w (A.deeper env) env R (.ref e) ⟨h₁, g, dr, tk, os⟩ := by
  refine wk ?_ ?_
  · have hin : ∀ env ∈ outer, ∀ a, env.frame = some a → a ∈ outer.filterMap (·.frame) := fun env he b hb => List.mem_filterMap.mpr ⟨env, he, hb⟩
    have hE := S.news _ he
    have hnone : ∀ {a : Addr}, h.get? a = none → (hideAll h (outer.filterMap (·.frame))).get? a = none := fun {a} e => by
      cases z : (hideAll h (outer.filterMap (·.frame))).get? a with
      | none => rfl
      | some o => have := of_hideAll _ z; rw [e] at this; cases this
    obtain ⟨oL, es, ep, hLo, hLd, r⟩ := id S.fr.ns
    have hLn : h.get? L = none := by
      cases z : h.get? L with
      | none => rfl
      | some o => exact absurd (Nat.lt_of_lt_of_le (Heap.lt_size z) S.fr.above) (Nat.lt_irrefl _)
    have hst : (hideAll h (outer.filterMap (·.frame))).StaysIn h₁ := fun a o z => S.keep a o (of_hideAll _ z)
    have hl : h₁.FunFrames (hideAll h (outer.filterMap (·.frame))) (env :: outer) :=
      ⟨by rw [hk]; decide, ⟨L, oL, hL, hnone hLn, hLo, fun vs z => by rw [hLd] at z; cases z⟩, (funFrames_hide hff hin).of_keeps fun a o z _ => ⟨o, S.keep a o z, rfl⟩⟩
    unfold Lv
    refine wpAny_leaving_firstW (a0 := .ref t) (Around.frames_deeper hfr) hl hL hE.1 hst (hnone hE.2.2) rfl rfl rfl fun h' hL' => ?_
    obtain ⟨k1, ⟨_, _, k2⟩, k3, k4⟩ := hL'
    exact q h' ⟨.ref t, k1, hnone hE.2.2, k2, k3⟩ ((Heap.UpToSlots.of_keeps S.keep).trans k4)
  kct_strs
variable {ns : List Str} {gns bns : List (Str × Value)}
theorem z_catch {x : Str} {np : Pos} {b₀ : Stmt} {suite : List Stmt} {rest : List ExceptHandler} {Q : Flow → Shared → Prop} (hfr : A.frames = some [env]) (hL : env.frame = some L) (V : EV K env L ns gns bns) (G : GR K b) (S : SF b L h m nw)
    (hx : At (x, .ref C) gns) (hc : excOk K C = true) (he : ErrAt h [env] C e h₁) (hu : h.UpToSlots h₁)
    (k : ∀ h', SF b L h' m nw → wpAny (model prog w) (A.mark (some (.ref e))) (execs (b₀ :: suite) env) Q (fun _ _ => False) ⟨h', g, dr, tk, os⟩) :
    wpAny (model prog w) A (noteFrame (.ref e) env) (fun _ s₂ => wpAny (model prog w) A (setFlight (.ref e) none) (fun _ s₃ =>
      wpAny (model prog w) A (handleBy (.ref e) env (.ExceptHandler (some (.Name x np)) none (b₀ :: suite) pos :: rest)) Q E s₃) E s₂) E ⟨h₁, g, dr, tk, os⟩ := by
  refine wk ?_ ?_
  · obtain ⟨a0, hfl⟩ := he
    have hfs : [env].filterMap (·.frame) = [L] := by simp [hL]
    rw [hfs] at hfl
    have back : ∀ {h'}, (hideAll h [L]).StaysIn h' → h.UpToSlots h' → SF b L h' m nw := fun {h'} st us => by
      refine ⟨S.fr.of_stays (fun a o z => st a o (hideAll_get _ (S.keep a o z) fun hm => ?_)) us, fun p hp => ⟨st _ _ (hideAll_get _ (S.news p hp).1 fun hm => ?_), (S.news p hp).2⟩, S.nd⟩
      · rw [List.mem_singleton.mp hm] at z
        exact absurd (Nat.lt_of_lt_of_le (Heap.lt_size z) S.fr.above) (Nat.lt_irrefl _)
      · exact (S.news p hp).2.1 (List.mem_singleton.mp hm)
    refine wpAny_looks_onW hfr hL hfl fun h₄ hheld₄ hsm₄ => ?_
    refine wpAny_landsW hheld₄ fun h₅ hheld hsm₅ => ?_
    have S₅ := back hheld.1 ((hu.trans hsm₄).trans hsm₅)
    obtain ⟨ob, hob, hobc⟩ := hheld.there
    refine wpAny_handleBy_cons (codeAny_handlers_test (z_global V G S₅ hx ?_)) (by intro q; cases q)
    obtain ⟨nm, q', N, bs, bm, hdct, sn, sub, ab, col, dd, k0, k1, k2, k3, k5, hC, a1, a2, a3, a4⟩ := excObj_of (G.keeps S₅.keep).inK hc
    refine wpAny_excMatches_sub_self hC hob hobc a2 (codeAny_handlers_suite ?_)
    refine lands_againW hheld fun h₆ hfl₆ hsm₆ => ?_
    exact wpAny_mono (k h₆ (back hfl₆.1 (((hu.trans hsm₄).trans hsm₅).trans hsm₆))) (fun _ _ x => x) fun _ _ x => x.elim
  kct_strs
theorem z_tryR {body orelse rest : List Stmt} {h₀ : ExceptHandler} {hs : List ExceptHandler} {s : Shared} {Q : Flow → Shared → Prop}
    (q : wpAny (model prog w) A (execs body env) (fun f s₁ => match f with | .next => wpAny (model prog w) A (execs orelse env) (seqK (model prog w) A rest env Q E) E s₁ | f => seqK (model prog w) A rest env Q E f s₁)
      (fun e s₁ => wpAny (model prog w) A (noteFrame e env) (fun _ s₂ => wpAny (model prog w) A (setFlight e none) (fun _ s₃ => wpAny (model prog w) A (handleBy e env (h₀ :: hs)) (seqK (model prog w) A rest env Q E) E s₃) E s₂) E s₁) s) :
    wpAny (model prog w) A (execs (.Try body (h₀ :: hs) orelse [] pos :: rest) env) Q E s :=
  wpAny_execs_cons (wpAny_Try_except (wpAny_mono q (fun f s₁ z => by cases f <;> exact z) fun _ _ x => x))
end
section
variable {prog : Program} {w : World} {A : Around} {E : Value → Shared → Prop} {K : Frag} {b h : Heap} {L : Addr} {m : Str → Option Value} {nw nw' : List (Addr × Obj)} {g : Array GenState} {dr : Drawn} {tk : Nat} {os : OsState} {env : Env} {pos : Pos} {k : Nat}
  {ns : List Str} {gns bns : List (Str × Value)} {n : Nat}
/-! ### captured names -/
noncomputable def closL (cells : List (Str × Addr)) : List (Str × NameKind) → List (Str × Addr) → Option (List (Str × Addr))
  | [], acc => some acc
  | (n, k) :: r, acc => if k == .free then match cells.lookup n with | some a => closL cells r ((n, a) :: acc) | none => none else closL cells r acc
theorem clos_aux {env : Env} {cl : List (Str × Addr)} : ∀ (names : List (Str × NameKind)) (acc : List (Str × Addr)), closL env.cells names acc = some cl →
    (forIn names acc fun x cs => (do if x.2 == NameKind.free then (do let a ← cellOf env x.1; pure (ForInStep.yield ((x.1, a) :: cs))) else pure (ForInStep.yield cs)) : Sem (List (Str × Addr))) = pure cl
  | [], acc, e => by cases e; rfl
  | (x, k) :: r, acc, e => by
    rw [List.forIn_cons]
    unfold closL at e
    by_cases hk : (k == NameKind.free) = true
    · rw [if_pos hk] at e
      dsimp only
      rw [if_pos hk]
      unfold cellOf
      split at e
      · rename_i a ha
        rw [ha]
        simp only [pure_bind]
        exact clos_aux r _ e
      · cases e
    · rw [if_neg hk] at e
      dsimp only
      rw [if_neg hk]
      simp only [pure_bind]
      exact clos_aux r _ e
theorem clos_of {scope : Scope} {cells cl : List (Str × Addr)} (hc : env.cells = cells) (e : closL cells scope.names [] = some cl) : closureFor scope env = pure cl := by
  subst hc
  have := clos_aux scope.names [] e
  unfold closureFor
  rw [bind_pure]
  exact this
noncomputable def relS (scope sc : Scope) : Scope := { scope with names := scope.names.map fun (n, k) => if (k == .free && sc.kind == .function && sc.names.lookup n == some .cell) then (n, .cell) else (n, k) }
theorem relS_eq {scope sc : Scope} (h : env.scope = sc) : relabel scope env = relS scope sc := by subst h; rfl
/-- a captured name of this frame -/
theorem z_nameX {x : Str} {c : Addr} {o : Obj} {v : Value} {p : Pos} {sc : Scope} {cls : List (Str × Addr)} {Q : Value → Shared → Prop} (V : EV K env L ns gns bns) (S : SF b L h m nw) (hsc : env.scope = sc) (hcl : env.cells = cls) (hk : sc.names.lookup x = some .cell) (hc : cls.lookup x = some c)
    (hi : At (c, o) nw) (ho : o.data = .cell (some v)) (hd : (x == ("__debug__" : Str)) = false) (q : Q v ⟨h, g, dr, tk, os⟩) : wpAny (model prog w) A (eval (.Name x p) env) Q E ⟨h, g, dr, tk, os⟩ :=
  z_nameC V (by unfold Env.kindOf; rw [hsc]; exact hk) (by rw [hcl]; exact hc) ⟨o, (S.news _ hi.mem).1, ho⟩ hd q
/-- a captured name, seen from within a comprehension -/
theorem z_nameB {x : Str} {c : Addr} {v : Value} {p : Pos} {sc : Scope} {cls : List (Str × Addr)} {Q : Value → Shared → Prop} (V : EV K env L ns gns bns) (S : SF b L h m nw) (hsc : env.scope = sc) (hcl : env.cells = cls) (hk : sc.names.lookup x = some .cell) (hc : cls.lookup x = some c)
    (hv : b.IsCell c (some v)) (hd : (x == ("__debug__" : Str)) = false) (q : Q v ⟨h, g, dr, tk, os⟩) : wpAny (model prog w) A (eval (.Name x p) env) Q E ⟨h, g, dr, tk, os⟩ :=
  z_nameC V (by unfold Env.kindOf; rw [hsc]; exact hk) (by rw [hcl]; exact hc) (let ⟨o, ho, r⟩ := hv; ⟨o, S.keep _ _ ho, r⟩) hd q
theorem z_storeX {x : Str} {c : Addr} {o : Obj} {v₀ : Option Value} {v : Value} {i : Nat} {sc : Scope} {cls : List (Str × Addr)} {Q : Unit → Shared → Prop} (V : EV K env L ns gns bns) (S : SF b L h m nw) (hsc : env.scope = sc) (hcl : env.cells = cls) (hk : sc.names.lookup x = some .cell) (hc : cls.lookup x = some c)
    (hi : AtI (c, o) nw i) (ho : o.data = .cell v₀) (q : ∀ h' o', SF b L h' m (nw.set i (c, o')) → o'.data = .cell (some v) → Q () ⟨h', g, dr, tk, os⟩) : wpAny (model prog w) A (storeName env x v) Q E ⟨h, g, dr, tk, os⟩ :=
  z_storeC V S (by unfold Env.kindOf; rw [hsc]; exact hk) (by rw [hcl]; exact hc) hi ho q
/-- a for over a list of one item, whatever the target -/
noncomputable def OneEnd (b : Heap) (L : Addr) (own : List (Addr × Obj)) (g : Array GenState) (dr : Drawn) (os : OsState) (Q : Flow → Shared → Prop) (f : Flow) (s : Shared) : Prop :=
  match f with
  | .next | .cont => ∃ h' tk' m' nw', s = ⟨h', g, dr, tk', os⟩ ∧ SF b L h' m' (nw' ++ own) ∧ ∀ h'' tk'', SF b L h'' m' nw' → Q .next ⟨h'', g, dr, tk'', os⟩
  | .brk => Q .next s
  | .ret v => Q (.ret v) s
theorem OneEnd.turn {own : List (Addr × Obj)} {Q : Flow → Shared → Prop} {nw₁ : List (Addr × Obj)} (S : SF b L h m nw₁) (hs : (nw' ++ own).Sublist nw₁) (q : ∀ h'' tk'', SF b L h'' m nw' → Q .next ⟨h'', g, dr, tk'', os⟩) :
    OneEnd b L own g dr os Q .next ⟨h, g, dr, tk, os⟩ := ⟨h, tk, m, nw', rfl, S.sub hs, q⟩
theorem z_oneLoop {target : Expr} {l : Addr} {v : Value} {body : List Stmt} {Q : Flow → Shared → Prop}
    (Er : Value → Shared → Prop) (hEr : ∀ e s, Er e s → notedBy (model prog w) A env (cameBackBy (model prog w) A env E) e s) (hh : A.handled = none) (S : SF b L h m nw) (hl : h.IsList l #[v]) (hb : ∃ o, b.get? l = some o) (hgo : ∀ it v, letOwnedTupleGo target it v = pure ())
    (turn : ∀ h₁ tk₁ own (T : Flow → Shared → Prop) (_ : ∀ f s, OneEnd b L own g dr os Q f s → T f s), SF b L h₁ m (nw ++ own) → wpAny (model prog w) A (assign target env v) (fun _ s₂ => wpAny (model prog w) A (execs body env) T Er s₂) (fun _ _ => False) ⟨h₁, g, dr, tk₁, os⟩) :
    wpAny (model prog w) A (pyIter (.ref l)) (fun it s₂ => codeAny (model prog w) A (.forLoop target it body [] env) (fun r s' => match r with | .ok f => Q f s' | .error e => cameBackBy (model prog w) A env E e s') s₂) E ⟨h, g, dr, tk, os⟩ := by
  refine wk ?_ ?_
  · obtain ⟨ol, hol, _⟩ := id hl
    have hne : l ≠ h.objs.size := Nat.ne_of_lt (Heap.lt_size hol)
    refine wpAny_pyIter_list (s := ⟨h, g, dr, tk, os⟩) hl ?_
    have W := Walks.list (prog := prog) (w := w) hh h.objs.size l hne #[v]
    have S' := (S.push ⟨.type "list_iterator", none, .fields #[.ref l, .int 0 0], #[]⟩ rfl).rot
    have same : ∀ {h₁ h₂ m₁ m₂ nw₁ nw₂ own}, SF b L h₁ m₁ (nw₁ ++ own) → SF b L h₂ m₂ (nw₂ ++ own) → own.map (·.1) = [h.objs.size] → ∀ c ∈ [h.objs.size, l], ∀ o, h₁.get? c = some o → h₂.get? c = some o := by
      intro h₁ h₂ m₁ m₂ nw₁ nw₂ own S₁ S₂ ho c hc o e
      rcases List.mem_cons.mp hc with rfl | hc
      · have : h.objs.size ∈ own.map (·.1) := by rw [ho]; exact .head _
        obtain ⟨p, hp, hpe⟩ := List.mem_map.mp this
        have z1 := (S₁.news p (List.mem_append_right _ hp)).1
        have z2 := (S₂.news p (List.mem_append_right _ hp)).1
        rw [hpe] at z1 z2
        rw [z1] at e; rw [z2, e]
      · rw [List.mem_singleton.mp hc] at e ⊢
        obtain ⟨o', ho'⟩ := hb
        have z1 := S₁.keep _ _ ho'
        have z2 := S₂.keep _ _ ho'
        rw [z1] at e; rw [z2, e]
    have hI := h.objs.size
    refine z_loopC (fun j s => (j = 1 ∧ ∃ h₁ tk₁ own, s = ⟨h₁, g, dr, tk₁, os⟩ ∧ own.map (·.1) = [h.objs.size] ∧ SF b L h₁ m (nw ++ own) ∧ h₁.IsListIter h.objs.size l 0 ∧ h₁.IsList l #[v]) ∨
      (j = 0 ∧ ∃ h₁ tk₁ own m' nw', s = ⟨h₁, g, dr, tk₁, os⟩ ∧ own.map (·.1) = [h.objs.size] ∧ SF b L h₁ m' (nw' ++ own) ∧ (h₁.IsListIter h.objs.size l 1 ∧ h₁.IsList l #[v]) ∧ ∀ h'' tk'', SF b L h'' m' nw' → Q .next ⟨h'', g, dr, tk'', os⟩)) Er hEr ?_ 1
      (.inl ⟨rfl, _, _, _, rfl, rfl, S', ⟨_, Heap.get?_push_size _ rfl, rfl, rfl⟩, hl.at fun o e => Heap.get?_push_of_some _ e⟩)
    rintro j s (⟨rfl, h₁, tk₁, own, rfl, ho, S₁, hs⟩ | ⟨rfl, h₁, tk₁, own, m', nw', rfl, ho, S₁, hs, q⟩)
    · refine W.item 0 _ _ _ Nat.zero_lt_one hs fun v' h₂ tk₂ hP hs₂ hk => ?_
      have hv : v' = v := by simpa using hP.symm
      subst hv
      obtain ⟨own₂, e₂, S₂⟩ := S₁.own' (h' := h₂) ho hk (fun c hc => by rw [List.mem_singleton.mp hc]; obtain ⟨o, ho, _⟩ := hs₂.1; exact ⟨o, ho⟩)
      dsimp only
      rw [hgo]
      refine wpAny_pure (wpAny_mono (turn h₂ tk₂ own₂ _ (fun _ _ x => x) S₂) (fun _ s₃ z => wpAny_mono z (fun fl s₄ y => ?_) fun _ _ x => x) fun _ _ x => x)
      have fin : (∃ h' tk' m' nw', s₄ = ⟨h', g, dr, tk', os⟩ ∧ SF b L h' m' (nw' ++ own₂) ∧ ∀ h'' tk'', SF b L h'' m' nw' → Q .next ⟨h'', g, dr, tk'', os⟩) → ∃ m₁, m₁ < 1 ∧ ((m₁ = 1 ∧ ∃ h₁ tk₁ own, s₄ = ⟨h₁, g, dr, tk₁, os⟩ ∧ own.map (·.1) = [h.objs.size] ∧ SF b L h₁ m (nw ++ own) ∧ h₁.IsListIter h.objs.size l 0 ∧ h₁.IsList l #[v']) ∨
      (m₁ = 0 ∧ ∃ h₁ tk₁ own m' nw', s₄ = ⟨h₁, g, dr, tk₁, os⟩ ∧ own.map (·.1) = [h.objs.size] ∧ SF b L h₁ m' (nw' ++ own) ∧ (h₁.IsListIter h.objs.size l 1 ∧ h₁.IsList l #[v']) ∧ ∀ h'' tk'', SF b L h'' m' nw' → Q .next ⟨h'', g, dr, tk'', os⟩)) := by
        rintro ⟨h', tk', m', nw', rfl, S₃, q⟩
        exact ⟨0, by decide, .inr ⟨rfl, h', tk', own₂, m', nw', rfl, e₂, S₃, W.frame 1 _ _ hs₂ (same S₂ S₃ e₂), q⟩⟩
      cases fl with
      | next => exact fin y
      | cont => exact fin y
      | brk => exact y
      | ret v => exact y
    · refine W.done _ _ _ hs fun h₂ tk₂ hk => ?_
      exact q h₂ tk₂ (S₁.done ho hk)
  kct_strs
end
section
variable {prog : Program} {w : World} {A : Around} {E : Value → Shared → Prop} {s : Shared}
/-- a dict by its entries -/
noncomputable def EntAt (h : Heap) (d : Addr) (es : Array DictEntry) (ep : Nat) : Prop := ∃ o, h.get? d = some o ∧ o.ExactDict ∧ o.data = .dict es ep
theorem EntAt.at {h h' : Heap} {d : Addr} {es : Array DictEntry} {ep : Nat} (x : EntAt h d es ep) (e : ∀ o, h.get? d = some o → h'.get? d = some o) : EntAt h' d es ep := let ⟨o, ho, r⟩ := x; ⟨o, e _ ho, r⟩
theorem ents_iter {d : Addr} {es : Array DictEntry} {ep : Nat} {Q : Value → Shared → Prop} (hd : (d == sysModules) = false) (hm : EntAt s.heap d es ep)
    (hQ : Q (.ref s.heap.objs.size) { s with heap := s.heap.push { cls := .type "dict_keyiterator", data := .fields #[.ref d, .int 0 0, .int es.size 0, .int ep 0] } }) :
    wpAny (model prog w) A (pyIter (.ref d)) Q E s := by
  obtain ⟨o, ho, hc, hdat⟩ := id hm
  have hT : s.TypeIs (.ref d) "dict" := ⟨o, ho, hc.1⟩
  refine wpAny_pyIter_slot hT F.slot_dict_iter (wpAny_call_entry F.slot_dict_iter hT F.entry_dict_iter ?_ (F.args_dict_iter_1 _))
  unfold Builtin.«dict.__iter__»
  refine wpAny_bind ?_
  unfold Builtin.Dict.dictSlotNone
  refine wpAny_bind (wpAny_notOrdered_dict hT ?_)
  show wpAny _ _ (pure (Value.ref d)) _ _ s
  refine wpAny_pure ?_
  show wpAny _ _ (Builtin.Dict.showsAll d >>= _) _ _ s
  unfold Builtin.Dict.showsAll
  rw [if_neg (by rw [hd]; exact Bool.false_ne_true)]
  refine wpAny_bind (wpAny_pure ?_)
  refine wpAny_bind (wpAny_dictEntries ho hdat ?_)
  refine wpAny_bind (wpAny_dictEpoch ho hdat ?_)
  refine wpAny_bind (wpAny_newObj_type (wpAny_pure ⟨_, rfl, "dict_keyiterator", _, ⟨_, Heap.get?_push_size _ rfl, rfl⟩, F.slot_dict_keyiterator_next.lookup, ?_⟩))
  simpa [rawInt] using hQ
theorem ents_next {it d : Addr} {i ep : Nat} {es : Array DictEntry} {e : DictEntry} {Q : Option Value → Shared → Prop} (hit : s.heap.IsKeyIter it d i es.size ep)
    (hm : EntAt s.heap d es ep) (hx : es[i]? = some e) (hQ : ∀ h', h'.IsKeyIter it d (i + 1) es.size ep → Heap.SameBut it s.heap h' → Q (some e.key) { s with heap := h' }) :
    wpAny (model prog w) A (pyNext (.ref it)) Q E s := by
  obtain ⟨o, ho, hc, hd⟩ := id hit
  obtain ⟨od, hod, hcd, hdd⟩ := id hm
  unfold pyNext
  refine wpAny_bind (wpAny_attempt (wpAny_callSpecial?_slot (name := Str.ofString "__next__") hit.typeIs F.slot_dict_keyiterator_next
    (wpAny_call_entry F.slot_dict_keyiterator_next hit.typeIs F.entry_dict_keyiterator_next ?_ (F.args_dict_keyiterator_next_1 _))))
  refine wpAny_bind (wpAny_pure ?_)
  refine wpAny_bind ?_
  refine wpAny_bind ?_
  first | refine wpAny_bind (wpAny_typeNameOfWhole_keyiter hit.typeIs (wpAny_pure ?_)) | refine wpAny_bind (wpAny_typeNameOf_keyiter hit.typeIs (wpAny_pure ?_))
  refine wpAny_bind (wpAny_fieldsOf ho hd ?_)
  have hown : Builtin.Dict_items.ownsTuple "dict_keyiterator" = false := by decide
  simp only [hown, Bool.false_eq_true, if_false]
  show wpAny _ _ (if (Value.ref d == Value.none) = true then _ else _) _ _ s
  rw [if_neg (show ¬ ((Value.ref d == Value.none) = true) from Bool.false_ne_true)]
  refine wpAny_bind (wpAny_pure ?_)
  refine wpAny_bind (wpAny_dictEntries hod hdd ?_)
  rw [if_neg (by simp)]
  refine wpAny_bind (wpAny_pure ?_)
  refine wpAny_bind (wpAny_dictEpoch hod hdd ?_)
  rw [if_neg (by simp)]
  refine wpAny_pure ?_
  have hlt' : i < es.size := (Array.getElem?_eq_some_iff.mp hx).1
  simp only [show ¬ ((i : Int) < 0) from by omega, if_false, Int.toNat_natCast, hx]
  refine wpAny_bind ?_
  first | refine wpAny_bind (wpAny_typeNameOfWhole_keyiter hit.typeIs (wpAny_pure ?_)) | refine wpAny_bind (wpAny_typeNameOf_keyiter hit.typeIs (wpAny_pure ?_))
  refine wpAny_bind (wpAny_isOneOf_keyiter hit.typeIs ?_)
  show wpAny _ _ (setField (.ref it) 1 (rawInt ((i : Int) + 1)) >>= _) _ _ s
  refine wpAny_bind (wpAny_setField ho hd (by simp) ?_)
  have hit' : (s.heap.update it (Obj.mapFields (·.setIfInBounds 1 (rawInt ((i : Int) + 1))))).IsKeyIter it d (i + 1) es.size ep :=
    ⟨_, Heap.get?_update_self _ ho (Obj.isFreed_of_fields (Obj.data_mapFields hd _)), (Obj.cls_mapFields ..).trans hc, by rw [Obj.data_mapFields hd]; simp [rawInt]⟩
  refine wpAny_bind (wpAny_holding ?_)
  refine wpAny_bind (wpAny_isOneOf_keyiter (s := { s with heap := s.heap.update it (Obj.mapFields (·.setIfInBounds 1 (rawInt ((i : Int) + 1)))) }) hit'.typeIs ?_)
  show wpAny _ _ (pure e.key) _ _ _
  exact wpAny_pure (wpAny_pure ⟨_, rfl, wpAny_pure (hQ _ hit' (Heap.SameBut.update ..))⟩)
theorem ents_end {it d : Addr} {ep : Nat} {es : Array DictEntry} {Q : Option Value → Shared → Prop} (hh : A.handled = none) (hit : s.heap.IsKeyIter it d es.size es.size ep)
    (hm : EntAt s.heap d es ep) (hQ : ∀ h', Heap.ExtBut it s.heap h' → Q none { s with heap := h' }) : wpAny (model prog w) A (pyNext (.ref it)) Q E s := by
  refine wk ?_ ?_
  · obtain ⟨o, ho, hc, hd⟩ := id hit
    obtain ⟨od, hod, hcd, hdd⟩ := id hm
    unfold pyNext
    refine wpAny_bind (wpAny_attempt (wpAny_callSpecial?_slot (name := Str.ofString "__next__") hit.typeIs F.slot_dict_keyiterator_next
      (wpAny_call_entry F.slot_dict_keyiterator_next hit.typeIs F.entry_dict_keyiterator_next ?_ (F.args_dict_keyiterator_next_1 _))))
    refine wpAny_bind (wpAny_pure ?_)
    refine wpAny_bind ?_
    refine wpAny_bind ?_
    first | refine wpAny_bind (wpAny_typeNameOfWhole_keyiter hit.typeIs (wpAny_pure ?_)) | refine wpAny_bind (wpAny_typeNameOf_keyiter hit.typeIs (wpAny_pure ?_))
    refine wpAny_bind (wpAny_fieldsOf ho hd ?_)
    have hown : Builtin.Dict_items.ownsTuple "dict_keyiterator" = false := by decide
    simp only [hown, Bool.false_eq_true, if_false]
    show wpAny _ _ (if (Value.ref d == Value.none) = true then _ else _) _ _ s
    rw [if_neg (show ¬ ((Value.ref d == Value.none) = true) from Bool.false_ne_true)]
    refine wpAny_bind (wpAny_pure ?_)
    refine wpAny_bind (wpAny_dictEntries hod hdd ?_)
    rw [if_neg (by simp)]
    refine wpAny_bind (wpAny_pure ?_)
    refine wpAny_bind (wpAny_dictEpoch hod hdd ?_)
    rw [if_neg (by simp)]
    refine wpAny_pure ?_
    simp only [show ¬ ((es.size : Int) < 0) from by omega, if_false, Int.toNat_natCast, Array.getElem?_eq_none (Nat.le_refl _)]
    refine wpAny_bind ?_
    first | refine wpAny_bind (wpAny_typeNameOfWhole_keyiter hit.typeIs (wpAny_pure ?_)) | refine wpAny_bind (wpAny_typeNameOf_keyiter hit.typeIs (wpAny_pure ?_))
    show wpAny _ _ (setField (.ref it) 0 .none >>= _) _ _ s
    refine wpAny_bind (wpAny_setField ho hd (by simp) ?_)
    show wpAny _ _ (newExc (.type "StopIteration") [] >>= _) _ _ _
    refine wpAny_bind ?_
    simp only [newExc, newTuple]
    refine wpAny_bind (wpAny_newObj_type ?_ (by size_fits))
    refine wpAny_bind (m := firstArgMember _ _) (wpAny_of_eq (a := Value.none) (by first | rfl | (simp only [firstArgMember]; rfl)) ?_)
    refine wpAny_newObj_type ?_ (by size_fits)
    simp only [raiseNew]
    refine wpAny_bind (wpAny_handled ?_)
    rw [show A.in1.handled = none from hh]
    refine wpAny_bind (wpAny_pure (wpAny_throw ?_))
    refine wpAny_bind (wpAny_isInstance (T := "StopIteration") (b := true) ⟨_, Heap.get?_push_size _ rfl, rfl⟩ isSubtype_stop ?_)
    exact wpAny_pure (hQ _ (((Heap.SameBut.update ..).extBut.push _).push _))
  kct_strs
theorem go_keyiter {elts : List Expr} {x1} {pos : Pos} {I d T : Addr} {i n ep : Nat} {Q : Unit → Shared → Prop} (hit : s.heap.IsKeyIter I d i n ep) (hQ : Q () s) :
    wpAny (model prog w) A (letOwnedTupleGo (.Tuple elts x1 pos) (.ref I) (.ref T)) Q E s := by
  refine wk ?_ ?_
  · obtain ⟨o, ho, hc, hd⟩ := hit
    unfold letOwnedTupleGo
    refine wpAny_bind (wpAny_load ho ?_)
    rw [hc, hd]
    show wpAny _ A (if (["enumerate", "zip", "dict_itemiterator", "dict_reverseitemiterator", "odict_iterator", "itertools.zip_longest", "itertools.pairwise"].contains "dict_keyiterator" &&
        (#[.ref d, .int i 0, .int n 0, .int ep 0] : Array Value)[0]? == some (rawInt T)) = true then _ else _) Q E s
    rw [if_neg (by
      intro h
      rw [show (["enumerate", "zip", "dict_itemiterator", "dict_reverseitemiterator", "odict_iterator", "itertools.zip_longest", "itertools.pairwise"].contains "dict_keyiterator") = false from by decide, Bool.false_and] at h
      cases h)]
    exact wpAny_pure hQ
  kct_strs
end
theorem Walks.entsT {prog : Program} {w : World} {A : Around} (hh : A.handled = none) (I d : Addr) (hne : d ≠ I) (es : Array DictEntry) (ep : Nat) (Ts : Nat → Addr) (vals : Nat → Array Value)
    (hit : ∀ (j : Nat) (e : DictEntry), es[j]? = some e → e.key = Value.ref (Ts j)) (hTI : ∀ j, j < es.size → Ts j ≠ I) :
    WalksU prog w A I (I :: d :: (List.range es.size).map Ts) [I] es.size (fun j v => v = vals j)
      (fun j h => h.IsKeyIter I d j es.size ep ∧ EntAt h d es ep ∧ ∀ k, k < es.size → h.IsTuple (Ts k) (vals k))
      (fun j T h => (j < es.size ∧ T = Ts j) ∧ h.IsKeyIter I d (j + 1) es.size ep ∧ EntAt h d es ep ∧ ∀ k, k < es.size → h.IsTuple (Ts k) (vals k)) where
  sub := fun b hb => by simp at hb; simp [hb]
  frame := fun _ _ _ st hk => ⟨st.1.at fun o e => hk I (by simp) o e, st.2.1.at fun o e => hk d (by simp) o e,
    fun k hk' => (st.2.2 k hk').at fun o e => hk (Ts k) (List.mem_cons_of_mem _ (List.mem_cons_of_mem _ (List.mem_map.mpr ⟨k, List.mem_range.mpr hk', rfl⟩))) o e⟩
  item := fun i s Q E hi st hQ => by
    have hx : es[i]? = some es[i] := Array.getElem?_eq_getElem hi
    refine ents_next st.1 st.2.1 hx fun h' hit' hs' => ?_
    have tup : ∀ k, k < es.size → h'.IsTuple (Ts k) (vals k) := fun k hk' => (st.2.2 k hk').extBut hs'.extBut (hTI k hk')
    rw [hit i _ hx]
    exact hQ (Ts i) (vals i) h' s.toks rfl (tup i hi) ⟨⟨hi, rfl⟩, hit', st.2.1.at (fun o e => hs'.extBut d o hne e), tup⟩ fun b o hb e => hs'.extBut b o (fun h => hb (by simp [h])) e
  go := fun _ _ _ _ _ s Q _ hm hQ => go_keyiter hm.2.1 (hQ s.heap hm.2 fun _ _ _ e => e)
  apart := fun j T _ hm hmem => by
    rcases List.mem_cons.mp hmem with e | e
    · exact hTI j hm.1.1 (hm.1.2 ▸ e)
    · cases e
  done := fun s Q E st hQ => ents_end hh st.1 st.2.1 fun h' he' => hQ h' s.toks fun b o hb e => he' b o (fun h => hb (by simp [h])) e
  self := fun _ _ _ _ st hQ => wpAny_pyIter_keyiter st.1 hQ
section
variable {prog : Program} {w : World} {A : Around} {E : Value → Shared → Prop} {K : Frag} {b h : Heap} {L : Addr} {m : Str → Option Value} {nw nw' : List (Addr × Obj)} {g : Array GenState} {dr : Drawn} {tk : Nat} {os : OsState} {env : Env} {pos : Pos} {k : Nat}
  {ns : List Str} {gns bns : List (Str × Value)} {n : Nat}
theorem pk_tup {T : Addr} {i : Nat} (x : (PKind prog w).is h (pk i) T) : ∃ t u, h.IsTuple T #[.str ".text" t, .int (i : Nat) u] := by
  refine wk ?_ ?_
  · obtain ⟨o, items, n, ho, hc, hd, hi⟩ := x
    obtain ⟨it⟩ := items
    dsimp only at hi
    cases hi with
    | cons h1 h2 =>
      cases h2 with
      | cons h3 h4 =>
        cases h4
        rw [mix_is] at h1 h3
        obtain ⟨t, rfl⟩ := Value.isStrOf_shape (mixl h1)
        obtain ⟨u, rfl⟩ := Value.isInt_shape (mixr h3)
        exact ⟨t, u, o, ho, hc, n, hd⟩
  kct_strs
/-- for x, y in a dict whose keys are (".text", i) -/
theorem z_pkLoop {x y : Str} {px py tpos : Pos} {kk i₀ j₀ : Nat} {d : Addr} {is : List Nat} {xs : List (List (Str ⊕ Int) × Addr × Value)} {f : Nat → Option Value} {body : List Stmt} {Q : Flow → Shared → Prop}
    (Er : Value → Shared → Prop) (hEr : ∀ e s, Er e s → notedBy (model prog w) A env (cameBackBy (model prog w) A env E) e s)
    (Inv : Nat → (Nat → Option Value) → List (Addr × Obj) → Prop) (hh : A.handled = none)
    (V : EV K env L ns gns bns) (S : SF b L h (lc ns f) nw) (hx : IxAt ns x i₀) (hy : IxAt ns y j₀) (hd : (d == sysModules) = false) (D : b.DictOfH (PKind prog w) d xs) (hk : xs.map (·.1) = is.map pk)
    (h0 : Inv 0 f nw)
    (turn : ∀ j i t u h₁ tk₁ f₁ nw₁ own (T : Flow → Shared → Prop) (_ : ∀ f s, LoopEnd b L ns own (Inv (j + 1)) g dr os Q f s → T f s), is[j]? = some i → Inv j f₁ nw₁ → SF b L h₁ (lc ns (up (up f₁ i₀ (.str ".text" t)) j₀ (.int (i : Nat) u))) (nw₁ ++ own) →
      wpAny (model prog w) A (execs body env) T Er ⟨h₁, g, dr, tk₁, os⟩)
    (done : ∀ h₁ tk₁ f₁ nw₁, Inv is.length f₁ nw₁ → SF b L h₁ (lc ns f₁) nw₁ → Q .next ⟨h₁, g, dr, tk₁, os⟩) :
    wpAny (model prog w) A (pyIter (.ref d)) (fun it s₂ => codeAny (model prog w) A (.forLoop (.Tuple [.Name x px, .Name y py] kk tpos) it body [] env) (fun r s' => match r with | .ok f => Q f s' | .error e => cameBackBy (model prog w) A env E e s') s₂) E ⟨h, g, dr, tk, os⟩ := by
  refine wk ?_ ?_
  · obtain ⟨o, es, ep, ho, hex, hdat, hes, hkeys, hnd⟩ := id D
    have hlen : xs.length = is.length := by have := congrArg List.length hk; simpa using this
    have hsz : es.size = is.length := by rw [← Array.length_toList, hes, List.length_map, hlen]
    have hex' : ∀ j, j < is.length → ∃ i T v t u, is[j]? = some i ∧ xs[j]? = some (pk i, T, v) ∧ b.IsTuple T #[.str ".text" t, .int (i : Nat) u] := fun j hj => by
      have hxj : xs[j]? = some xs[j] := List.getElem?_eq_getElem (by omega)
      have hij : is[j]? = some is[j] := List.getElem?_eq_getElem hj
      have hp : xs[j].1 = pk is[j] := by
        have h1 : (xs.map (·.1))[j]? = some xs[j].1 := by rw [List.getElem?_map, hxj]; rfl
        rw [hk, List.getElem?_map, hij] at h1
        exact (Option.some.inj h1).symm
      have hm := hkeys xs[j] (List.getElem_mem _)
      rw [hp] at hm
      obtain ⟨t, u, ht⟩ := pk_tup hm
      refine ⟨is[j], xs[j].2.1, xs[j].2.2, t, u, hij, ?_, ht⟩
      rw [hxj, ← hp]
    let Ts : Nat → Addr := fun j => (xs[j]?.map (·.2.1)).getD 0
    have hTs : ∀ j i T v, xs[j]? = some (pk i, T, v) → Ts j = T := fun j i T v e => by show (xs[j]?.map (·.2.1)).getD 0 = T; rw [e]; rfl
    have hval : ∃ vals : Nat → Array Value, ∀ j, (j < is.length → ∃ i t u, is[j]? = some i ∧ vals j = #[.str ".text" t, .int (i : Nat) u] ∧ b.IsTuple (Ts j) (vals j)) ∧ ∃ v₁ v₂, vals j = #[v₁, v₂] := by
      refine Classical.axiomOfChoice (r := fun j (v : Array Value) => (j < is.length → ∃ i t u, is[j]? = some i ∧ v = #[.str ".text" t, .int (i : Nat) u] ∧ b.IsTuple (Ts j) v) ∧ ∃ v₁ v₂, v = #[v₁, v₂]) fun j => ?_
      by_cases hj : j < is.length
      · obtain ⟨i, T, v, t, u, h1, h2, h3⟩ := hex' j hj
        exact ⟨#[.str ".text" t, .int (i : Nat) u], fun _ => ⟨i, t, u, h1, rfl, by rw [hTs j _ _ _ h2]; exact h3⟩, _, _, rfl⟩
      · exact ⟨#[.none, .none], fun h => absurd h hj, _, _, rfl⟩
    obtain ⟨vals, hvals'⟩ := hval
    have hvals := fun j => (hvals' j).1
    have kp := S.keep
    have hdl : d < h.objs.size := Heap.lt_size (kp _ _ ho)
    have hEnt : EntAt h d es ep := ⟨o, kp _ _ ho, hex, hdat⟩
    refine ents_iter (s := ⟨h, g, dr, tk, os⟩) hd hEnt ?_
    have tupb : ∀ j, j < es.size → ∃ oT, b.get? (Ts j) = some oT := fun j hj => by
      obtain ⟨i, t, u, _, _, oT, hT, _⟩ := hvals j (by omega)
      exact ⟨oT, hT⟩
    have W := Walks.entsT (prog := prog) (w := w) hh h.objs.size d (Nat.ne_of_lt hdl) es ep Ts vals (fun j e he => by
        obtain ⟨i, T, v, t, u, _, hxj, _⟩ := hex' j (by rw [← hsz]; exact (Array.getElem?_eq_some_iff.mp he).1)
        have : es.toList[j]? = some e := by rw [Array.getElem?_toList]; exact he
        rw [hes, List.getElem?_map, hxj] at this
        cases this
        rw [hTs j _ _ _ hxj]; rfl) (fun j hj => by
        obtain ⟨oT, hT⟩ := tupb j hj
        exact Nat.ne_of_lt (Heap.lt_size (kp _ _ hT)))
    have S' := (S.push ⟨.type "dict_keyiterator", none, .fields #[.ref d, .int 0 0, .int es.size 0, .int ep 0], #[]⟩ rfl).rot
    refine z_forT Er hEr Inv [] W (fun i h hs c hc => ?_) hh V S' rfl hx hy ⟨⟨_, Heap.get?_push_size _ rfl, rfl, rfl⟩, hEnt.at (fun o e => Heap.get?_push_of_some _ e), fun j hj => ?_⟩ (fun c hc => ?_) (fun _ _ _ _ _ hp => nomatch hp) h0 (fun j v hp => ?_) (fun j T h hM c hc => ?_) ?_ ?_
    · rw [List.mem_singleton.mp hc]; obtain ⟨o, ho, _⟩ := hs.1; exact ⟨o, ho⟩
    · obtain ⟨i, t, u, _, _, hT⟩ := hvals j (by omega)
      exact hT.at fun o e => Heap.get?_push_of_some _ (kp _ _ e)
    · rcases List.mem_cons.mp hc with rfl | hc
      · exact .inl (.head _)
      · rcases List.mem_cons.mp hc with rfl | hc
        · exact .inr (.inl ⟨o, ho⟩)
        · obtain ⟨j, hj, rfl⟩ := List.mem_map.mp hc
          exact .inr (.inl (tupb j (List.mem_range.mp hj)))
    · obtain ⟨v₁, v₂, e⟩ := (hvals' j).2
      exact ⟨v₁, v₂, hp.trans e⟩
    · rw [List.mem_singleton.mp hc]; obtain ⟨o, ho, _⟩ := hM.2.1; exact ⟨o, ho⟩
    · rintro j v₁ v₂ h₁ tk₁ f₁ nw₁ own hj hv hI S₁
      obtain ⟨i, t, u, hi, hv', _⟩ := hvals j (by omega)
      rw [hv'] at hv
      obtain ⟨rfl, rfl⟩ : v₁ = .str ".text" t ∧ v₂ = .int (i : Nat) u := by simpa using hv
      exact turn j i t u h₁ tk₁ f₁ nw₁ own _ (fun _ _ x => x) hi hI S₁
    · rw [hsz]; exact done
  kct_strs
end
section
variable {prog : Program} {w : World} {A : Around} {E : Value → Shared → Prop} {K : Frag} {b h : Heap} {L : Addr} {m : Str → Option Value} {nw nw' : List (Addr × Obj)} {g : Array GenState} {dr : Drawn} {tk : Nat} {os : OsState} {env : Env} {pos : Pos} {k : Nat}
  {ns : List Str} {gns bns : List (Str × Value)} {n : Nat} {Q : Value → Shared → Prop}
noncomputable def clsMChk (K : Frag) (C : Addr) (name : Str) (f : Addr) : Bool := specialIn K (.ref C) "__getattribute__" == some (some (.builtin "type.__getattribute__")) && readsIn K C (.type "type") &&
  (match findCls K (.ref C) (.type "type") name with | some (.val v) => v == .ref f | _ => false) && handedIn (.ref f) && keepIn K (.ref f)
/-- Base.method(self, ..) -/
theorem z_clsM {C f : Addr} {name : Str} {pl : Sem Bool} {e : Expr} {rest : List Expr} (S : SF b L h m nw) (G : GR K b) (hc : clsMChk K C name f = true)
    (q : wpAny (model prog w) A (spliced (backTo pos (starEach (e :: rest) env))) (fun vs s₁ => K.In s₁.heap ∧ wpAny (model prog w) A (call (.ref f) vs) Q E s₁) E ⟨h, g, dr, tk + 1, os⟩) (he : starEach (e :: rest) env = (false, eval e env) :: starEach rest env) (hplain : (backTo pos (starEach rest env)).any (·.1) = false) :
    wpAny (model prog w) A (getMethod (.ref C) name pl) (fun fx s₂ => wpAny (model prog w) A (callWith pos fx.fst fx.snd (backTo pos (starEach (e :: rest) env)) []) Q E s₂) E ⟨h, g, dr, tk, os⟩ := by
  refine wk ?_ ?_
  · unfold clsMChk at hc
    simp only [Bool.and_eq_true, beq_iff_eq] at hc
    obtain ⟨⟨⟨⟨h1, h2⟩, h3⟩, h4⟩, h5⟩ := hc
    split at h3
    · rename_i v hv
      have hvf := beq_iff_eq.mp h3
      subst hvf
      have X := (G.keeps S.keep).inK
      refine method_cls (s := ⟨h, g, dr, tk, os⟩) X h1 (cls_value (s := ⟨h, g, dr, tk, os⟩) X h2 hv h4 ?_)
      exact callWith_K (first := []) X h5 q he hplain
    · cases h3
  kct_strs
end
section
variable {prog : Program} {w : World} {A : Around} {E : Value → Shared → Prop} {K : Frag} {b h : Heap} {L : Addr} {m : Str → Option Value} {nw nw' : List (Addr × Obj)} {g : Array GenState} {dr : Drawn} {tk : Nat} {os : OsState} {env : Env} {pos : Pos} {k : Nat}
  {ns : List Str} {gns bns : List (Str × Value)} {n : Nat} {Q : Value → Shared → Prop}
/-- l[a:b:c] -/
theorem z_slice {value : Expr} {lower upper step : Option Expr} {p : Pos} {l : Addr} {vs : List Value} {lo hi st : Option Int}
    (q : wpAny (model prog w) A (evalPart lower env) (fun vl s₁ => wpAny (model prog w) A (evalPart upper env) (fun vu s₂ => wpAny (model prog w) A (evalPart step env) (fun vk s₃ =>
      IsPart vl lo ∧ IsPart vu hi ∧ IsPart vk st ∧ ∃ h₃ tk₃ m₃ nw₃, s₃ = ⟨h₃, g, dr, tk₃, os⟩ ∧ SF b L h₃ m₃ nw₃ ∧ h₃.IsList l vs.toArray ∧ ∀ D h', SF b L h' m₃ ((D, listOf (slicePick vs.toArray lo hi st) 0) :: nw₃) → Q (.ref D) ⟨h', g, dr, tk₃, os⟩) E s₂) E s₁) E ⟨h, g, dr, tk, os⟩) (h0 : st ≠ some 0) (hz : vs.length ≤ 1000)
    (hs : ∀ i, ∃ ops, subscripted (.Slice lower upper step p) false (.ref l) (.ref i) = operate ops (getItem (.ref l) (.ref i))) :
    wpAny (model prog w) A (eval (.Slice lower upper step p) env) (fun i s₂ => wpAny (model prog w) A (subscriptTail value (.Slice lower upper step p) (.ref l) i) Q E s₂) E ⟨h, g, dr, tk, os⟩ := by
  refine wk ?_ ?_
  · refine wpAny_Slice (wpAny_mono q (fun vl s₁ z => wpAny_mono z (fun vu s₂ z => wpAny_mono z (fun vk s₃ z => ?_) fun _ _ x => x) fun _ _ x => x) fun _ _ x => x)
    obtain ⟨pl, pu, pk, h₃, tk₃, m₃, nw₃, rfl, S, hl, q⟩ := z
    have S₁ := S.push ⟨.type "slice", none, .fields #[vl, vu, vk], #[]⟩ rfl
    have hl₁ := IsList.keeps' hl (fun a o e => Heap.get?_push_of_some (h := h₃) ⟨.type "slice", none, .fields #[vl, vu, vk], #[]⟩ e)
    obtain ⟨ops, hops⟩ := hs h₃.objs.size
    refine tail_any (s := ⟨h₃.push ⟨.type "slice", none, .fields #[vl, vu, vk], #[]⟩, g, dr, tk₃, os⟩) hl₁.typeIs slot_list_getitem.lookup ?_ hops
    refine wpAny_getItem_list_slice hl₁ (Heap.IsSliceOf.new ..) pl pu pk h0 ?_ (by rw [sizeLine_eq, List.size_toArray]; omega)
    have S₂ := S₁.push (listOf (slicePick vs.toArray lo hi st) 0) rfl
    exact q _ _ (S₂.sub (.cons_cons _ (.cons _ (.refl _))))
  kct_strs
end
/-! ### enumerate(zip(l1, l2)): zip's own tuple is handed on and not let go -/
noncomputable abbrev IsZ (h : Heap) (z TI TO : Addr) (f0 f1 : Value) : Prop :=
  h.get? z = some { cls := .type "zip", dict := none, data := .fields #[f0, f1, .bool false, .ref TI, .ref TO], slots := #[] }
section
variable {prog : Program} {w : World} {A : Around} {E : Value → Shared → Prop} {s : Shared}
theorem wpAny_alive {M : Model} {a : Addr} {Q : Option Obj → Shared → Prop} (q : Q (s.heap.get? a) s) : wpAny M A (loadIfAlive a) Q E s := fun Γ p _ => by
  unfold loadIfAlive
  rw [Sem.wp_loadIfAlive, Sem.wp_pure]
  exact q
theorem zip_free {z TI TO : Addr} {f0 f1 : Value} {Q : Bool → Shared → Prop} (hz : IsZ s.heap z TI TO f0 f1) (hf : f0 = .none ∨ ∃ n : Int, f0 = rawInt n)
    (q1 : Q true s) (q2 : ∀ h', IsZ h' z TI TO f0 (.bool true) → Heap.SameBut z s.heap h' → Q false { s with heap := h' }) : wpAny (model prog w) A (Builtin.SmallTypes.ownedTupleIsFree (.ref z)) Q E s := by
  refine wk ?_ ?_
  · unfold Builtin.SmallTypes.ownedTupleIsFree
    rcases hf with rfl | ⟨n, rfl⟩
    · exact wpAny_bind (wpAny_field hz rfl (x := .none) rfl (wpAny_pure q1))
    · refine wpAny_bind (wpAny_field hz rfl (x := rawInt n) rfl ?_)
      simp only [rawInt]
      refine wpAny_bind (wpAny_alive ?_)
      cases ha : s.heap.get? n.toNat with
      | none => exact wpAny_pure q1
      | some o =>
        simp only [Option.isNone_some, Bool.false_eq_true, if_false]
        refine wpAny_bind (wpAny_field hz rfl (x := f1) rfl ?_)
        by_cases hb : (f1 != Value.bool true) = true
        · rw [if_pos hb]
          refine wpAny_bind (wpAny_setField_rec hz (by simp) fun h' hz' hs' => wpAny_pure (q2 h' hz' hs'))
        · rw [if_neg hb]
          have e : f1 = .bool true := by simpa using hb
          subst e
          exact wpAny_pure (q2 s.heap hz ⟨rfl, fun _ _ => rfl⟩)
  kct_strs
/-- zip, from either of its two ways -/
noncomputable def ZSt (h : Heap) (z TI TO i1 i2 l1 l2 : Addr) (xs ys : Array Value) (k : Nat) : Prop :=
  (∃ f0 f1, IsZ h z TI TO f0 f1 ∧ (f0 = .none ∨ ∃ n : Int, f0 = rawInt n)) ∧ IsPair h TI (.ref i1) (.ref i2) ∧ (∃ a b, IsPair h TO a b) ∧ h.IsListIter i1 l1 k ∧ h.IsListIter i2 l2 k ∧ h.IsList l1 xs ∧ h.IsList l2 ys
theorem zipN_item {z TI TO i1 i2 l1 l2 : Addr} {k : Nat} {xs ys : Array Value} {x y : Value} {Q : Value → Shared → Prop} (D : ZipApart z TI TO i1 i2 l1 l2)
    (Z : ZSt s.heap z TI TO i1 i2 l1 l2 xs ys k) (hx : xs[k]? = some x) (hy : ys[k]? = some y)
    (hQ : ∀ h', ZSt h' z TI TO i1 i2 l1 l2 xs ys (k + 1) → IsPair h' s.heap.objs.size x y → h'.objs.size = s.heap.objs.size + 1 →
      (∀ c o, c ≠ z → c ≠ TO → c ≠ i1 → c ≠ i2 → s.heap.get? c = some o → h'.get? c = some o) → Q (.ref s.heap.objs.size) { s with heap := h' }) :
    wpAny (model prog w) A (Builtin.«zip.__next__» ⟨[.ref z], []⟩) (fun fin s' => ∃ v, fin = .done (.ret v) ∧ Q v s') E s := by
  obtain ⟨⟨f0, f1, hz, hf⟩, hTI, ⟨a, b, hTO⟩, h1, h2, hl1, hl2⟩ := Z
  show wpAny _ _ (field (.ref z) 2 >>= _) _ _ _
  refine wpAny_bind (wpAny_field hz rfl (x := .bool false) rfl ?_)
  show wpAny _ _ (field (.ref z) 3 >>= _) _ _ _
  refine wpAny_bind (wpAny_field hz rfl (x := .ref TI) rfl ?_)
  refine wpAny_bind (wpAny_seqItems hTI rfl ?_)
  show wpAny _ _ (Builtin.SmallTypes.ownedTupleIsFree (.ref z) >>= _) _ _ _
  refine wpAny_bind (zip_free hz hf ?_ fun h₀ hz₀ hs₀ => ?_)
  · simp only [if_true]
    refine wpAny_bind (wpAny_rule ?_)
    refine wpAny_bind (wpAny_field hz rfl (x := .ref TO) rfl ?_)
    refine wpAny_bind (wpAny_setField_rec hz (by simp) fun h₁ hz₁ hs₁ => ?_)
    replace hz₁ : IsZ h₁ z TI TO .ellipsis f1 := hz₁
    refine wpAny_bind ?_
    simp only [List.zipIdx_cons, List.zipIdx_nil, List.forIn_cons, List.forIn_nil]
    refine wpAny_bind (wpAny_bind (wpAny_onRaise ?_))
    show wpAny _ _ (Builtin.SmallTypes.nextOf (.ref i1) >>= _) _ _ _
    refine wpAny_bind (wpAny_nextOf_list_item (h1.extBut hs₁.extBut D.i1z) (hl1.extBut hs₁.extBut D.l1z) hx fun h₂ h1₂ hs₂ => wpAny_pure ?_)
    have hTO₂ : IsPair h₂ TO a b := hs₂.extBut _ _ D.TOi1 (hs₁.extBut _ _ D.TOz hTO)
    refine wpAny_bind (wpAny_seqItems hTO₂ rfl ?_)
    refine wpAny_bind (wpAny_updateSeq_pair hTO₂ fun h₃ hTO₃ hs₃ => ?_)
    replace hTO₃ : IsPair h₃ TO x b := hTO₃
    refine wpAny_bind (wpAny_letGo (wpAny_pure ?_))
    refine wpAny_bind (wpAny_bind (wpAny_onRaise ?_))
    show wpAny _ _ (Builtin.SmallTypes.nextOf (.ref i2) >>= _) _ _ _
    refine wpAny_bind (wpAny_nextOf_list_item (((h2.extBut hs₁.extBut D.i2z).extBut hs₂.extBut D.i12.symm).extBut hs₃.extBut D.TOi2.symm)
      (((hl2.extBut hs₁.extBut D.l2z).extBut hs₂.extBut D.l2i1).extBut hs₃.extBut D.l2TO) hy fun h₄ h2₄ hs₄ => wpAny_pure ?_)
    have hTO₄ : IsPair h₄ TO x b := hs₄.extBut _ _ D.TOi2 hTO₃
    refine wpAny_bind (wpAny_seqItems hTO₄ rfl ?_)
    refine wpAny_bind (wpAny_updateSeq_pair hTO₄ fun h₅ hTO₅ hs₅ => ?_)
    replace hTO₅ : IsPair h₅ TO x y := hTO₅
    refine wpAny_bind (wpAny_letGo (wpAny_pure (wpAny_pure ?_)))
    refine wpAny_bind (wpAny_seqItems hTO₅ rfl ?_)
    refine wpAny_bind (wpAny_newTuple ?_)
    have hsz : h₅.objs.size = s.heap.objs.size := by rw [hs₅.1, hs₄.1, hs₃.1, hs₂.1, hs₁.1]
    have hz₅ : IsZ h₅ z TI TO .ellipsis f1 := hs₅.extBut _ _ D.TOz.symm (hs₄.extBut _ _ D.i2z.symm (hs₃.extBut _ _ D.TOz.symm (hs₂.extBut _ _ D.i1z.symm hz₁)))
    have hk₅ : ∀ c o, c ≠ z → c ≠ TO → c ≠ i1 → c ≠ i2 → s.heap.get? c = some o → h₅.get? c = some o := fun c o c1 c2 c3 c4 e =>
      hs₅.extBut _ _ c2 (hs₄.extBut _ _ c4 (hs₃.extBut _ _ c2 (hs₂.extBut _ _ c3 (hs₁.extBut _ _ c1 e))))
    have h1₅ : h₅.IsListIter i1 l1 (k + 1) := ((h1₂.extBut hs₃.extBut D.TOi1.symm).extBut hs₄.extBut D.i12).extBut hs₅.extBut D.TOi1.symm
    have h2₅ : h₅.IsListIter i2 l2 (k + 1) := h2₄.extBut hs₅.extBut D.TOi2.symm
    have hzlt : z < h₅.objs.size := Heap.lt_size hz₅
    show wpAny _ _ (Builtin.SmallTypes.ownedTupleHandOut (.ref z) (.ref h₅.objs.size) >>= _) _ _ _
    refine wpAny_bind ?_
    unfold Builtin.SmallTypes.ownedTupleHandOut
    have hz₆ : IsZ (h₅.push { cls := .type "tuple", data := .seq #[x, y] }) z TI TO .ellipsis f1 := Heap.get?_push_of_some _ hz₅
    refine wpAny_bind (wpAny_setField_rec hz₆ (by simp) fun h₇ hz₇ hs₇ => ?_)
    replace hz₇ : IsZ h₇ z TI TO (rawInt h₅.objs.size) f1 := hz₇
    refine wpAny_setField_rec hz₇ (by simp) fun h₈ hz₈ hs₈ => ?_
    replace hz₈ : IsZ h₈ z TI TO (rawInt h₅.objs.size) (.bool false) := hz₈
    have up : ∀ c o, c ≠ z → h₅.get? c = some o → h₈.get? c = some o := fun c o c1 e => hs₈.extBut _ _ c1 (hs₇.extBut _ _ c1 (Heap.get?_push_of_some _ e))
    have hT₈ : IsPair h₈ h₅.objs.size x y := hs₈.extBut _ _ (Nat.ne_of_gt hzlt) (hs₇.extBut _ _ (Nat.ne_of_gt hzlt) (Heap.get?_push_size _ rfl))
    have hz8 : h₈.objs.size = h₅.objs.size + 1 := by rw [hs₈.1, hs₇.1, Heap.size_push]
    rw [hsz] at hT₈ hz8
    refine wpAny_pure ⟨_, rfl, ?_⟩
    show Q (.ref h₅.objs.size) _
    rw [hsz]
    have hall : ∀ c o, c ≠ z → c ≠ TO → c ≠ i1 → c ≠ i2 → s.heap.get? c = some o → h₈.get? c = some o := fun c o c1 c2 c3 c4 e => up c o c1 (hk₅ c o c1 c2 c3 c4 e)
    exact hQ h₈ ⟨⟨_, _, hz₈, .inr ⟨_, rfl⟩⟩, hall _ _ D.TIz D.TITO D.TIi1 D.TIi2 hTI, ⟨x, y, up _ _ D.TOz hTO₅⟩, h1₅.at fun o e => up _ o D.i1z e, h2₅.at fun o e => up _ o D.i2z e,
      hl1.at fun o e => hall _ o D.l1z D.l1TO D.l1i1 D.l1i2 e, hl2.at fun o e => hall _ o D.l2z D.l2TO D.l2i1 D.l2i2 e⟩ hT₈ hz8 hall
  · simp only [Bool.false_eq_true, if_false]
    refine wpAny_bind ?_
    rw [← Array.forIn_toList]
    simp only [List.forIn_cons, List.forIn_nil]
    refine wpAny_bind (wpAny_bind (wpAny_holding ?_))
    show wpAny _ _ (Builtin.SmallTypes.nextOf (.ref i1) >>= _) _ _ _
    refine wpAny_bind (wpAny_nextOf_list_item (h1.extBut hs₀.extBut D.i1z) (hl1.extBut hs₀.extBut D.l1z) hx fun h₂ h1₂ hs₂ => wpAny_pure (wpAny_pure ?_))
    refine wpAny_bind (wpAny_bind (wpAny_holding ?_))
    show wpAny _ _ (Builtin.SmallTypes.nextOf (.ref i2) >>= _) _ _ _
    refine wpAny_bind (wpAny_nextOf_list_item ((h2.extBut hs₀.extBut D.i2z).extBut hs₂.extBut D.i12.symm) ((hl2.extBut hs₀.extBut D.l2z).extBut hs₂.extBut D.l2i1) hy fun h₃ h2₃ hs₃ => wpAny_pure (wpAny_pure ?_))
    refine wpAny_pure ?_
    show wpAny _ _ (newTuple [x, y] >>= fun v => ret v) _ _ _
    refine wpAny_bind (wpAny_newTuple (wpAny_pure ⟨_, rfl, ?_⟩))
    have hsz : h₃.objs.size = s.heap.objs.size := by rw [hs₃.1, hs₂.1]; exact hs₀.1
    have hall : ∀ c o, c ≠ z → c ≠ TO → c ≠ i1 → c ≠ i2 → s.heap.get? c = some o → (h₃.push { cls := .type "tuple", data := .seq #[x, y] }).get? c = some o := fun c o c1 c2 c3 c4 e =>
      Heap.get?_push_of_some _ (hs₃.extBut _ _ c4 (hs₂.extBut _ _ c3 (hs₀.extBut _ _ c1 e)))
    have hz₃ : IsZ (h₃.push { cls := .type "tuple", data := .seq #[x, y] }) z TI TO f0 (.bool true) := Heap.get?_push_of_some _ (hs₃.extBut _ _ D.i2z.symm (hs₂.extBut _ _ D.i1z.symm hz₀))
    show Q (.ref h₃.objs.size) _
    rw [hsz]
    refine hQ _ ⟨⟨_, _, hz₃, hf⟩, hall _ _ D.TIz D.TITO D.TIi1 D.TIi2 hTI, ⟨a, b, Heap.get?_push_of_some _ (hs₃.extBut _ _ D.TOi2 (hs₂.extBut _ _ D.TOi1 (hs₀.extBut _ _ D.TOz hTO)))⟩,
      (h1₂.extBut hs₃.extBut D.i12).at fun o e => Heap.get?_push_of_some _ e, h2₃.at fun o e => Heap.get?_push_of_some _ e,
      hl1.at fun o e => hall _ o D.l1z D.l1TO D.l1i1 D.l1i2 e, hl2.at fun o e => hall _ o D.l2z D.l2TO D.l2i1 D.l2i2 e⟩ ?_ (by rw [Heap.size_push, hsz]) hall
    have := Heap.get?_push_size h₃ (o := { cls := .type "tuple", data := .seq #[x, y] }) rfl
    rw [hsz] at this; exact this
theorem zipN_end {z TI TO i1 i2 l1 l2 : Addr} {k : Nat} {xs ys : Array Value} {Q : Fin → Shared → Prop} (hh : A.handled = none) (D : ZipApart z TI TO i1 i2 l1 l2)
    (Z : ZSt s.heap z TI TO i1 i2 l1 l2 xs ys k) (hx : xs[k]? = none)
    (hE : ∀ h' e, (∀ c o, c ≠ z → c ≠ TO → c ≠ i1 → c ≠ i2 → s.heap.get? c = some o → h'.get? c = some o) → (∃ o, h'.get? e = some o ∧ o.cls = .type "StopIteration") → E (.ref e) { s with heap := h' }) :
    wpAny (model prog w) A (Builtin.«zip.__next__» ⟨[.ref z], []⟩) Q E s := by
  obtain ⟨⟨f0, f1, hz, hf⟩, hTI, ⟨a, b, hTO⟩, h1, h2, hl1, hl2⟩ := Z
  show wpAny _ _ (field (.ref z) 2 >>= _) _ _ _
  refine wpAny_bind (wpAny_field hz rfl (x := .bool false) rfl ?_)
  show wpAny _ _ (field (.ref z) 3 >>= _) _ _ _
  refine wpAny_bind (wpAny_field hz rfl (x := .ref TI) rfl ?_)
  refine wpAny_bind (wpAny_seqItems hTI rfl ?_)
  show wpAny _ _ (Builtin.SmallTypes.ownedTupleIsFree (.ref z) >>= _) _ _ _
  refine wpAny_bind (zip_free hz hf ?_ fun h₀ hz₀ hs₀ => ?_)
  · simp only [if_true]
    refine wpAny_bind (wpAny_rule ?_)
    refine wpAny_bind (wpAny_field hz rfl (x := .ref TO) rfl ?_)
    refine wpAny_bind (wpAny_setField_rec hz (by simp) fun h₁ hz₁ hs₁ => ?_)
    replace hz₁ : IsZ h₁ z TI TO .ellipsis f1 := hz₁
    refine wpAny_bind ?_
    simp only [List.zipIdx_cons, List.zipIdx_nil, List.forIn_cons, List.forIn_nil]
    refine wpAny_bind (wpAny_bind (wpAny_onRaise ?_))
    show wpAny _ _ (Builtin.SmallTypes.nextOf (.ref i1) >>= _) _ _ _
    refine wpAny_bind (wpAny_nextOf_list_end hh (h1.extBut hs₁.extBut D.i1z) (hl1.extBut hs₁.extBut D.l1z) hx fun h₂ e hs₂ he => ?_)
    obtain ⟨oe, hoe, hce⟩ := he
    have hz₂ : IsZ h₂ z TI TO .ellipsis f1 := hs₂ _ _ D.i1z.symm hz₁
    have hez : e ≠ z := fun x => by subst x; rw [hz₂] at hoe; cases hoe; simp at hce
    refine wpAny_setField_rec hz₂ (by simp) fun h₃ _ hs₃ => hE h₃ e (fun c o c1 _ c3 _ x => hs₃.extBut _ _ c1 (hs₂ _ _ c3 (hs₁.extBut _ _ c1 x))) ⟨oe, hs₃.extBut _ _ hez hoe, hce⟩
  · simp only [Bool.false_eq_true, if_false]
    refine wpAny_bind ?_
    rw [← Array.forIn_toList]
    simp only [List.forIn_cons, List.forIn_nil]
    refine wpAny_bind (wpAny_bind (wpAny_holding ?_))
    show wpAny _ _ (Builtin.SmallTypes.nextOf (.ref i1) >>= _) _ _ _
    refine wpAny_bind (wpAny_nextOf_list_end hh (h1.extBut hs₀.extBut D.i1z) (hl1.extBut hs₀.extBut D.l1z) hx fun h₂ e hs₂ he => ?_)
    exact hE h₂ e (fun c o c1 _ c3 _ x => hs₂ _ _ c3 (hs₀.extBut _ _ c1 x)) he
/-! enumerate over whatever draws -/
theorem nextOf_zip {z : Addr} {o : Obj} {Q : Value → Shared → Prop} (ho : s.heap.get? z = some o) (hc : o.cls = .type "zip")
    (h : wpAny (model prog w) A.in1 (Builtin.«zip.__next__» ⟨[.ref z], []⟩) (fun fin s' => ∃ v, fin = .done (.ret v) ∧ Q v s') E s) : wpAny (model prog w) A (Builtin.SmallTypes.nextOf (.ref z)) Q E s := by
  refine wk ?_ ?_
  · have hT : s.TypeIs (.ref z) "zip" := ⟨_, ho, hc⟩
    unfold Builtin.SmallTypes.nextOf
    refine wpAny_bind (wpAny_callSpecial?_slot (name := Str.ofString "__next__") hT F.slot_zip_next (wpAny_call_entry F.slot_zip_next hT F.entry_zip_next ?_ (F.args_zip_next_1 _)))
    refine wpAny_mono h ?_ (fun _ _ x => x)
    rintro fin s' ⟨v, e, hq⟩
    exact ⟨v, e, wpAny_pure hq⟩
  kct_strs
structure EApart (e z TI TO i1 i2 l1 l2 : Addr) : Prop where
  z : e ≠ z
  TI : e ≠ TI
  TO : e ≠ TO
  i1 : e ≠ i1
  i2 : e ≠ i2
  l1 : e ≠ l1
  l2 : e ≠ l2
theorem ZSt.but {h h' : Heap} {e z TI TO i1 i2 l1 l2 : Addr} {xs ys : Array Value} {k : Nat} (Z : ZSt h z TI TO i1 i2 l1 l2 xs ys k) (H : EApart e z TI TO i1 i2 l1 l2) (k' : ∀ c o, c ≠ e → h.get? c = some o → h'.get? c = some o) : ZSt h' z TI TO i1 i2 l1 l2 xs ys k := by
  obtain ⟨⟨f0, f1, hz, hf⟩, hTI, ⟨a, b, hTO⟩, h1, h2, hl1, hl2⟩ := Z
  exact ⟨⟨f0, f1, k' _ _ H.z.symm hz, hf⟩, k' _ _ H.TI.symm hTI, ⟨a, b, k' _ _ H.TO.symm hTO⟩, h1.at fun o x => k' _ o H.i1.symm x, h2.at fun o x => k' _ o H.i2.symm x, hl1.at fun o x => k' _ o H.l1.symm x, hl2.at fun o x => k' _ o H.l2.symm x⟩
theorem enumZ_item {e z TI TO i1 i2 l1 l2 : Addr} {i : Nat} {xs ys : Array Value} {x y old : Value} {Q : Value → Shared → Prop} (D : ZipApart z TI TO i1 i2 l1 l2) (H : EApart e z TI TO i1 i2 l1 l2)
    (he : IsEnum s.heap e z i old) (Z : ZSt s.heap z TI TO i1 i2 l1 l2 xs ys i) (hx : xs[i]? = some x) (hy : ys[i]? = some y)
    (hQ : ∀ T T2 h' t tk, IsEnumOut h' e z ((i : Int) + 1) (.ref T2) T → ZSt h' z TI TO i1 i2 l1 l2 xs ys (i + 1) → IsPair h' T2 x y → IsPair h' T (.int i t) (.ref T2) → s.heap.objs.size ≤ T →  s.heap.objs.size ≤ T2 →
      (∀ c o, c ≠ e → c ≠ z → c ≠ TO → c ≠ i1 → c ≠ i2 → s.heap.get? c = some o → h'.get? c = some o) → Q (.ref T) { s with heap := h', toks := tk }) :
    wpAny (model prog w) A (Builtin.«enumerate.__next__» ⟨[.ref e], []⟩) (fun fin s' => ∃ v, fin = .done (.ret v) ∧ Q v s') E s := by
  obtain ⟨hp, g, d, tk₀, os⟩ := s
  show wpAny _ _ (field (.ref e) 2 >>= _) _ _ _
  refine wpAny_bind (wpAny_field he rfl (x := .ref z) rfl ?_)
  obtain ⟨_, _, hz, _⟩ := id Z.1
  refine wpAny_bind (nextOf_zip hz rfl (zipN_item D Z hx hy fun h₁ Z₁ hT₁ hz₁ hs₁ => ?_))
  dsimp only at hs₁ hz₁ hT₁ Z ⊢
  have he₁ : IsEnum h₁ e z i old := hs₁ e _ H.z H.TO H.i1 H.i2 he
  have hel : e < hp.objs.size := Heap.lt_size he
  show wpAny _ _ (field (.ref e) 3 >>= _) _ _ ⟨h₁, g, d, tk₀, os⟩
  refine wpAny_bind (wpAny_field he₁ rfl (x := rawInt i) rfl ?_)
  show wpAny _ _ (field (.ref e) 4 >>= _) _ _ ⟨h₁, g, d, tk₀, os⟩
  refine wpAny_bind (wpAny_field he₁ rfl (x := .none) rfl ?_)
  show wpAny _ _ (mkInt i >>= _) _ _ ⟨h₁, g, d, tk₀, os⟩
  refine wpAny_bind (wpAny_mkInt ?_)
  show wpAny _ _ (setField (.ref e) 3 (rawInt ((i : Int) + 1)) >>= _) _ _ ⟨h₁, g, d, tk₀ + 1, os⟩
  refine wpAny_bind (wpAny_setField_rec he₁ (by simp) fun h₂ he₂ hs₂ => ?_)
  replace hs₂ : Heap.SameBut e h₁ h₂ := hs₂
  replace he₂ : IsEnum h₂ e z ((i : Int) + 1) old := he₂
  show wpAny _ _ (setField (.ref e) 4 .none >>= _) _ _ ⟨h₂, g, d, tk₀ + 1, os⟩
  refine wpAny_bind (wpAny_setField_rec he₂ (by simp) fun h₃ he₃ hs₃ => ?_)
  replace hs₃ : Heap.SameBut e h₂ h₃ := hs₃
  replace he₃ : IsEnum h₃ e z ((i : Int) + 1) old := he₃
  show wpAny _ _ (newTuple [.int i tk₀, .ref hp.objs.size] >>= _) _ _ ⟨h₃, g, d, tk₀ + 1, os⟩
  refine wpAny_bind (wpAny_newTuple ?_)
  have he₄ : IsEnum (h₃.push { cls := .type "tuple", data := .seq #[.int i tk₀, .ref hp.objs.size] }) e z ((i : Int) + 1) old := Heap.get?_push_of_some _ he₃
  generalize hh₄ : h₃.push { cls := .type "tuple", data := .seq #[.int i tk₀, .ref hp.objs.size] } = h₄ at he₄
  have hsz : h₃.objs.size = hp.objs.size + 1 := by rw [hs₃.1, hs₂.1, hz₁]
  have ht₄ : IsPair h₄ (hp.objs.size + 1) (.int i tk₀) (.ref hp.objs.size) := by
    have := Heap.get?_push_size h₃ (o := { cls := .type "tuple", data := .seq #[.int i tk₀, .ref hp.objs.size] }) rfl
    rw [hh₄, hsz] at this; exact this
  have k₄ : ∀ c o, c ≠ e → h₁.get? c = some o → h₄.get? c = some o := fun c o hc x => by
    rw [← hh₄]; exact Heap.get?_push_of_some _ (hs₃.extBut c o hc (hs₂.extBut c o hc x))
  show wpAny _ _ (Builtin.SmallTypes.ownedTupleIsFree (.ref e) >>= _) _ _ ⟨h₄, g, d, tk₀ + 1, os⟩
  rw [hsz]
  refine wpAny_bind ?_
  unfold Builtin.SmallTypes.ownedTupleIsFree
  refine wpAny_bind (wpAny_field he₄ rfl (x := .none) rfl (wpAny_pure ?_))
  simp only [if_true]
  refine wpAny_bind (wpAny_rule ?_)
  refine wpAny_bind (wpAny_field he₄ rfl (x := old) rfl ?_)
  refine wpAny_bind (wpAny_setField_rec he₄ (by simp) fun h₅ he₅ hs₅ => ?_)
  replace hs₅ : Heap.SameBut e h₄ h₅ := hs₅
  replace he₅ : IsEnum h₅ e z ((i : Int) + 1) (.ref hp.objs.size) := he₅
  show wpAny _ _ (Builtin.SmallTypes.ownedTupleHandOut (.ref e) (.ref (hp.objs.size + 1)) >>= _) _ _ ⟨h₅, g, d, tk₀ + 1, os⟩
  refine wpAny_bind ?_
  unfold Builtin.SmallTypes.ownedTupleHandOut
  refine wpAny_bind (wpAny_setField_rec he₅ (by simp) fun h₆ he₆ hs₆ => ?_)
  replace hs₆ : Heap.SameBut e h₅ h₆ := hs₆
  replace he₆ : IsEnumOut h₆ e z ((i : Int) + 1) (.ref hp.objs.size) (hp.objs.size + 1) := he₆
  refine wpAny_setField_rec he₆ (by simp) fun h₇ he₇ hs₇ => ?_
  replace hs₇ : Heap.SameBut e h₆ h₇ := hs₇
  replace he₇ : IsEnumOut h₇ e z ((i : Int) + 1) (.ref hp.objs.size) (hp.objs.size + 1) := he₇
  have k7 : ∀ c o, c ≠ e → h₄.get? c = some o → h₇.get? c = some o := fun c o hc x => hs₇.extBut _ _ hc (hs₆.extBut _ _ hc (hs₅.extBut _ _ hc x))
  refine wpAny_bind (wpAny_letGo (wpAny_pure ⟨_, rfl, hQ _ _ h₇ tk₀ _ he₇ (Z₁.but H fun c o hc x => k7 c o hc (k₄ c o hc x)) (k7 _ _ (Nat.ne_of_gt hel) (k₄ _ _ (Nat.ne_of_gt hel) hT₁)) (k7 _ _ (Nat.ne_of_gt (Nat.lt_succ_of_lt hel)) ht₄) (Nat.le_succ _) (Nat.le_refl _) ?_⟩))
  exact fun c o c1 c2 c3 c4 c5 x => k7 c o c1 (k₄ c o c1 (hs₁ c o c2 c3 c4 c5 x))
theorem enumZ_pyNext {e z TI TO i1 i2 l1 l2 : Addr} {i : Nat} {xs ys : Array Value} {x y old : Value} {Q : Option Value → Shared → Prop} (D : ZipApart z TI TO i1 i2 l1 l2) (H : EApart e z TI TO i1 i2 l1 l2)
    (he : IsEnum s.heap e z i old) (Z : ZSt s.heap z TI TO i1 i2 l1 l2 xs ys i) (hx : xs[i]? = some x) (hy : ys[i]? = some y)
    (hQ : ∀ T T2 h' t tk, IsEnumOut h' e z ((i : Int) + 1) (.ref T2) T → ZSt h' z TI TO i1 i2 l1 l2 xs ys (i + 1) → IsPair h' T2 x y → IsPair h' T (.int i t) (.ref T2) → s.heap.objs.size ≤ T →  s.heap.objs.size ≤ T2 →
      (∀ c o, c ≠ e → c ≠ z → c ≠ TO → c ≠ i1 → c ≠ i2 → s.heap.get? c = some o → h'.get? c = some o) → Q (some (.ref T)) { s with heap := h', toks := tk }) :
    wpAny (model prog w) A (pyNext (.ref e)) Q E s := by
  have hT : s.TypeIs (.ref e) "enumerate" := ⟨_, he, rfl⟩
  unfold pyNext
  exact wpAny_bind (wpAny_attempt (wpAny_callSpecial?_slot (name := Str.ofString "__next__") hT F.slot_enumerate_next
    (wpAny_call_entry F.slot_enumerate_next hT F.entry_enumerate_next
      (enumZ_item D H he Z hx hy fun T T2 h' t tk a b c d k l q => wpAny_pure (hQ T T2 h' t tk a b c d k l q)) (F.args_enumerate_next_1 _))))
theorem enumZ_done {e z TI TO i1 i2 l1 l2 : Addr} {i : Nat} {xs ys : Array Value} {old : Value} {Q : Option Value → Shared → Prop} (hh : A.handled = none) (D : ZipApart z TI TO i1 i2 l1 l2)
    (he : IsEnum s.heap e z i old) (Z : ZSt s.heap z TI TO i1 i2 l1 l2 xs ys i) (hx : xs[i]? = none)
    (hQ : ∀ h', (∀ c o, c ≠ z → c ≠ TO → c ≠ i1 → c ≠ i2 → s.heap.get? c = some o → h'.get? c = some o) → Q none { s with heap := h' }) : wpAny (model prog w) A (pyNext (.ref e)) Q E s := by
  refine wk ?_ ?_
  · have hT : s.TypeIs (.ref e) "enumerate" := ⟨_, he, rfl⟩
    unfold pyNext
    refine wpAny_bind (wpAny_attempt (wpAny_callSpecial?_slot (name := Str.ofString "__next__") hT F.slot_enumerate_next
      (wpAny_call_entry F.slot_enumerate_next hT F.entry_enumerate_next ?_ (F.args_enumerate_next_1 _))))
    show wpAny _ _ (field (.ref e) 2 >>= _) _ _ _
    refine wpAny_bind (wpAny_field he rfl (x := .ref z) rfl ?_)
    obtain ⟨_, _, hz, _⟩ := id Z.1
    refine wpAny_bind (nextOf_zip hz rfl (zipN_end hh D Z hx fun h' x hk hx' => ?_))
    obtain ⟨o, ho, hc⟩ := hx'
    refine wpAny_bind (wpAny_isInstance (T := "StopIteration") (b := true) ⟨o, ho, hc⟩ isSubtype_stop ?_)
    exact wpAny_pure (hQ _ hk)
  kct_strs
theorem meets_enumerate_newZ (z : Addr) (o : Obj) (hc : o.cls = .type "zip") :
    Meets (Builtin.«enumerate.__new__» ⟨[.type "enumerate", .ref z], []⟩) (fun _ R s => s.heap.get? z = some o ∧
      R (.ok (.ret (.ref s.heap.objs.size))) { s with heap := s.heap.push { cls := .type "enumerate", data := .fields #[.none, .bool false, .ref z, rawInt 0, .none, .none] } }) :=
  .of_wp fun prog w A R s h => by
    obtain ⟨hp, g, d, tk, os⟩ := s; obtain ⟨hz, h⟩ := h
    have hsub := sub_enumerate
    have hT : Shared.TypeIs ⟨hp, g, d, tk, os⟩ (.ref z) "zip" := ⟨_, hz, hc⟩
    have hI : ∀ {A : Around} {E : Value → Shared → Prop} {Q : Value → Shared → Prop}, Q (.ref z) ⟨hp, g, d, tk, os⟩ → wpAny (model prog w) A (pyIter (.ref z)) Q E ⟨hp, g, d, tk, os⟩ := fun {A E Q} hq => by
      refine wpAny_pyIter_slot hT F.slot_zip_iter (wpAny_call_entry F.slot_zip_iter hT F.entry_zip_iter ?_ (F.args_zip_iter_1 _))
      show wpAny _ _ (ret (.ref z)) _ _ _
      exact wpAny_pure ⟨_, rfl, "zip", _, hT, F.slot_zip_next.lookup, hq⟩
    obtain ⟨c, dct, dt, sl⟩ := o
    replace hc : c = .type "zip" := hc
    subst hc
    wp_walk using AutoSeq1.wpAny_loadPart' hz
    refine wpAny_stack_any fun st => wpAny_pure ?_
    split
    · rename_i c _ _ _ _ _
      cases (c == Value.type "enumerate")
      · wp_walk using AutoSeq1.wpAny_loadPart' hz, hI
        exact ⟨_, rfl, h⟩
      · wp_walk using AutoSeq1.wpAny_loadPart' hz, hI
        exact ⟨_, rfl, h⟩
    · wp_walk using AutoSeq1.wpAny_loadPart' hz, hI
      exact ⟨_, rfl, h⟩
theorem call_enumerate_zip {z : Addr} {o : Obj} {Q : Value → Shared → Prop} (hz : s.heap.get? z = some o) (hc : o.cls = .type "zip")
    (h : ∀ h', IsEnum h' s.heap.objs.size z 0 .none → h'.objs.size = s.heap.objs.size + 1 →
      (∀ b o, s.heap.get? b = some o → h'.get? b = some o) → Q (.ref s.heap.objs.size) { s with heap := h' }) :
    wpAny (model prog w) A (call (.type "enumerate") [.ref z]) Q E s := by
  refine callType_new F.called_enumerate (by decide) (F.typeCall_enumerate_1 _) (F.newCall_enumerate_1 _) (fun obj => F.args_object_init_2 obj _) F.entry_enumerate_new
    (meets_enumerate_newZ z o hc) ⟨hz, ?_⟩
  have he := Heap.get?_push_size s.heap (o := { cls := .type "enumerate", data := .fields #[.none, .bool false, .ref z, rawInt 0, .none, .none] }) rfl
  exact ⟨⟨_, he, rfl⟩, h _ he (Heap.size_push ..) fun b o x => Heap.get?_push_of_some _ x⟩
end
section
variable {prog : Program} {w : World} {A : Around} {E : Value → Shared → Prop} {K : Frag} {b h : Heap} {L : Addr} {m : Str → Option Value} {nw nw' : List (Addr × Obj)} {g : Array GenState} {dr : Drawn} {tk : Nat} {os : OsState} {env : Env} {pos : Pos}
  {ns : List Str} {gns bns : List (Str × Value)} {n : Nat}
theorem SF.add {a : Addr} {o : Obj} (S : SF b L h m nw) (ha : h.get? a = some o) (hL : a ≠ L) (hb : b.get? a = none) (hn : a ∉ nw.map (·.1)) : SF b L h m ((a, o) :: nw) :=
  ⟨S.fr, fun p hp => by
    rcases List.mem_cons.mp hp with rfl | hp
    · exact ⟨ha, hL, hb⟩
    · exact S.news p hp, by simp only [List.map_cons, List.nodup_cons]; exact ⟨hn, S.nd⟩⟩
theorem Src.enumZ {x y v : Str} {px py pv p2 tpos : Pos} {k1 k2 i₀ j₀ k₀ : Nat} {C : Addr} {e z TI TO i1 i2 l1 l2 : Addr} {xs ys : Array Value} (hh : A.handled = none) (D : ZipApart z TI TO i1 i2 l1 l2) (H : EApart e z TI TO i1 i2 l1 l2)
    (V : EV K env C ns gns bns) (hx : IxAt ns x i₀) (hy : IxAt ns y j₀) (hv : IxAt ns v k₀) (hsz : xs.size = ys.size) (hfp : ∀ c ∈ [e, z, TI, TO, i1, i2, l1, l2], c ∈ [e, z, TI, TO, i1, i2] ∨ ∃ o, b.get? c = some o) :
    Src prog w A b env C ns e [e, z, TI, TO, i1, i2, l1, l2] [e, z, TI, TO, i1, i2] xs.size (.Tuple [.Name x px, .Tuple [.Name y py, .Name v pv] k2 p2] k1 tpos)
      (fun i h => (∃ old, IsEnum h e z i old) ∧ ZSt h z TI TO i1 i2 l1 l2 xs ys i)
      (fun i f f' => ∃ t vx vy, xs[i]? = some vx ∧ ys[i]? = some vy ∧ f' = up (up (up f i₀ (.int (i : Nat) t)) j₀ vx) k₀ vy) := by
  refine wk ?_ ?_
  · have frame : ∀ (i : Nat) (h h' : Heap), ((∃ old, IsEnum h e z i old) ∧ ZSt h z TI TO i1 i2 l1 l2 xs ys i) → (∀ c ∈ [e, z, TI, TO, i1, i2, l1, l2], ∀ o, h.get? c = some o → h'.get? c = some o) → ((∃ old, IsEnum h' e z i old) ∧ ZSt h' z TI TO i1 i2 l1 l2 xs ys i) := by
      rintro i h h' ⟨⟨old, he⟩, ⟨f0, f1, hz, hf⟩, hTI, ⟨a, b, hTO⟩, h1, h2, hl1, hl2⟩ kp
      exact ⟨⟨old, kp _ (by kcj_m) _ he⟩, ⟨f0, f1, kp _ (by kcj_m) _ hz, hf⟩, kp _ (by kcj_m) _ hTI, ⟨a, b, kp _ (by kcj_m) _ hTO⟩, h1.at fun o x => kp _ (by kcj_m) o x, h2.at fun o x => kp _ (by kcj_m) o x, hl1.at fun o x => kp _ (by kcj_m) o x, hl2.at fun o x => kp _ (by kcj_m) o x⟩
    have liveZ : ∀ (i : Nat) (h : Heap), ZSt h z TI TO i1 i2 l1 l2 xs ys i → ∀ c ∈ [z, TI, TO, i1, i2], ∃ o, h.get? c = some o := by
      rintro i h ⟨⟨f0, f1, hz, hf⟩, hTI, ⟨a, b, hTO⟩, ⟨o1, h1, _⟩, ⟨o2, h2, _⟩, hl1, hl2⟩ c hc
      simp only [List.mem_cons, List.not_mem_nil, or_false] at hc
      rcases hc with rfl | rfl | rfl | rfl | rfl
      · exact ⟨_, hz⟩
      · exact ⟨_, hTI⟩
      · exact ⟨_, hTO⟩
      · exact ⟨_, h1⟩
      · exact ⟨_, h2⟩
    refine ⟨frame, fun i h hs c hc => ?_, ?_, ?_, ?_⟩
    · rcases List.mem_cons.mp hc with rfl | hc
      · obtain ⟨_, he⟩ := hs.1; exact ⟨_, he⟩
      · exact liveZ i h hs.2 c hc
    · rintro i h f nw own g dr tk os Q hi ⟨⟨old, he⟩, Z⟩ S ho q
      have hxi : xs[i]? = some xs[i] := Array.getElem?_eq_getElem hi
      have hyi : ys[i]? = some (ys[i]'(hsz ▸ hi)) := Array.getElem?_eq_getElem (hsz ▸ hi)
      refine enumZ_pyNext D H he Z hxi hyi fun T T2 h₂ t tk₂ he₂ Z₂ hT2 hT hT1 hT3 hk => ?_
      dsimp only at hT1 hT3 ⊢
      obtain ⟨own₂, e₂, S₂⟩ := S.own' (h' := h₂) ho (fun c o hc x => hk c o (fun z => hc (z ▸ (by kcj_m))) (fun z => hc (z ▸ (by kcj_m))) (fun z => hc (z ▸ (by kcj_m))) (fun z => hc (z ▸ (by kcj_m))) (fun z => hc (z ▸ (by kcj_m))) x) (fun c hc => by
        rcases List.mem_cons.mp hc with rfl | hc
        · exact ⟨_, he₂⟩
        · exact liveZ _ _ Z₂ c hc)
      have hCl : C < h.objs.size := by obtain ⟨_, _, _, z, _⟩ := S.fr.ns; exact Heap.lt_size z
      have hb2 : ∀ c, h.objs.size ≤ c → b.get? c = none := fun c hc => by
        cases z : b.get? c with
        | none => rfl
        | some o => exact absurd (Heap.lt_size (S.keep _ _ z)) (Nat.not_lt.mpr hc)
      have hm : ∀ c, h.objs.size ≤ c → c ∉ (nw ++ own₂).map (·.1) := fun c hc hm => by
        rw [List.map_append, e₂, ← ho, ← List.map_append] at hm
        obtain ⟨p, hp, rfl⟩ := List.mem_map.mp hm
        exact absurd (S.lt p hp) (Nat.not_lt.mpr hc)
      have S₃ := S₂.add hT2 (Nat.ne_of_gt (Nat.lt_of_lt_of_le hCl hT3)) (hb2 _ hT3) (hm _ hT3)
      have heT : e < h.objs.size := Heap.lt_size he
      refine wpAny_letOwnedTupleGo_enum he₂ fun h₄ he₄ hs₄ => ?_
      have k4 : ∀ c o, c ≠ e → h₂.get? c = some o → h₄.get? c = some o := fun c o hc x => hs₄.extBut c o hc x
      obtain ⟨own₄, e₄, S₄⟩ := S₃.own' (nw := (T2, _) :: nw) (h' := h₄) e₂ (fun c o hc x => k4 c o (fun z => hc (z ▸ (by kcj_m))) x) (fun c hc => by
        rcases List.mem_cons.mp hc with rfl | hc
        · exact ⟨_, he₄⟩
        · obtain ⟨o, ho⟩ := liveZ _ _ Z₂ c hc
          refine ⟨o, k4 _ _ ?_ ho⟩
          simp only [List.mem_cons, List.not_mem_nil, or_false] at hc
          rcases hc with rfl | rfl | rfl | rfl | rfl
          · exact H.z.symm
          · exact H.TI.symm
          · exact H.TO.symm
          · exact H.i1.symm
          · exact H.i2.symm)
      have hT4 : IsTup h₄ T #[.int i t, .ref T2] := ⟨_, k4 _ _ (Nat.ne_of_gt (Nat.lt_of_lt_of_le heT hT1)) hT, rfl, _, rfl⟩
      have Z₄ := Z₂.but H k4
      refine assign_Tuple_tuple (s := ⟨h₄, g, dr, tk₂, os⟩) hh hT4 rfl rfl fun h₅ hx₅ => ?_
      have k5 : ∀ c o, h₄.get? c = some o → h₅.get? c = some o := fun c o x => hx₅ c o (Nat.ne_of_lt (Heap.lt_size x)) x
      have S₅ := S₄.keeps k5
      refine assignInOrder_cons (PyProof.Rows.assign_Name (z_store V S₅ hx fun h₆ tk₆ S₆ => ?_))
      refine assignInOrder_cons ?_
      refine assign_Tuple_tuple (x1 := k2) (s := ⟨h₆, g, dr, tk₆, os⟩) hh (S₆.tup .head) rfl rfl fun h₇ hx₇ => ?_
      have k7 : ∀ c o, h₆.get? c = some o → h₇.get? c = some o := fun c o x => hx₇ c o (Nat.ne_of_lt (Heap.lt_size x)) x
      refine assignInOrder_cons (PyProof.Rows.assign_Name (z_store V (S₆.keeps k7) hy fun h₈ tk₈ S₈ => ?_))
      refine assignInOrder_cons (PyProof.Rows.assign_Name (z_store V S₈ hv fun h₉ tk₉ S₉ => ?_))
      refine assignInOrder_nil (assignInOrder_nil ?_)
      refine q h₉ tk₉ _ own₄ e₄ (S₉.sub (.cons _ (.refl _))) ?_ ⟨t, _, _, hxi, hyi, rfl⟩
      exact frame (i + 1) h₄ h₉ ⟨⟨_, he₄⟩, Z₄⟩ (SF.same (stay := []) (nw₁ := (T2, _) :: nw) (nw₂ := (T2, _) :: nw) S₄ S₉ e₄ (fun c hc => (hfp c hc).imp id .inl) (fun _ hp => nomatch hp) (fun _ hp => nomatch hp))
    · rintro s Q E ⟨⟨old, he⟩, Z⟩ q
      refine enumZ_done hh D he Z (by simp) fun h' hk => q h' s.toks fun c o hc x => ?_
      exact hk c o (fun z => hc (z ▸ (by kcj_m))) (fun z => hc (z ▸ (by kcj_m))) (fun z => hc (z ▸ (by kcj_m))) (fun z => hc (z ▸ (by kcj_m))) x
    · rintro i s Q E ⟨⟨old, he⟩, Z⟩ q
      exact wpAny_pyIter_enum he q
  kct_strs
theorem z_neLens {l b : Addr} {xs ys : Array Value} {s : Shared} {Q : Value → Shared → Prop} (hl : s.heap.IsList l xs) (hb : s.heap.IsList b ys) (hsz : (xs.size != ys.size) = true) (hu : A.units < cLine) (q : Q (.bool true) s) :
    wpAny (model prog w) A (compareOp .NotEq (.ref l) (.ref b)) Q E s := SeqAt.RcNeAt.lists_lengths hl hb hsz hu prog w E Q q
theorem z_spl {M : Model} {s : Shared} {f en : Value} {args : List Value} {p : Pos} {F : Value → Shared → Prop} (q : wpAny M A (call f args) (fun v s₁ => wpAny M A (call en [v]) F E s₁) E s) :
    wpAny M A (call f args) (fun v s₁ => wpAny M A (spliced (backTo p (starEach [] env))) (fun vs s₂ => wpAny M A (call en (v :: vs)) F E s₂) E s₁) E s := wpAny_mono q (fun v s₁ z => wpAny_pure z) fun _ _ x => x
theorem z_spl0 {M : Model} {s : Shared} {f v : Value} {p : Pos} {F : Value → Shared → Prop} (q : wpAny M A (call f [v]) F E s) :
    wpAny M A (spliced (backTo p (starEach [] env))) (fun vs s₂ => wpAny M A (call f (v :: vs)) F E s₂) E s := wpAny_pure q
theorem ap1 {N a b : Nat} (h : a < b) : N + a ≠ N + b := by omega
theorem ap1' {N a b : Nat} (h : b < a) : N + a ≠ N + b := by omega
theorem ap0 {N b : Nat} (h : 0 < b) : N ≠ N + b := by omega
theorem ap0' {N b : Nat} (h : 0 < b) : N + b ≠ N := by omega
theorem ap2 {a b : Nat} (h : a < b) : a ≠ b := Nat.ne_of_lt h
theorem ap3 {a b : Nat} (h : a < b) : b ≠ a := Nat.ne_of_gt h
theorem z_cEnumZ {scope cs : Scope} {cl : List (Str × Addr)} {elt iter : Expr} {x y v : Str} {px py pv p2 tpos : Pos} {k1 k2 i₀ j₀ k₀ : Nat} {ifs : List Expr} {l1 l2 : Addr} {vs ws : List Value} {use : Option (Value → Sem Unit)} {Q : Value → Shared → Prop}
    (cns : List Str) (cg cb : List (Str × Value)) (Inv : Nat → (Nat → Option Value) → List (Addr × Obj) → List Value → Prop) (hh : A.handled = none)
    (V : EV K env L ns gns bns) (hrel : relabel scope env = cs) (chk : compChk K cs cns cg cb = true) (hcell : ∀ y ∈ scope.names, y.2 ≠ .cell) (hkind : scope.kind = .function) (hx : IxAt cns x i₀) (hy : IxAt cns y j₀) (hv : IxAt cns v k₀) (hl1 : h.IsList l1 vs.toArray) (hl2 : h.IsList l2 ws.toArray) (hlen : vs.length = ws.length) (hn : vs.length ≤ 1000)
    (h0 : Inv 0 (fun _ => none) [] [])
    (turn : ∀ C i t vx vy h₁ tk₁ f nw₁ own ys (T : List Value → Shared → Prop) (_ : ∀ ys s, CompEnd h C cns own (Inv (i + 1)) g dr os ys s → T ys s), vs[i]? = some vx → ws[i]? = some vy → Inv i f nw₁ ys → EV K (compEnvC scope cl C env) C cns cg cb → (compEnvC scope cl C env).scope = cs → SF h C h₁ (lc cns (up (up (up f i₀ (.int (i : Nat) t)) j₀ vx) k₀ vy)) (nw₁ ++ own) →
      wpAny (model prog w) A (tests ifs (compEnvC scope cl C env)) (fun ok s => if ok = true then wpAny (model prog w) A (eval elt (compEnvC scope cl C env)) (fun y s' => T (ys ++ [y]) s') (fun _ _ => False) s
        else T ys s) (fun _ _ => False) ⟨h₁, g, dr, tk₁, os⟩)
    (done : ∀ D C oC h' tk' f nw' ys, Inv vs.length f nw' ys → Own h h' ((D, listOf ys.toArray ys.length) :: (C, oC) :: nw') → h'.Ns C (lc cns f) → compPost (model prog w) A E use Q (.ref D) C (.ok .next) ⟨h', g, dr, tk', os⟩) :
    wpAny (model prog w) A (call (.type "zip") [.ref l1, .ref l2]) (fun zv s => wpAny (model prog w) A (call (.type "enumerate") [zv]) (fun ev s₁ => wpAny (model prog w) A (pyIter ev) (CompTail (model prog w) A E elt (.Tuple [.Name x px, .Tuple [.Name y py, .Name v pv] k2 p2] k1 tpos) iter ifs scope pos cl env use Q) E s₁) E s) E ⟨h, g, dr, tk, os⟩ := by
  refine wk ?_ ?_
  · refine call_zip_2 (s := ⟨h, g, dr, tk, os⟩) hl1 hl2 fun h₅ hz hTI hTO h1 h2 hsz hk => ?_
    dsimp only at hz hTI hTO h1 h2 hsz hk ⊢
    refine call_enumerate_zip (s := ⟨h₅, g, dr, tk, os⟩) hz rfl fun h₆ he hsz₆ hk₆ => ?_
    dsimp only at he hsz₆ hk₆ ⊢
    refine wpAny_pyIter_enum he ?_
    rw [hsz] at he hsz₆ ⊢
    generalize hN : h.objs.size = N at *
    obtain ⟨o1, ho1, _⟩ := id h1
    obtain ⟨o2, ho2, _⟩ := id h2
    obtain ⟨ol1, hol1, _⟩ := id hl1
    obtain ⟨ol2, hol2, _⟩ := id hl2
    have b1 : l1 < N := by rw [← hN]; exact Heap.lt_size hol1
    have b2 : l2 < N := by rw [← hN]; exact Heap.lt_size hol2
    have none_of : ∀ c, N ≤ c → h.get? c = none := fun c hc => by
      cases z : h.get? c with
      | none => rfl
      | some o => exact absurd (Heap.lt_size z) (by rw [hN]; exact Nat.not_lt.mpr hc)
    have Z₆ : ZSt h₆ (N + 4) (N + 2) (N + 3) N (N + 1) l1 l2 vs.toArray ws.toArray 0 :=
      ⟨⟨_, _, hk₆ _ _ hz, .inl rfl⟩, hk₆ _ _ hTI, ⟨_, _, hk₆ _ _ hTO⟩, h1.at fun o x => hk₆ _ o x, h2.at fun o x => hk₆ _ o x, hl1.at fun o x => hk₆ _ o (hk _ o x), hl2.at fun o x => hk₆ _ o (hk _ o x)⟩
    have D : ZipApart (N + 4) (N + 2) (N + 3) N (N + 1) l1 l2 := by constructor <;> (first | exact ap1 (by decide) | exact ap1' (by decide) | exact ap0 (by decide) | exact ap0' (by decide) | exact ap2 (Nat.lt_of_lt_of_le b1 (Nat.le_add_right N _)) | exact ap2 (Nat.lt_of_lt_of_le b2 (Nat.le_add_right N _)) | exact ap2 b1 | exact ap2 b2 | exact ap3 (Nat.lt_of_lt_of_le b1 (Nat.le_add_right N _)) | exact ap3 (Nat.lt_of_lt_of_le b2 (Nat.le_add_right N _)))
    have H : EApart (N + 5) (N + 4) (N + 2) (N + 3) N (N + 1) l1 l2 := by constructor <;> (first | exact ap1 (by decide) | exact ap1' (by decide) | exact ap0 (by decide) | exact ap0' (by decide) | exact ap2 (Nat.lt_of_lt_of_le b1 (Nat.le_add_right N _)) | exact ap2 (Nat.lt_of_lt_of_le b2 (Nat.le_add_right N _)) | exact ap2 b1 | exact ap2 b2 | exact ap3 (Nat.lt_of_lt_of_le b1 (Nat.le_add_right N _)) | exact ap3 (Nat.lt_of_lt_of_le b2 (Nat.le_add_right N _)))
    have hfp : ∀ c ∈ [N + 5, N + 4, N + 2, N + 3, N, N + 1, l1, l2], c ∈ [N + 5, N + 4, N + 2, N + 3, N, N + 1] ∨ ∃ o, h.get? c = some o := fun c hc => by
      simp only [List.mem_cons, List.not_mem_nil, or_false] at hc ⊢
      rcases hc with h | h | h | h | h | h | rfl | rfl
      · exact .inl (.inl h)
      · exact .inl (.inr (.inl h))
      · exact .inl (.inr (.inr (.inl h)))
      · exact .inl (.inr (.inr (.inr (.inl h))))
      · exact .inl (.inr (.inr (.inr (.inr (.inl h)))))
      · exact .inl (.inr (.inr (.inr (.inr (.inr h)))))
      · exact .inr ⟨_, hol1⟩
      · exact .inr ⟨_, hol2⟩
    obtain ⟨p1, hp1⟩ : ∃ o, h₆.get? (N + 5) = some o := ⟨_, he⟩
    obtain ⟨p2, hp2⟩ : ∃ o, h₆.get? (N + 4) = some o := ⟨_, hk₆ _ _ hz⟩
    obtain ⟨p3, hp3⟩ : ∃ o, h₆.get? (N + 2) = some o := ⟨_, hk₆ _ _ hTI⟩
    obtain ⟨p4, hp4⟩ : ∃ o, h₆.get? (N + 3) = some o := ⟨_, hk₆ _ _ hTO⟩
    refine z_compCore (own₀ := [(N + 5, p1), (N + 4, p2), (N + 2, p3), (N + 3, p4), (N, o1), (N + 1, o2)]) (wr := [N + 5, N + 4, N + 2, N + 3, N, N + 1]) (fp := [N + 5, N + 4, N + 2, N + 3, N, N + 1, l1, l2]) (St := fun i h => (∃ old, IsEnum h (N + 5) (N + 4) i old) ∧ ZSt h (N + 4) (N + 2) (N + 3) N (N + 1) l1 l2 vs.toArray ws.toArray i) cns cg cb Inv V hrel chk hcell hkind ⟨fun a o e => hk₆ _ _ (hk a o e), fun p hp => ?_, ?_⟩ (by rw [hN, hsz₆]; omega) rfl
      (fun C VC => Src.enumZ hh D H VC hx hy hv (by simpa using hlen) hfp) ⟨⟨_, he⟩, Z₆⟩ (by simpa using hn) hfp h0 ?_ ?_
    rotate_right 2
    · rintro C i h₁ tk₁ f f₁ nw₁ own ys hi hI ⟨t, vx, vy, hvx, hvy, rfl⟩ VC S₁
      exact turn C i t vx vy h₁ tk₁ f nw₁ own ys _ (fun _ _ x => x) (by simpa using hvx) (by simpa using hvy) hI VC hrel S₁
    · intro D C oC h' tk' f nw' ys hI
      rw [List.size_toArray] at hI
      exact done D C oC h' tk' f nw' ys hI
    · simp only [List.mem_cons, List.not_mem_nil, or_false] at hp
      rcases hp with rfl | rfl | rfl | rfl | rfl | rfl
      · exact ⟨hp1, none_of _ (Nat.le_add_right N 5)⟩
      · exact ⟨hp2, none_of _ (Nat.le_add_right N 4)⟩
      · exact ⟨hp3, none_of _ (Nat.le_add_right N 2)⟩
      · exact ⟨hp4, none_of _ (Nat.le_add_right N 3)⟩
      · exact ⟨hk₆ _ _ ho1, none_of _ (Nat.le_add_right N 0)⟩
      · exact ⟨hk₆ _ _ ho2, none_of _ (Nat.le_add_right N 1)⟩
    · simp
  kct_strs
end
theorem plain_upd_loop : plainId "dict.update.loop" = true := by decide +kernel
theorem entry_upd_loop : entryFor table "dict.update.loop" = some Builtin.«dict.update.loop» := entryFor_of_fast (by kernel_rfl)
theorem list_no_keys : typeLookup (.type "list") "keys" = pure none := by rw [typeLookup_type, builtinLookup_eq_fast]; kernel_rfl
section
variable {prog : Program} {w : World} {A : Around} {E : Value → Shared → Prop} {s : Shared}
theorem getAttrQ_miss {a : Addr} {xs : Array Value} {k : Nat} {sl : Array (Option Value)} {name : Str} {Q : Option Value → Shared → Prop}
    (hx : s.heap.get? a = some { cls := .type "list", dict := none, data := .seq xs k, slots := sl }) (hmiss : typeLookup (.type "list") name = pure none) (hname : (["__module__", "__name__", "__qualname__", "__doc__", "__annotations__"] : List Str).contains name = false) (hA : A.handled = none)
    (h : ∀ h' tk, (∀ b ob, s.heap.get? b = some ob → h'.get? b = some ob) → Q none { s with heap := h', toks := tk }) (hsz : name.length + 100 ≤ sizeLine := by size_fits) :
    wpAny (model prog w) A (getAttr? (.ref a) name) Q E s := by
  obtain ⟨hp, g, d, tk, os⟩ := s
  have hT : ∀ tk', (⟨hp, g, d, tk', os⟩ : Shared).TypeIs (.ref a) "list" := fun _ => ⟨_, hx, rfl⟩
  have f1 := sub_AttributeError
  have f3 := F.slot_list_getattribute.lookup
  have f4 := F.slot_list_getattribute.bind (.ref a)
  have f5 := am_list_getattr_none
  unfold getAttr? getAttrBy? getAttrBy
  repeat (any_goals (first | assumption | exact hT _ | ((with_reducible show wpAny _ _ (call (Value.builtin "list.__getattribute__") _ _) _ _ _); refine call_meets F.slot_list_getattribute (hT _) am_entry_list_getattribute (F.args_list_getattribute_2 _ _) (meets_getattribute_miss_list a xs k sl name _ hmiss hname hsz) ⟨hx, hA, fun h' tk' e hx' => ?_⟩) | wp_step))
  obtain ⟨t', u', he⟩ := hx'.there
  show wpAny _ _ (getattributeRaised _ _ _ _ _ _ _) _ _ _
  unfold getattributeRaised
  repeat (any_goals (first | assumption | wp_step))
  exact h _ _ hx'.keeps
/-- a list of pairs, the first of each a key -/
noncomputable def PairsAt (prog : Program) (w : World) (h : Heap) (ps : List Value) (xs : List (List (Str ⊕ Int) × Addr × Value)) : Prop :=
  ps.length = xs.length ∧ ∀ (j : Nat) (v : Value) (x : List (Str ⊕ Int) × Addr × Value), ps[j]? = some v → xs[j]? = some x → ∃ T, v = .ref T ∧ IsTup h T #[.ref x.2.1, x.2.2] ∧ (PKind prog w).is h x.1 x.2.1
theorem PKind.keeps {h h' : Heap} {k : List (Str ⊕ Int)} {a : Addr} (x : (PKind prog w).is h k a) (kp : ∀ a o, h.get? a = some o → h'.get? a = some o) : (PKind prog w).is h' k a := by
  obtain ⟨o', vs, n, ho', r⟩ := x
  exact ⟨o', vs, n, kp _ _ ho', r⟩
theorem PairsAt.keeps {h h' : Heap} {ps : List Value} {xs : List (List (Str ⊕ Int) × Addr × Value)} (x : PairsAt prog w h ps xs) (kp : ∀ a o, h.get? a = some o → h'.get? a = some o) : PairsAt prog w h' ps xs :=
  ⟨x.1, fun j v y h1 h2 => by
    obtain ⟨T, e, hT, hk⟩ := x.2 j v y h1 h2
    exact ⟨T, e, IsTup.keeps' hT kp, PKind.keeps hk kp⟩⟩
theorem upd_loop {b : Heap} {d I l : Addr} {ps : List Value} {xs : List (List (Str ⊕ Int) × Addr × Value)} {R : Result → Shared → Prop} (hh : A.handled = none) (hr : A.in1.units < cLine) (hn : (xs.map (·.1)).Nodup) (hz : xs.length ≤ 1000) (hlI : l ≠ I) (hdI : d ≠ I) (hdl : d ≠ l) (hdb : b.get? d = none) (hIb : b.get? I = none)
    (P : PairsAt prog w b ps xs) {g : Array GenState} {dr : Drawn} {os : OsState}
    (q : ∀ h' tk', h'.DictOfH (PKind prog w) d xs → (∀ a o, b.get? a = some o → h'.get? a = some o) → R (.ok (.ret .none)) ⟨h', g, dr, tk', os⟩) :
    ∀ (k i : Nat) (h : Heap) (tk : Nat), ps.length - i = k → i ≤ ps.length → h.IsListIter I l i → h.IsList l ps.toArray → h.DictOfH (PKind prog w) d (xs.take i) → (∀ a o, b.get? a = some o → h.get? a = some o) →
      codeAny (model prog w) A (.builtin "dict.update.loop" ⟨[.ref d, .ref I, rawInt i, .none], []⟩) R ⟨h, g, dr, tk, os⟩ := by
  refine wk ?_ ?_
  · have hh1 : A.in1.handled = none := hh
    have W := Walks.list (prog := prog) (w := w) hh1 I l hlI ps.toArray
    intro k
    induction k with
    | zero =>
      intro i h tk hk hi hit hl hd kp
      have hin : i = ps.length := by omega
      subst hin
      refine codeAny_builtin entry_upd_loop ?_
      rw [Around.under_plainId plain_upd_loop _]
      show wpAny _ A.in1 (pyNext (.ref I) >>= _) _ _ _
      refine wpAny_bind (W.done ⟨h, g, dr, tk, os⟩ _ _ ⟨by simpa using hit, hl⟩ fun h' tk' hk' => ?_)
      dsimp only at hk' ⊢
      show wpAny _ _ (Builtin.Dict.addKeywords d [] >>= _) _ _ _
      refine wpAny_bind (wpAny_pure (wpAny_pure ?_))
      rw [P.1, List.take_length] at hd
      have hd' : h'.DictOfH (PKind prog w) d xs := by
        obtain ⟨o, es, ep, ho, a, b', c, hkk, hnn⟩ := hd
        refine ⟨o, es, ep, hk' _ _ (by simpa using hdI) ho, a, b', c, fun y hy => ?_, hnn⟩
        obtain ⟨j, hj⟩ := List.mem_iff_getElem?.mp hy
        obtain ⟨T, e, hT, hkey⟩ := P.2 j _ y (List.getElem?_eq_getElem (by rw [P.1]; exact (List.getElem?_eq_some_iff.mp hj).1)) hj
        exact PKind.keeps hkey fun a o e => hk' _ _ (by intro z; rw [List.mem_singleton.mp z, hIb] at e; cases e) (kp a o e)
      exact q h' tk' hd' fun a o e => hk' _ _ (by intro z; rw [List.mem_singleton.mp z, hIb] at e; cases e) (kp a o e)
    | succ k ih =>
      intro i h tk hk hi hit hl hd kp
      have hlt : i < ps.length := by omega
      have hlx : i < xs.length := by rw [← P.1]; exact hlt
      refine codeAny_builtin entry_upd_loop ?_
      rw [Around.under_plainId plain_upd_loop _]
      show wpAny _ A.in1 (pyNext (.ref I) >>= _) _ _ _
      refine wpAny_bind (W.item i ⟨h, g, dr, tk, os⟩ _ _ (by simpa using hlt) ⟨hit, hl⟩ fun v h' tk' hv hs' hk' => ?_)
      dsimp only at hk' ⊢
      have hvp : ps[i]? = some v := by simpa using hv
      obtain ⟨T, rfl, hT, hkey⟩ := P.2 i v _ hvp (List.getElem?_eq_getElem hlx)
      have kp' : ∀ a o, b.get? a = some o → h'.get? a = some o := fun a o e => hk' _ _ (by intro z; rw [List.mem_singleton.mp z, hIb] at e; cases e) (kp a o e)
      have hd' : h'.DictOfH (PKind prog w) d (xs.take i) := by
        obtain ⟨o, es, ep, ho, a, b', c, hkk, hnn⟩ := hd
        refine ⟨o, es, ep, hk' _ _ (by simpa using hdI) ho, a, b', c, fun y hy => ?_, hnn⟩
        obtain ⟨j, hj⟩ := List.mem_iff_getElem?.mp (List.mem_of_mem_take hy)
        obtain ⟨T, e, hT, hkey⟩ := P.2 j _ y (List.getElem?_eq_getElem (by rw [P.1]; exact (List.getElem?_eq_some_iff.mp hj).1)) hj
        exact PKind.keeps hkey kp'
      obtain ⟨oT, hoT, hcT, nT, hdT⟩ := IsTup.keeps' hT kp'
      refine wpAny_bind (wpAny_holding ?_)
      refine wpAny_bind (wpAny_tryCatch ?_)
      unfold Builtin.Dict.pairItems
      refine wpAny_bind (wpAny_typeOf (T := "tuple") ⟨oT, hoT, hcT⟩ ?_)
      simp only [show ((Value.type "tuple" == Value.type "list") || (Value.type "tuple" == Value.type "tuple")) = true from by decide, if_true]
      refine wpAny_bind (wpAny_seqItems hoT hdT (wpAny_pure ?_))
      show wpAny _ _ (holding [_, _] (dictSet d _ _)) _ _ _
      refine wpAny_holding (wpAny_dictSet_heap (s := ⟨h', g, dr, tk', os⟩) (show (PKind prog w).room A.in1 from ?_) (PKind.keeps hkey kp') hd' (fun h₂ hd₂ hs₂ => ?_) (by rw [sizeLine_eq, List.length_take]; omega))
      · exact hr
      have hnk : xs[i].1 ∉ (xs.take i).map (·.1) := by
        intro hm
        have e : xs = xs.take i ++ xs[i] :: xs.drop (i + 1) := by rw [← List.drop_eq_getElem_cons, List.take_append_drop]
        have hn' : ((xs.take i ++ xs[i] :: xs.drop (i + 1)).map (·.1)).Nodup := by rw [← e]; exact hn
        rw [List.map_append, List.nodup_append] at hn'
        exact hn'.2.2 _ hm _ (List.mem_map.mpr ⟨_, .head _, rfl⟩) rfl
      have ha : atKey (xs.take i) xs[i].1 = none := atKey_none_of_get fun j p e => hnk (List.mem_map.mpr ⟨_, List.mem_of_getElem? e, rfl⟩)
      rw [storedH_new ha] at hd₂
      have hd₃ : h₂.DictOfH (PKind prog w) d (xs.take (i + 1)) := by rw [List.take_add_one, List.getElem?_eq_getElem hlx]; exact hd₂
      have k2 : ∀ a o, a ≠ d → h'.get? a = some o → h₂.get? a = some o := fun a o hne e => (hs₂.2 a hne).trans e
      refine wpAny_pure ⟨plainId_quiet plain_upd_loop _, ?_⟩
      exact ih (i + 1) h₂ _ (by omega) hlt (hs'.1.at fun o e => k2 _ o hdI.symm e) (hs'.2.at fun o e => k2 _ o hdl.symm e) hd₃ fun a o e => k2 a o (fun z => by rw [z, hdb] at e; cases e) (kp' a o e)
  kct_strs
theorem call_dictPairs {l : Addr} {c : Nat} {ps : List Value} {xs : List (List (Str ⊕ Int) × Addr × Value)} {Q : Value → Shared → Prop} (hl : s.heap.get? l = some (listOf ps.toArray c)) (hh : A.handled = none) (hr : A.units + 8 < cLine) (hn : (xs.map (·.1)).Nodup) (hz : xs.length ≤ 1000)
    (P : PairsAt prog w s.heap ps xs) (hb : 1 < s.heap.objs.size) (q : ∀ h' d tk', h'.DictOfH (PKind prog w) d xs → s.heap.get? d = none → (d == sysModules) = false → (∀ a o, s.heap.get? a = some o → h'.get? a = some o) → Q (.ref d) { s with heap := h', toks := tk' }) :
    wpAny (model prog w) A (call (.type "dict") [.ref l]) Q E s := by
  obtain ⟨h, g, dr, tk, os⟩ := s
  dsimp only at hl P q hb
  refine callType_codes (Q₁ := fun obj s₁ => obj = .ref h.objs.size ∧ s₁ = ⟨h.push { cls := .type "dict", data := .dict #[] }, g, dr, tk, os⟩) PySem.F.kt_called_dict (PySem.F.kt_typeCall_dict_1 _) PySem.F.entry_dict_init (kt_code_dict_new _ ⟨rfl, rfl⟩) ?_
  rintro obj s₁ ⟨rfl, rfl⟩
  have hnew : (h.push { cls := .type "dict", data := .dict #[] }).DictOfH (PKind prog w) h.objs.size [] := Heap.DictOfH.new h
  have kp : ∀ a o, h.get? a = some o → (h.push { cls := .type "dict", data := .dict #[] }).get? a = some o := fun a o e => Heap.get?_push_of_some _ e
  refine ⟨hnew.typeIs (s := ⟨_, g, dr, tk, os⟩), PySem.F.args_dict_init_2 _ _, ?_⟩
  unfold Builtin.«dict.__init__»
  refine wpAny_bind ?_
  unfold Builtin.Dict.selfAndRest
  refine wpAny_bind (wpAny_notOrdered_dict (hnew.typeIs (s := ⟨_, g, dr, tk, os⟩)) ?_)
  show wpAny _ _ (pure (h.objs.size, [Value.ref l])) _ _ _
  refine wpAny_pure ?_
  show wpAny _ _ (Builtin.Dict.updateFrom "dict.__init__" h.objs.size (.ref l) [] .none) _ _ _
  unfold Builtin.Dict.updateFrom
  refine wpAny_bind (wpAny_typeOf (T := "list") ⟨_, kp _ _ hl, rfl⟩ ?_)
  rw [if_pos (by decide)]
  refine wpAny_bind (getAttrQ_miss (s := ⟨_, g, dr, tk, os⟩) (kp _ _ hl) list_no_keys (by decide) hh (fun h₂ tk₂ k₂ => ?_) (by decide))
  dsimp only at k₂ ⊢
  simp only [Option.isNone_none, if_true]
  refine wpAny_bind (wpAny_rule ?_)
  have hl₂ : h₂.IsList l ps.toArray := ⟨_, k₂ _ _ (kp _ _ hl), rfl, _, rfl⟩
  refine wpAny_bind (wpAny_pyIter_list (s := ⟨h₂, g, dr, tk₂, os⟩) hl₂ ?_)
  dsimp only
  have k₃ : ∀ a o, h.get? a = some o → (h₂.push { cls := .type "list_iterator", data := .fields #[.ref l, .int 0 0] }).get? a = some o := fun a o e => Heap.get?_push_of_some _ (k₂ _ _ (kp _ _ e))
  obtain ⟨od, es, ep, hod, h1, h2, h3, h4, h5⟩ := id hnew
  have hdlt : h.objs.size < h₂.objs.size := Heap.lt_size (k₂ _ _ hod)
  have hllt : l < h.objs.size := Heap.lt_size hl
  have none_of : ∀ c, h.objs.size ≤ c → h.get? c = none := fun c hc => by
    cases z : h.get? c with
    | none => rfl
    | some o => exact absurd (Heap.lt_size z) (Nat.not_lt.mpr hc)
  refine wpAny_pure ⟨plainId_quiet plain_upd_loop _, ?_⟩
  refine upd_loop (A := A.in1) (b := h) (ps := ps) (xs := xs) (l := l) hh (by show A.units + 1 + 1 < _; omega) hn hz (Nat.ne_of_lt (Nat.lt_trans hllt hdlt)) (Nat.ne_of_lt hdlt) (Nat.ne_of_gt hllt) (none_of _ (Nat.le_refl _)) (none_of _ (Nat.le_of_lt hdlt)) P (fun h' tk' hd' k' => ?_) (ps.length - 0) 0 _ _ rfl (Nat.zero_le _) ⟨_, Heap.get?_push_size _ rfl, rfl, rfl⟩ (hl₂.push _) ⟨od, es, ep, Heap.get?_push_of_some _ (k₂ _ _ hod), h1, h2, h3, fun x hx => by simp at hx, h5⟩ k₃
  exact ⟨rfl, q h' _ tk' hd' (none_of _ (Nat.le_refl _)) (not_sys hb) k'⟩
end
section
variable {prog : Program} {w : World} {A : Around} {E : Value → Shared → Prop} {s : Shared}
theorem samePairsP {K : Type} [DecidableEq K] {knd : HeapKind prog w K} {nm : String} {a b : Addr} {ka kb : List (K × Addr × Value)} {Q : Bool → Shared → Prop} (hu : knd.room A) (ha : (a == sysModules) = false) (hb : (b == sysModules) = false)
    (da : s.heap.DictOfH knd a ka) (db : s.heap.DictOfH knd b kb) (hlen : ka.length = kb.length) (hits : ∀ x ∈ ka, ∃ p, atKey kb x.1 = some p ∧ SeqAt.EqAt A s x.2.2 p.2 true) (h : Q true s) :
    wpAny (model prog w) A (Builtin.Dict.samePairs nm a b) Q E s := by
  refine wk ?_ ?_
  · obtain ⟨oa, es, ep, hoa, _, hda, hka, hpa, _⟩ := da
    obtain ⟨ob, es', ep', hob, _, hdb, hkb, hpb, hnb⟩ := db
    have hla : ka.length = es.size := (size_of_entries hka).symm
    have hlb : kb.length = es'.size := (size_of_entries hkb).symm
    unfold Builtin.Dict.samePairs Builtin.Dict.showsAll
    rw [if_neg (show ¬ (a == sysModules) = true by rw [ha]; exact Bool.false_ne_true), if_neg (show ¬ (b == sysModules) = true by rw [hb]; exact Bool.false_ne_true)]
    refine wpAny_bind (wpAny_pure (wpAny_bind (wpAny_pure ?_)))
    refine wpAny_bind (wpAny_dictEntries hoa hda ?_)
    dsimp only
    refine wpAny_bind (wpAny_dictEntries hob hdb ?_)
    have hsz : es.size = es'.size := by rw [← hla, ← hlb]; exact hlen
    rw [if_neg (by rw [hsz]; simp)]
    refine wpAny_bind (wpAny_dictEpoch hoa hda ?_)
    refine wpAny_bind ?_
    rw [Std.Legacy.Range.forIn_eq_forIn_range']
    simp only [Std.Legacy.Range.size, Nat.sub_zero, Nat.add_sub_cancel, Nat.div_one]
    refine wpAny_forIn_list _
      (fun rest q s' => s' = s ∧ q = (none, ()) ∧ ∃ i, rest = List.range' i (es.size - i) ∧ i ≤ es.size)
      _ ?_ ?_ _ _ ⟨rfl, rfl, 0, by simp, Nat.zero_le _⟩
    · rintro x rest q s' ⟨rfl, rfl, i, hr, hi⟩
      have hlt : i < es.size := by
        rcases Nat.lt_or_ge i es.size with h | h
        · exact h
        · rw [Nat.sub_eq_zero_of_le h] at hr; simp at hr
      obtain ⟨rfl, hrest⟩ : x = i ∧ rest = List.range' (i + 1) (es.size - (i + 1)) := by
        have e : es.size - i = (es.size - (i + 1)) + 1 := by omega
        rw [e, List.range'_succ] at hr
        injection hr with h1 h2
        exact ⟨h1, h2⟩
      refine wpAny_bind (wpAny_dictEntries hoa hda ?_)
      have hlt' : x < ka.length := by rw [hla]; exact hlt
      obtain ⟨k, T, v, hkv⟩ : ∃ k T v, ka[x] = (k, T, v) := ⟨_, _, _, rfl⟩
      have hkx : ka[x]? = some (k, T, v) := by rw [List.getElem?_eq_getElem hlt', hkv]
      have hex : es[x]? = some (entryOfKey knd (k, T, v)) := by rw [entry_at hka, hkx]; rfl
      have hmem : (k, T, v) ∈ ka := List.mem_of_getElem? hkx
      obtain ⟨p, hp, he⟩ := hits _ hmem
      rw [hex]
      show wpAny _ _ (holding [_, _] _ >>= _) _ _ _
      refine wpAny_bind (wpAny_holding (wpAny_bind (wpAny_dictFind_heap hu (hpa _ hmem) hob hdb hkb hpb hnb ?_ ?_)))
      · intro hno
        have := atKey_none_of_get hno
        rw [show (k, T, v).1 = k from rfl, this] at hp
        cases hp
      · intro j p' hj
        have hpp := atKey_of_get hnb hj
        rw [show (k, T, v).1 = k from rfl, hpp] at hp
        injection hp with hp
        subst hp
        refine wpAny_bind (wpAny_dictEntries hob hdb ?_)
        have hej : es'[j]? = some (entryOfKey knd (k, p')) := by rw [entry_at hkb, hj]; rfl
        rw [hej]
        refine wpAny_holding (he prog w _ _ ?_)
        show wpAny _ _ (if (!true) = true then _ else _) _ _ _
        rw [if_neg (by decide)]
        refine wpAny_bind (wpAny_dictEpoch hoa hda ?_)
        rw [if_neg (by simp)]
        exact wpAny_pure ⟨rfl, rfl, x + 1, hrest, hlt⟩
    · rintro q s' ⟨rfl, rfl, i, hr, hi⟩
      exact wpAny_pure h
  kct_strs
theorem eqP {K : Type} [DecidableEq K] {knd : HeapKind prog w K} {a b : Addr} {ka kb : List (K × Addr × Value)} {Q : Value → Shared → Prop} (hr : knd.room A.in1) (ha : (a == sysModules) = false) (hb : (b == sysModules) = false)
    (da : s.heap.DictOfH knd a ka) (db : s.heap.DictOfH knd b kb) (hu : A.units < cLine) (hlen : ka.length = kb.length) (hits : ∀ x ∈ ka, ∃ p, atKey kb x.1 = some p ∧ SeqAt.EqAt A.in1 s x.2.2 p.2 true) (h : Q (.bool true) s) :
    wpAny (model prog w) A (compareOp .Eq (.ref a) (.ref b)) Q E s := by
  refine wk ?_ ?_
  · refine wpAny_richCompare_same_room (op := .Eq) da.typeIs db.typeIs PySem.F.slot_dict_eq (wpAny_call_entry PySem.F.slot_dict_eq da.typeIs PySem.F.entry_dict_eq ?_ (PySem.F.args_dict_eq_2 _ _)) hu
    show wpAny _ _ (Builtin.Dict.dictSlotArgs "__eq__" ⟨[.ref a, .ref b], []⟩ >>= _) _ _ s
    refine wpAny_bind ?_
    unfold Builtin.Dict.dictSlotArgs
    refine wpAny_bind (wpAny_notOrdered_dict da.typeIs ?_)
    show wpAny _ _ (pure (Value.ref a, Value.ref b)) _ _ s
    refine wpAny_pure ?_
    refine wpAny_bind (wpAny_isInstance (T := "dict") db.typeIs PySem.F.sub_dict_dict ?_)
    simp only [Bool.not_true, Bool.false_eq_true, if_false]
    refine wpAny_bind (wpAny_pure (wpAny_bind (wpAny_pure ?_)))
    refine wpAny_bind (samePairsP hr ha hb da db hlen hits ?_)
    exact wpAny_pure ⟨_, rfl, (fun x => nomatch x), h⟩
  kct_strs
/-- a dict display of one text key -/
theorem z_dict1 {b h : Heap} {L : Addr} {m : Str → Option Value} {nw : List (Addr × Obj)} {g : Array GenState} {dr : Drawn} {tk : Nat} {os : OsState} {env : Env} {ke ve : Expr} {pos : Pos} {Q : Value → Shared → Prop} (S : SF b L h m nw) (hb : 1 < h.objs.size)
    (hq : ∀ D H, SF b L H m ((D, dictOf [] 0) :: nw) → (D == sysModules) = false → h.get? D = none → (∀ a o, h.get? a = some o → H.get? a = some o) →
      wpAny (model prog w) A (eval ke env) (fun kv s₁ => wpAny (model prog w) A (eval ve env) (fun vv s₂ => ∃ H₂ tk₂ k u nw₂, s₂ = ⟨H₂, g, dr, tk₂, os⟩ ∧ kv = .str k u ∧ SF b L H₂ m ((D, dictOf [] 0) :: nw₂) ∧
        ∀ H₃ tk₃ o, SF b L H₃ m ((D, o) :: nw₂) → H₃.DictOf (strKind prog w) D [(k, vv)] → (∀ a o, a ≠ D → H₂.get? a = some o → H₃.get? a = some o) → Q (.ref D) ⟨H₃, g, dr, tk₃, os⟩) E s₁) E ⟨H, g, dr, tk, os⟩) :
    wpAny (model prog w) A (eval (.Dict [some ke] [ve] pos) env) Q E ⟨h, g, dr, tk, os⟩ := by
  refine wk ?_ ?_
  · refine wpAny_Dict_walk (knd := strKind prog w) (s := ⟨h, g, dr, tk, os⟩) rfl rfl (by simp) (Nat.le_of_ble_eq_true rfl) ?_
    have hn : h.get? h.objs.size = none := by
      cases z : h.get? h.objs.size with
      | none => rfl
      | some o => exact absurd (Heap.lt_size z) (Nat.lt_irrefl _)
    refine pairTrees_cons_walk (wpAny_mono (hq h.objs.size _ (S.push _ rfl) (not_sys hb) hn fun a o e => Heap.get?_push_of_some _ e) (fun kv s₁ z => wpAny_mono z (fun vv s₂ z₂ => ?_) fun _ _ x => x) fun _ _ x => x)
    obtain ⟨H₂, tk₂, k, u, nw₂, rfl, rfl, S₂, q⟩ := z₂
    refine pairTrees_nil_walk ⟨[(k, vv)], ⟨strKind_is _ _ _ _, rfl, trivial⟩, DObj.nil _ _ (S₂.news _ (.head _)).1, fun h' hd hs => ?_⟩
    obtain ⟨o', ho', hD⟩ := DObj.of hd
    exact q _ _ o' (S₂.setI .head ho' fun a x hne e => (hs.2 a hne).trans e) hd fun a x hne e => (hs.2 a hne).trans e
  kct_strs
theorem atKey_PX {xs : List (List (Str ⊕ Int) × Addr × Value)} {k : List (Str ⊕ Int)} {p : Addr × Value} (hn : (xs.map (·.1)).Nodup) (hm : (k, p) ∈ xs) : atKey xs k = some p := by
  obtain ⟨j, hj⟩ := List.mem_iff_getElem?.mp hm
  exact atKey_of_get hn hj
section
variable {K : Frag} {b h : Heap} {L : Addr} {m : Str → Option Value} {nw nw' : List (Addr × Obj)} {g : Array GenState} {dr : Drawn} {tk : Nat} {os : OsState} {env : Env} {pos : Pos}
  {ns : List Str} {gns bns : List (Str × Value)}
theorem z_cEnum {scope cs : Scope} {cl : List (Str × Addr)} {elt iter : Expr} {x y : Str} {px py tpos : Pos} {k1 i₀ j₀ : Nat} {ifs : List Expr} {l : Addr} {vs : List Value} {use : Option (Value → Sem Unit)} {Q : Value → Shared → Prop}
    (cns : List Str) (cg cb : List (Str × Value)) (Inv : Nat → (Nat → Option Value) → List (Addr × Obj) → List Value → Prop) (hh : A.handled = none)
    (V : EV K env L ns gns bns) (hrel : relabel scope env = cs) (chk : compChk K cs cns cg cb = true) (hcell : ∀ y ∈ scope.names, y.2 ≠ .cell) (hkind : scope.kind = .function) (hx : IxAt cns x i₀) (hy : IxAt cns y j₀) (hl : h.IsList l vs.toArray) (hn : vs.length ≤ 1000)
    (h0 : Inv 0 (fun _ => none) [] [])
    (turn : ∀ C i t v h₁ tk₁ f nw₁ own ys (T : List Value → Shared → Prop) (_ : ∀ ys s, CompEnd h C cns own (Inv (i + 1)) g dr os ys s → T ys s), vs[i]? = some v → Inv i f nw₁ ys → EV K (compEnvC scope cl C env) C cns cg cb → (compEnvC scope cl C env).scope = cs → SF h C h₁ (lc cns (up (up f i₀ (.int (i : Nat) t)) j₀ v)) (nw₁ ++ own) →
      wpAny (model prog w) A (tests ifs (compEnvC scope cl C env)) (fun ok s => if ok = true then wpAny (model prog w) A (eval elt (compEnvC scope cl C env)) (fun y s' => T (ys ++ [y]) s') (fun _ _ => False) s
        else T ys s) (fun _ _ => False) ⟨h₁, g, dr, tk₁, os⟩)
    (done : ∀ D C oC h' tk' f nw' ys, Inv vs.length f nw' ys → Own h h' ((D, listOf ys.toArray ys.length) :: (C, oC) :: nw') → h'.Ns C (lc cns f) → compPost (model prog w) A E use Q (.ref D) C (.ok .next) ⟨h', g, dr, tk', os⟩) :
    wpAny (model prog w) A (call (.type "enumerate") [.ref l]) (fun ev s₁ => wpAny (model prog w) A (pyIter ev) (CompTail (model prog w) A E elt (.Tuple [.Name x px, .Name y py] k1 tpos) iter ifs scope pos cl env use Q) E s₁) E ⟨h, g, dr, tk, os⟩ := by
  refine wk ?_ ?_
  · obtain ⟨ol, hol, _⟩ := id hl
    have hlt : l < h.objs.size := Heap.lt_size hol
    refine call_enumerate_list (s := ⟨h, g, dr, tk, os⟩) hl fun h' he hit hsz hk => ?_
    dsimp only at he hit hsz hk ⊢
    refine wpAny_pyIter_enum he ?_
    have W := (WalksT.enumerate (prog := prog) (w := w) hh (h.objs.size + 1) h.objs.size l (Nat.succ_ne_self _) (Nat.ne_of_lt (Nat.lt_succ_of_lt hlt)) (Nat.ne_of_lt hlt) vs.toArray).toU
    obtain ⟨oi, hoi, _⟩ := id hit
    have hnone : ∀ c, h.objs.size ≤ c → h.get? c = none := fun c hc => by
      cases z : h.get? c with
      | none => rfl
      | some o => exact absurd (Heap.lt_size z) (Nat.not_lt.mpr hc)
    obtain ⟨oe, hoe⟩ : ∃ o, h'.get? (h.objs.size + 1) = some o := ⟨_, he⟩
    have hfp : ∀ c ∈ [h.objs.size + 1, h.objs.size, l], c ∈ [h.objs.size + 1, h.objs.size] ∨ ∃ o, h.get? c = some o := fun c hc => by
      rcases List.mem_cons.mp hc with rfl | hc
      · exact .inl (.head _)
      · rcases List.mem_cons.mp hc with rfl | hc
        · exact .inl (.tail _ (.head _))
        · rw [List.mem_singleton.mp hc]; exact .inr ⟨_, hol⟩
    refine z_compCore (own₀ := [(h.objs.size + 1, oe), (h.objs.size, oi)]) (wr := [h.objs.size + 1, h.objs.size]) (fp := [h.objs.size + 1, h.objs.size, l]) (Bd := fun i f f' => ∃ t v, vs.toArray[i]? = some v ∧ f' = up (up f i₀ (.int (i : Nat) t)) j₀ v) cns cg cb Inv V hrel chk hcell hkind ⟨hk, fun p hp => ?_, by simp⟩ (by rw [hsz]; exact Nat.le_add_right _ _) rfl
      (fun C VC => Src.tuple W (fun i h hs c hc => ?_) (fun i T h hM c hc => ?_) hfp ?_) ⟨⟨_, he⟩, hit, hl.at fun o e => hk _ _ e⟩ (by simpa using hn) hfp h0 ?_ ?_
    · rcases List.mem_cons.mp hp with rfl | hp
      · exact ⟨hoe, hnone _ (Nat.le_succ _)⟩
      · rw [List.mem_singleton.mp hp]; exact ⟨hoi, hnone _ (Nat.le_refl _)⟩
    · obtain ⟨⟨old, z1⟩, ⟨o, z2, _⟩, _⟩ := hs
      rcases List.mem_cons.mp hc with rfl | hc
      · exact ⟨_, z1⟩
      · rw [List.mem_singleton.mp hc]; exact ⟨_, z2⟩
    · obtain ⟨⟨x, z1⟩, ⟨o, z2, _⟩, _⟩ := hM
      rcases List.mem_cons.mp hc with rfl | hc
      · exact ⟨_, z1⟩
      · rw [List.mem_singleton.mp hc]; exact ⟨_, z2⟩
    · rintro i T vals h₁ f nw₁ g dr tk os Q ⟨t, v, hv, rfl⟩ hT S q
      refine z_unpack2 hh S hT fun h₂ S₂ _ => ?_
      refine z_store VC S₂ hx fun h₃ tk₃ S₃ => ?_
      refine z_store VC S₃ hy fun h₄ tk₄ S₄ => ?_
      exact q h₄ tk₄ _ S₄ ⟨t, v, hv, rfl⟩
    · rintro C i h₁ tk₁ f f₁ nw₁ own ys hi hI ⟨t, v, hv, rfl⟩ VC S₁
      exact turn C i t v h₁ tk₁ f nw₁ own ys _ (fun _ _ x => x) (by simpa using hv) hI VC hrel S₁
    · intro D C oC h' tk' f nw' ys hI
      rw [List.size_toArray] at hI
      exact done D C oC h' tk' f nw' ys hI
  kct_strs
end
end
section
local macro_rules | `(tactic| o_head $_) => `(tactic| assumption)
set_option maxRecDepth 100000 in
set_option maxHeartbeats 8000000 in
theorem kk (h : PySem.Challenge.rw_qd0112_01.row.Holds) : PySem.Challenge.rw_qd0112_01.row.Holds := by
  k_head
end
local macro_rules | `(tactic| k_memK) => `(tactic| k_extra "zm")
local macro_rules | `(tactic| kd_subs) => `(tactic| repeat with_reducible k_extra "zs")
local macro_rules | `(tactic| kcf_m) => `(tactic| k_extra "zc")
theorem words1 : True := by
  k_with "zm" => (with_reducible first | exact .head | ((first | apply At.tail | apply IxAt.tail | apply AtI.tail | apply Put.tail); k_extra "zm"))
  k_with "ze" => (with_reducible first
  | refine z_name (by assumption) (by assumption) (by k_extra "zm") (by first | with_unfolding_all rfl | with_unfolding_all assumption) ?_
  | refine z_int ?_
  | refine z_str ?_
  | refine wpAny_BinOp ?_
  | refine Attribute_any_ ?_ (by with_unfolding_all rfl)
  | refine Subscript_ ?_
  | refine wpAny_Compare1 ?_ (by with_unfolding_all rfl)
  | refine Tuple_ ?_
  | refine List_ ?_
  | refine UnaryOp_ ?_
  | refine IfExp_ ?_
  | refine Constant_bool ?_
  | refine Constant_none ?_
  | refine Compare_chain ?_ (by with_unfolding_all rfl)
  | refine BoolOp_one ?_
  | refine BoolOp_and ?_
  | refine BoolOp_or ?_
  | refine z_fun (by assumption) (by assumption) (by assumption) (by k_extra "zm") (by k_is) ?_ (by with_unfolding_all rfl) (by with_unfolding_all rfl)
  | refine z_fun0 (by assumption) (by assumption) (by assumption) (by k_extra "zm") (by k_is) ?_
  | refine z_bui (by assumption) (by assumption) (by assumption) (by k_extra "zm") ?_ (by with_unfolding_all rfl) (by with_unfolding_all rfl)
  | refine z_typ (by assumption) (by assumption) (by assumption) (by k_extra "zm") ?_ (by with_unfolding_all rfl) (by with_unfolding_all rfl)
  | refine z_metC ?_ (by with_unfolding_all rfl)
  | refine z_glo (by assumption) (by assumption) (by assumption) (by k_extra "zm") ?_)
  k_with "zf" => (with_reducible first
  | refine isTrue_not ?_
  | refine isTrue_and_nil ?_
  | refine isTrue_or_nil ?_
  | refine isTrue_and ?_
  | refine isTrue_or ?_
  | refine isTrue_IfExp ?_
  | refine wpAny_isTrue_Compare1 ?_ (by with_unfolding_all rfl)
  | refine isTrue_chain ?_ (by with_unfolding_all rfl)
  | refine isTrue_plain ?_ (by with_unfolding_all rfl))
  k_with "zx" => (with_reducible first
  | refine z_compS0 (by assumption) (by k_extra "zm") (by with_unfolding_all rfl) (by kernel_rfl) (by with_unfolding_all rfl) (by intro _; with_unfolding_all rfl) ?_
  | refine z_assign ?_ (by with_unfolding_all rfl)
  | refine z_nil ?_
  | refine z_ret ?_
  | refine z_if ?_
  | refine z_assignS ?_ (by with_unfolding_all rfl)
  | refine z_assignA ?_ (by with_unfolding_all rfl)
  | refine z_expr (by assumption) ?_ (by with_unfolding_all rfl)
  | refine z_swap2 (by assumption) (by k_extra "zm") (by k_extra "zm") (by kernel_rfl) (by kernel_rfl) (by kernel_rfl) (by kernel_rfl) ?_
  | refine z_swap3 (by assumption) (by k_extra "zm") (by k_extra "zm") (by k_extra "zm") (by kernel_rfl) (by kernel_rfl) (by kernel_rfl) (by kernel_rfl) ?_
  | refine z_assignT ?_ (by with_unfolding_all rfl) (by with_unfolding_all rfl))
  k_with "zs" => (with_reducible first
  | ((show wpAny _ _ (eval _ _) _ _ _); k_extra "ze")
  | ((show wpAny _ _ (execs _ _) _ _ _); k_extra "zx")
  | (refine z_store (by assumption) (by assumption) (by k_extra "zm") ?_; intro _ _ _)
  | refine wpAny_truthy_bool ?_
  | refine spliced_more ?_ (by with_unfolding_all rfl)
  | refine spliced_none ?_
  | ((show wpAny _ _ (PySem.isTrue _ _ _) _ _ _); k_extra "zf")
  | refine z_add ?_
  | refine z_sub ?_
  | refine eq_int ?_
  | refine ne_int ?_
  | refine lt_int ?_
  | refine le_int ?_
  | refine gt_int ?_
  | refine ge_int ?_
  | refine eq_str ?_
  | refine ne_str ?_
  | refine is_none ?_
  | refine z_neg ?_
  | refine z_not ?_
  | refine z_tt ?_
  | refine z_ff ?_
  | refine z_nf ?_
  | refine z_nt ?_
  | refine z_appM (by assumption) (by k_extra "zm") ?_ (by with_unfolding_all rfl)
  | refine z_both (by assumption) (by assumption) ?_
  | refine z_at (by assumption) (by assumption) (by assumption) ?_
  | refine z_atL (by assumption) (by assumption) (by k_extra "zm") (by k_extra "zm") (by with_unfolding_all k_get) rfl (by kernel_rfl) ?_
  | (refine z_tuple (by assumption) (Nat.le_of_ble_eq_true rfl) ?_; intro _ _ _ _ _)
  | (refine z_list (by assumption) (Nat.le_of_ble_eq_true rfl) ?_; intro _ _ _ _ _)
  | (refine z_put2 (by assumption) (by assumption) (by assumption) (by k_extra "zm") (by k_extra "zm") (SF.tup (by assumption) (by k_extra "zm")) ?_; intro _ _ _)
  | (refine z_put3 (by assumption) (by assumption) (by assumption) (by k_extra "zm") (by k_extra "zm") (by k_extra "zm") (SF.tup (by assumption) (by k_extra "zm")) ?_; intro _ _ _)
  | refine seqK_ret ?_
  | refine seqK_next ?_
  | refine chain_link ?_
  | refine chain_last ?_
  | refine chain_lastE ?_
  | refine test_lastE ?_
  | refine test_link ?_
  | refine test_last ?_
  | intro _)
  k_with "zc" => (refine z_setA (by assumption) (by assumption) (by k_extra "zm") (by k_extra "zm") (by kernel_rfl) (by k_get) (by k_put) (Nat.le_of_ble_eq_true rfl) (by k_extra "zm") ?_; intro _ _ _)
  trivial
theorem fill0 : PySem.Challenge.rw_qd0112_01 = PySem.Challenge.rw_qd0112_01 ∧ Mine.kk.heap_1 = Mine.kk.heap_1 := by k_fill; exact ⟨rfl, rfl⟩
set_option maxHeartbeats 400000
section
variable {w : World} {A : Around} {E : Value → Shared → Prop} {h : Heap} {g : Array GenState} {dr : Drawn} {tk : Nat} {os : OsState} {Q : Value → Shared → Prop}
  {p ds ln de sec lp dl : Addr} {rows : List Row} {vs : List Value} {Ts : List Addr} {tx : Tok}
/-- settled: no equates, so the same -/
theorem s_plain {a : Addr} {x y : Str} {t u : Tok} {n : Nat} (G : GR (kk.heap_1 w.params) h) (M : Rm A (n + 4)) (P : Prog PySem.Challenge.pw_qd0112_01 w (kk.heap_1 w.params) h p rows ds ln de sec lp dl vs Ts tx) (h1 : AttrIs (kk.heap_1 w.params) h a 192 "plus" (.str x t)) (h2 : AttrIs (kk.heap_1 w.params) h a 192 "minus" (.str y u))
   (q : ∀ h' tk' , (∀ b o, h.get? b = some o → h'.get? b = some o) → Q (.ref a) ⟨h', g, dr, tk', os⟩) :
   wpAny (model PySem.Challenge.pw_qd0112_01 w) A (call (.ref 310) [.ref p, .ref a]) Q E ⟨h, g, dr, tk, os⟩ := by
  refine wk ?_ ?_
  · refine enter (ps := ["program", "affine"]) (rest := []) (vs := [.ref p, .ref a]) ["program", "affine"] [("Scope", .ref 243)] [] G M (by k_is) (by k_is) (BindsTo.of_eq rfl) rfl rfl (by kernel_rfl) ?_
    intro A' env L' h₁ tk' M' V S
    have pe := P.equates
    refine z_try ?_
    kd_subs
    refine z_make (fI := 216) ‹SF h L' _ _ _› G M' (by kernel_rfl) ?_
    intro x dx h₂ A₂ M₂ S₂
    refine enterI (ps := ["self", "equates"]) (rest := []) (vs := [.ref x, .ref de]) ["self", "equates"] [] [] S₂ G M₂ (by k_is) (by k_is) (by exact binds_K ((G.keeps S₂.keep).inK) rfl (by k_is) rfl rfl rfl) rfl rfl (by kernel_rfl) ?_
    intro A₃ env₃ L₃ gb h₃ tk₃ M₃ V₃ G₃ k₃ S₃
    kd_subs
    refine z_no rfl ?_
    kd_subs
    refine z_setA (by assumption) (by assumption) (by k_memK) (by k_memK) (by kernel_rfl) (by k_get) (by k_put) (Nat.le_of_ble_eq_true rfl) (by k_memK) ?_
    kd_subs
    refine z_back (by assumption) fun S₄ => ⟨rfl, ?_⟩
    refine z_meth (G.keeps S₄.keep) (MethIs.of (f := 240) S₄ (by k_memK) (by k_memK) (by k_get) (by kernel_rfl)) ?_ (by with_unfolding_all rfl) (by with_unfolding_all rfl)
    kd_subs
    have sa := AttrIs.of (K := (kk.heap_1 w.params)) S₄ (x := x) (C := 243) (name := "equates") (v := .ref de) (by k_memK) (by k_memK) (by k_get) rfl (by kernel_rfl)
    have G₄ := G.keeps S₄.keep
    have h1' := h1.keeps S₄.keep
    have h2' := h2.keeps S₄.keep
    have de' := DictOf.keeps P.dE S₄.keep
    have k₄ := S₄.keep
    refine enterK (binds := [("self", .ref x), ("affine", .ref a)]) (ps := ["self", "affine"]) (rest := []) (vs := [.ref x, .ref a]) ["self", "affine"] [] [] G₄ M' (by k_is) (by k_is) (BindsTo.of_eq rfl) (by kernel_rfl) (by kernel_rfl) rfl rfl (by kernel_rfl) ?_
    intro A₅ env₅ L₅ h₅ tk₅ cells M₅ V₅ e₅ c₅ Y₅ S₅
    kd_subs
    refine z_notin (strKind_is _ _ _ _) P.no1 (DictOf.keeps de' S₅.keep) ?_
    kd_subs
    refine z_yes rfl ?_
    kd_subs
    refine z_notin (strKind_is _ _ _ _) P.no1 (DictOf.keeps de' S₅.keep) ?_
    kd_subs
    refine z_yes rfl ?_
    kd_subs

    exact q _ _ fun b o e => S₅.keep _ _ (k₄ _ _ e)
  kct_strs
end
section
variable {w : World} {A : Around} {E : Value → Shared → Prop} {h : Heap} {g : Array GenState} {dr : Drawn} {tk : Nat} {os : OsState} {Q : Value → Shared → Prop}
  {p ds ln de sec lp dl : Addr} {rows : List Row} {vs : List Value} {Ts : List Addr} {tx : Tok}
theorem s_find {i : Nat} {t : Tok} {n : Nat} (G : GR (kk.heap_1 w.params) h) (M : Rm A (n + 1)) (P : Prog PySem.Challenge.pw_qd0112_01 w (kk.heap_1 w.params) h p rows ds ln de sec lp dl vs Ts tx) (hi : i ≤ rows.length)
   (q : ∀ T h' tk' t' u', (∀ b o, h.get? b = some o → h'.get? b = some o) → h.get? T = none → h'.get? T = some ⟨.type "tuple", none, .seq #[.str ".text" tx, .int i t', .int 0 u'] 0, #[]⟩ → Q (.ref T) ⟨h', g, dr, tk', os⟩) :
   wpAny (model PySem.Challenge.pw_qd0112_01 w) A (call (.ref 303) [.ref p, .str (lbl i) t]) Q E ⟨h, g, dr, tk, os⟩ := by
  refine wk ?_ ?_
  · refine enter (ps := ["program", "name"]) (rest := ["section", "labels", "piece", "offset"]) (vs := [.ref p, .str (lbl i) t]) ["program", "name", "section", "labels", "piece", "offset"] [] [] G M (by k_is) (by k_is) (BindsTo.of_eq rfl) rfl rfl (by kernel_rfl) ?_
    intro A' env L' h₁ tk' M' V S
    have p1 := P.sections
    have p2 := P.names
    have p3 := P.labels
    obtain ⟨T, hT⟩ : ∃ T, Ts[i]? = some T := ⟨_, List.getElem?_eq_getElem (by rw [P.tlen]; omega)⟩
    obtain ⟨t₁, u₁, hTT⟩ := P.tups i T hT
    refine z_forS ?_
    kd_subs
    refine z_listLoop (vs := [.str ".text" tx]) (fun _ _ => False) (Er_none (Er := fun _ _ => False)) (fun j f nw => j = 0 ∧ f 0 = some (.ref p) ∧ f 1 = some (.str (lbl i) t) ∧ nw = []) [] M'.handled V (by assumption) (by k_memK) (IsList.keeps' P.lN (SF.keep (by assumption))) (.inl (let ⟨o, ho, _⟩ := P.lN; ⟨o, ho⟩)) (fun _ _ _ _ _ hp => nomatch hp) ⟨rfl, rfl, rfl, rfl⟩ ?_ ?_
    · rintro j v h₂ tk₂ f nw own Tg hgo hv ⟨rfl, f0, f1, rfl⟩ S₂
      simp only [List.getElem?_cons_zero, Option.some.injEq] at hv
      subst hv
      rw [List.nil_append] at S₂
      kd_subs
      refine z_key (strKind_is _ _ _ _) (DictOf.keeps P.dS (SF.keep (by assumption))) rfl (by with_unfolding_all rfl) ?_
      kd_subs
      refine z_in (strKind_is _ _ _ _) P.no2 (DictOf.keeps P.dL (SF.keep (by assumption))) ?_
      rw [Lab_at P.dL hT]
      kd_subs
      refine z_yes rfl ?_
      kd_subs
      refine z_key (strKind_is _ _ _ _) (DictOf.keeps P.dL (SF.keep (by assumption))) (Lab_at P.dL hT) (by with_unfolding_all rfl) ?_
      kd_subs
      refine z_unpack2 M'.handled (by assumption) (IsTup.keeps' hTT (SF.keep (by assumption))) fun h₃ S₃ _ => ?_
      kd_subs
      rename_i T' h₄ S₄ _ hno
      exact hgo _ _ (q T' h₄ _ _ _ S₄.keep (S₄.nu .head) (S₄.news _ (.head _)).1)
    · rintro h₂ tk₂ f nw ⟨hj, _⟩
      cases hj
  kct_strs
end
section
variable {w : World} {A : Around} {E : Value → Shared → Prop} {h : Heap} {g : Array GenState} {dr : Drawn} {tk : Nat} {os : OsState} {Q : Value → Shared → Prop}
  {p ds ln de sec lp dl : Addr} {rows : List Row} {vs : List Value} {Ts : List Addr} {tx : Tok}
/-- the offsets in the heap -/
noncomputable def TB (prog : Program) (w : World) (h : Heap) (tb : Addr) (ws : List Int) : Prop := ∃ lo t, Tabs prog w h tb (.ref lo) (.int (off ws ws.length) t) ∧ IntsL h lo ((List.range ws.length).map (off ws))
theorem TB.keeps {prog : Program} {h' : Heap} {tb : Addr} {ws : List Int} (x : TB prog w h tb ws) (kp : ∀ a o, h.get? a = some o → h'.get? a = some o) : TB prog w h' tb ws := let ⟨lo, t, a, b⟩ := x; ⟨lo, t, a.keeps kp, b.keeps kp⟩
theorem off_range {ws : List Int} {i : Nat} (hi : i < ws.length) : ((List.range ws.length).map (off ws))[i]? = some (off ws i) := by
  rw [List.getElem?_map, List.getElem?_range hi]; rfl
theorem s_loff {i : Nat} {t : Tok} {n : Nat} {ws : List Int} {tb : Addr} (G : GR (kk.heap_1 w.params) h) (M : Rm A (n + 3)) (P : Prog PySem.Challenge.pw_qd0112_01 w (kk.heap_1 w.params) h p rows ds ln de sec lp dl vs Ts tx) (hi : i ≤ rows.length)
   (hw : ws.length = rows.length) (hr : rows.length ≤ 8) (B : TB PySem.Challenge.pw_qd0112_01 w h tb ws)
   (q : ∀ T h' tk' t', (∀ b o, h.get? b = some o → h'.get? b = some o) → h.get? T = none → h'.get? T = some ⟨.type "tuple", none, .seq #[.str ".text" tx, .int (off ws i) t'] 0, #[]⟩ → Q (.ref T) ⟨h', g, dr, tk', os⟩) :
   wpAny (model PySem.Challenge.pw_qd0112_01 w) A (call (.ref 352) [.ref p, .ref tb, .str (lbl i) t]) Q E ⟨h, g, dr, tk, os⟩ := by
  refine wk ?_ ?_
  · refine enter (ps := ["program", "tables", "name"]) (rest := ["found", "section", "piece", "more", "offsets"]) (vs := [.ref p, .ref tb, .str (lbl i) t]) ["program", "tables", "name", "found", "section", "piece", "more", "offsets"] [("find_label", .ref 303)] [("len", .builtin "len")] G M (by k_is) (by k_is) (BindsTo.of_eq rfl) rfl rfl (by kernel_rfl) ?_
    intro A' env L' h₁ tk' M' V S
    obtain ⟨lo, te, B1, vo, B2, B3, B4⟩ := B
    have hvo : vo.length = ws.length := by rw [B3, List.length_map, List.length_range]
    kd_subs
    refine s_find (G.keeps (SF.keep (by assumption))) M' (P.keeps (SF.keep (by assumption))) hi ?_
    intro T h₂ tk₂ t₂ u₂ kp hno hT
    have S₂ := SF.res ‹SF h L' _ _ _› kp hno hT
    kd_subs
    refine z_no rfl ?_
    kd_subs
    refine z_unpack3 M'.handled (by assumption) (SF.tup (by assumption) (by k_memK)) fun h₃ S₃ _ => ?_
    kd_subs
    refine z_tab M' (B1.keeps (SF.keep (by assumption))) (by with_unfolding_all rfl) ?_
    kd_subs
    refine z_len (IsList.keeps' B2 (SF.keep (by assumption))) (by omega) ?_
    kd_subs
    refine z_ite (fun hlt => ?_) (fun hge => ?_)
    · rw [decide_eq_true_eq] at hlt
      obtain ⟨t', ht'⟩ := B4 i _ (off_range (by omega))
      kd_subs
      refine z_item (IsList.keeps' B2 (SF.keep (by assumption))) (by omega) (by omega) (by rw [Int.toNat_natCast]; exact ht') (by with_unfolding_all rfl) ?_
      kd_subs
      rw [sum_zero] at *
      exact q _ _ _ _ (SF.keep (by assumption)) (SF.nu (by assumption) (by k_memK)) (SF.news (by assumption) _ (.head _)).1
    · rw [decide_eq_false_iff_not] at hge
      have he : i = ws.length := by omega
      subst he
      kd_subs
      refine z_tabE M' (B1.keeps (SF.keep (by assumption))) (SF.ekey (by assumption) (by k_memK)) (by with_unfolding_all rfl) ?_
      kd_subs
      rw [sum_zero] at *
      exact q _ _ _ _ (SF.keep (by assumption)) (SF.nu (by assumption) (by k_memK)) (SF.news (by assumption) _ (.head _)).1
  kct_strs
end
section
variable {w : World} {A : Around} {E : Value → Shared → Prop} {h : Heap} {g : Array GenState} {dr : Drawn} {tk : Nat} {os : OsState} {Q : Value → Shared → Prop}
  {p ds ln de sec lp dl : Addr} {rows : List Row} {vs : List Value} {Ts : List Addr} {tx : Tok}
theorem size_app (a b : Str) : (a ++ b).cps.size = a.cps.size + b.cps.size := by rw [Str.cps_append, Array.size_append]
theorem lbl_ne (i : Nat) : (lbl i == ("" : Str)) = false := by
  refine wk ?_ ?_
  · have h2 := size_app (Str.ofString "l") (Str.ofString (toString (i : Int)))
    have h3 : (Str.ofString "l").cps.size = 1 := by kernel_rfl
    have h4 : (Str.ofString "").cps.size = 0 := by kernel_rfl
    rw [beq_eq_false_iff_ne]
    intro e
    have h5 := congrArg (fun x : Str => x.cps.size) e
    dsimp only [lbl] at h5
    rw [h2, h3, h4] at h5
    omega
  kct_strs
theorem lbl_bne (i : Nat) : (lbl i != ("" : Str)) = true := by rw [bne, lbl_ne]; rfl
theorem s_worth {a : Addr} {s : Bool} {o p' : Nat} {c : Int} {n : Nat} {ws : List Int} {tb : Addr} (G : GR (kk.heap_1 w.params) h) (M : Rm A (n + 6)) (P : Prog PySem.Challenge.pw_qd0112_01 w (kk.heap_1 w.params) h p rows ds ln de sec lp dl vs Ts tx) (X : PieceAt (kk.heap_1 w.params) h (.ref a) (.leb s o p' c)) (ho : o ≤ rows.length) (hp : p' ≤ rows.length)
   (hw : ws.length = rows.length) (hr : rows.length ≤ 8) (B : TB PySem.Challenge.pw_qd0112_01 w h tb ws)
   (q : ∀ h' tk' t', (∀ b o, h.get? b = some o → h'.get? b = some o) → Q (.int (worth ws o p' c) t') ⟨h', g, dr, tk', os⟩) :
   wpAny (model PySem.Challenge.pw_qd0112_01 w) A (call (.ref 359) [.ref p, .ref tb, .ref a]) Q E ⟨h, g, dr, tk, os⟩ := by
  refine wk ?_ ?_
  · refine enter (ps := ["program", "tables", "piece"]) (rest := ["affine", "one", "other"]) (vs := [.ref p, .ref tb, .ref a]) ["program", "tables", "piece", "affine", "one", "other"] [("plain", .ref 310), ("label_offset", .ref 352), ("LayoutError", .ref 83)] [] G M (by k_is) (by k_is) (BindsTo.of_eq rfl) rfl rfl (by kernel_rfl) ?_
    intro A' env L' h₁ tk' M' V S
    cases X with
    | leb x1 x2 x3 x4 x5 x6 x7 =>
    rename_i fa t₁ t₂ t₃ t₄
    kd_subs
    refine s_plain (n := n) (G.keeps (SF.keep (by assumption))) (M'.mono (by omega)) (P.keeps (SF.keep (by assumption))) (x6.keeps (SF.keep (by assumption))) (x7.keeps (SF.keep (by assumption))) ?_
    intro h₂ tk₂ kp
    have S₂ := SF.keeps ‹SF h L' _ _ _› kp
    kd_subs
    by_cases e : o = p'
    · subst e
      rw [if_pos rfl] at x6 x7 ⊢
      refine z_yes (by with_unfolding_all rfl) ?_
      kd_subs
      refine z_yes (by with_unfolding_all rfl) ?_
      kd_subs
      rename_i t₉ _ _ _
      exact cast (congrArg (fun z => Q (.int z _) _) (show worth ws o o c = c by unfold worth; omega)) (q _ _ t₂ (SF.keep (by assumption)))
    · rw [if_neg e] at x6 x7 ⊢
      refine z_no (lbl_ne _) ?_
      kd_subs
      refine s_loff (n := n + 2) (G.keeps (SF.keep (by assumption))) M' (P.keeps (SF.keep (by assumption))) ho hw hr (B.keeps (SF.keep (by assumption))) ?_
      intro T₁ h₃ tk₃ t₅ kp₁ hno₁ hT₁
      have S₃ := SF.res ‹SF h L' _ _ _› kp₁ hno₁ hT₁
      kd_subs
      refine s_loff (n := n + 2) (G.keeps (SF.keep (by assumption))) M' (P.keeps (SF.keep (by assumption))) hp hw hr (B.keeps (SF.keep (by assumption))) ?_
      intro T₂ h₄ tk₄ t₆ kp₂ hno₂ hT₂
      have S₄ := SF.res ‹SF h L' _ _ _› kp₂ hno₂ hT₂
      kd_subs
      refine z_no rfl ?_
      kd_subs
      refine z_no rfl ?_
      kd_subs
      refine z_tup (l := [.str ".text" tx, .int (off ws o) t₅]) (SF.tup (by assumption) (by k_memK)) (by decide) (by decide) rfl (by with_unfolding_all rfl) ?_
      kd_subs
      refine z_tup (l := [.str ".text" tx, .int (off ws p') t₆]) (SF.tup (by assumption) (by k_memK)) (by decide) (by decide) rfl (by with_unfolding_all rfl) ?_
      kd_subs
      refine z_no (by with_unfolding_all rfl) ?_
      kd_subs
      refine z_tup (l := [.str ".text" tx, .int (off ws o) t₅]) (SF.tup (by assumption) (by k_memK)) (by decide) (by decide) rfl (by with_unfolding_all rfl) ?_
      kd_subs
      refine z_tup (l := [.str ".text" tx, .int (off ws p') t₆]) (SF.tup (by assumption) (by k_memK)) (by decide) (by decide) rfl (by with_unfolding_all rfl) ?_
      kd_subs
      rename_i t₉ _ _ _
      exact cast (congrArg (fun z => Q (.int z _) _) (show worth ws o p' c = c + off ws o - off ws p' by unfold worth; omega)) (q _ _ _ (SF.keep (by assumption)))
  kct_strs
end
section
variable {w : World} {A : Around} {E : Value → Shared → Prop} {h : Heap} {g : Array GenState} {dr : Drawn} {tk : Nat} {os : OsState} {Q : Value → Shared → Prop}
  {p ds ln de sec lp dl : Addr} {rows : List Row} {vs : List Value} {Ts : List Addr} {tx : Tok}
theorem s_fits {x : Int} {t u : Tok} {n : Nat} (G : GR (kk.heap_1 w.params) h) (M : Rm A (n + 1))
   (q : ∀ h' tk', (∀ b o, h.get? b = some o → h'.get? b = some o) → Q (.bool (decide (-128 ≤ x ∧ x ≤ 127))) ⟨h', g, dr, tk', os⟩) :
   wpAny (model PySem.Challenge.pw_qd0112_01 w) A (call (.ref 106) [.int x t, .int 8 u]) Q E ⟨h, g, dr, tk, os⟩ := by
  refine wk ?_ ?_
  · refine enter (ps := ["worth", "size"]) (rest := ["half"]) (vs := [.int x t, .int 8 u]) ["worth", "size", "half"] [] [] G M (by k_is) (by k_is) (BindsTo.of_eq rfl) rfl rfl (by kernel_rfl) ?_
    intro A' env L' h₁ tk' M' V S
    kd_subs
    refine z_shl (by decide) (by have := PySem.intBits_le_64 (k := 1) (by decide) (by decide); omega) ?_
    rw [show (1 : Int) * 2 ^ ((8 : Int) - 1).toNat = 128 by decide]
    kd_subs
    refine z_ite (fun h1 => ?_) (fun h1 => ?_)
    · rw [decide_eq_true_eq] at h1
      have e : decide (-128 ≤ x ∧ x ≤ 127) = decide (x < 128) := decide_eq_decide.mpr (by omega)
      rw [e] at q
      kd_subs
      exact q _ _ (SF.keep (by assumption))
    · rw [decide_eq_false_iff_not] at h1
      have e : decide (-128 ≤ x ∧ x ≤ 127) = decide (-128 ≤ x) := decide_eq_decide.mpr (by omega)
      rw [e] at q
      kd_subs
      exact q _ _ (SF.keep (by assumption))
  kct_strs
theorem s_near {a : Addr} {j : Bool} {t' : Nat} {c : Int} {n : Nat} (G : GR (kk.heap_1 w.params) h) (M : Rm A (n + 1)) (X : PieceAt (kk.heap_1 w.params) h (.ref a) (.jump j t' c))
   (q : ∀ h' tk' t', (∀ b o, h.get? b = some o → h'.get? b = some o) → Q (.int (if j then 5 else 6) t') ⟨h', g, dr, tk', os⟩) :
   wpAny (model PySem.Challenge.pw_qd0112_01 w) A (call (.ref 296) [.ref a]) Q E ⟨h, g, dr, tk, os⟩ := by
  refine wk ?_ ?_
  · refine enter (ps := ["piece"]) (rest := []) (vs := [.ref a]) ["piece"] [("NEAR_JUMP", .int 5 491), ("NEAR_CONDITION", .int 6 493)] [] G M (by k_is) (by k_is) (BindsTo.of_eq rfl) rfl rfl (by kernel_rfl) ?_
    intro A' env L' h₁ tk' M' V S
    cases X with
    | jump x1 x2 x3 x4 x5 x6 x7 =>
    kd_subs
    cases j with
    | true =>
      refine z_yes (by with_unfolding_all rfl) ?_
      kd_subs
      exact q _ _ _ (SF.keep (by assumption))
    | false =>
      refine z_no (by with_unfolding_all rfl) ?_
      kd_subs
      exact q _ _ _ (SF.keep (by assumption))
  kct_strs
end
section
variable {w : World} {A : Around} {E : Value → Shared → Prop} {h : Heap} {g : Array GenState} {dr : Drawn} {tk : Nat} {os : OsState} {Q : Value → Shared → Prop}
  {p ds ln de sec lp dl : Addr} {rows : List Row} {vs : List Value} {Ts : List Addr} {tx : Tok}
theorem s_target {a : Addr} {j : Bool} {t' : Nat} {c : Int} {n : Nat} (G : GR (kk.heap_1 w.params) h) (M : Rm A (n + 6)) (P : Prog PySem.Challenge.pw_qd0112_01 w (kk.heap_1 w.params) h p rows ds ln de sec lp dl vs Ts tx) (X : PieceAt (kk.heap_1 w.params) h (.ref a) (.jump j t' c)) (ht : t' ≤ rows.length)
   (q : ∀ T h' tk' t₁ t₂, (∀ b o, h.get? b = some o → h'.get? b = some o) → h.get? T = none → h'.get? T = some ⟨.type "tuple", none, .seq #[.str (lbl t') t₁, .int c t₂] 0, #[]⟩ → Q (.ref T) ⟨h', g, dr, tk', os⟩) :
   wpAny (model PySem.Challenge.pw_qd0112_01 w) A (call (.ref 317) [.ref p, .ref a]) Q E ⟨h, g, dr, tk, os⟩ := by
  refine wk ?_ ?_
  · refine enter (ps := ["program", "piece"]) (rest := ["operand", "found"]) (vs := [.ref p, .ref a]) ["program", "piece", "operand", "found"] [("plain", .ref 310), ("Affine", .ref 192), ("find_label", .ref 303)] [] G M (by k_is) (by k_is) (BindsTo.of_eq rfl) rfl rfl (by kernel_rfl) ?_
    intro A' env L' h₁ tk' M' V S
    cases X with
    | jump x1 x2 x3 x4 x5 x6 x7 =>
    rename_i i o r t1 t2 t3 t4
    kd_subs
    refine z_tup (l := [.ref r]) (IsTup.keeps' x5 (SF.keep (by assumption))) (by decide) (by decide) rfl (by with_unfolding_all rfl) ?_
    kd_subs
    rename_i te _
    refine z_make (fI := 147) ‹SF h L' _ _ _› G M' (by kernel_rfl) ?_
    intro x dx h₂ A₂ M₂ S₂
    refine enterI (ps := ["self", "worth", "plus", "minus"]) (rest := []) (vs := [.ref x, .int c t3, .str (lbl t') t4, .str "" te]) ["self", "worth", "plus", "minus"] [] [] S₂ G M₂ (by k_is) (by k_is) (by exact binds_K ((G.keeps S₂.keep).inK) rfl (by k_is) rfl rfl rfl) rfl rfl (by kernel_rfl) ?_
    intro A₃ env₃ L₃ gb h₃ tk₃ M₃ V₃ G₃ k₃ S₃
    kd_subs
    kcf_m
    kd_subs
    refine z_yes (lbl_bne _) ?_
    kd_subs
    kcf_m
    kd_subs
    refine z_yes (lbl_bne _) ?_
    kd_subs
    kcf_m
    kd_subs
    refine z_back (by assumption) fun S₄ => ⟨rfl, ?_⟩
    kd_subs
    refine s_plain (n := n + 1) (G.keeps S₄.keep) M' (P.keeps S₄.keep) (AttrIs.of S₄ (by k_memK) (by k_memK) (by k_get) rfl (by kernel_rfl)) (AttrIs.of S₄ (by k_memK) (by k_memK) (by k_get) rfl (by kernel_rfl)) ?_
    intro h₅ tk₅ kp
    have S₅ := SF.keeps S₄ kp
    kd_subs
    refine z_no (by with_unfolding_all rfl) ?_
    kd_subs
    refine z_no (lbl_ne _) ?_
    kd_subs
    refine s_find (n := n + 4) (G.keeps (SF.keep (by assumption))) M' (P.keeps (SF.keep (by assumption))) ht ?_
    intro T₁ h₆ tk₆ t₆ u₆ kp₁ hno₁ hT₁
    have S₆ := SF.res ‹SF h L' _ _ _› kp₁ hno₁ hT₁
    kd_subs
    refine z_no rfl ?_
    kd_subs
    exact q _ _ _ _ _ (SF.keep (by assumption)) (SF.nu (by assumption) (by k_memK)) (SF.news (by assumption) _ (.head _)).1
  kct_strs
/-- a piece of the section -/
theorem s_dist {a : Addr} {j : Bool} {t' i : Nat} {c : Int} {n : Nat} {ws : List Int} {tb : Addr} {u₁ u₂ u₃ : Tok} {wd : Int} (G : GR (kk.heap_1 w.params) h) (M : Rm A (n + 8)) (P : Prog PySem.Challenge.pw_qd0112_01 w (kk.heap_1 w.params) h p rows ds ln de sec lp dl vs Ts tx) (hv : vs[i]? = some (.ref a)) (hi : i < rows.length) (X : PieceAt (kk.heap_1 w.params) h (.ref a) (.jump j t' c)) (ht : t' ≤ rows.length)
   (hw : ws.length = rows.length) (hr : rows.length ≤ 8) (B : TB PySem.Challenge.pw_qd0112_01 w h tb ws)
   (q : ∀ h' tk' t₁, (∀ b o, h.get? b = some o → h'.get? b = some o) → Q (.int (off ws t' + c - (off ws i + wd)) t₁) ⟨h', g, dr, tk', os⟩) :
   wpAny (model PySem.Challenge.pw_qd0112_01 w) A (call (.ref 366) [.ref p, .ref tb, .str ".text" u₁, .int i u₂, .int wd u₃]) Q E ⟨h, g, dr, tk, os⟩ := by
  refine wk ?_ ?_
  · refine enter (ps := ["program", "tables", "section", "at", "width"]) (rest := ["name", "worth", "found"]) (vs := [.ref p, .ref tb, .str ".text" u₁, .int i u₂, .int wd u₃]) ["program", "tables", "section", "at", "width", "name", "worth", "found"] [("branch_target", .ref 317), ("label_offset", .ref 352)] [] G M (by k_is) (by k_is) (BindsTo.of_eq rfl) rfl rfl (by kernel_rfl) ?_
    intro A' env L' h₁ tk' M' V S
    obtain ⟨lo, te, B1, vo, B2, B3, B4⟩ := id B
    have hvo : vo.length = ws.length := by rw [B3, List.length_map, List.length_range]
    have p1 := P.sections
    have p2 := P.pieces
    kd_subs
    refine z_key (strKind_is _ _ _ _) (DictOf.keeps P.dS (SF.keep (by assumption))) rfl (by with_unfolding_all rfl) ?_
    kd_subs
    refine z_item (IsList.keeps' P.lP (SF.keep (by assumption))) (by omega) (by omega) (by rw [Int.toNat_natCast]; exact hv) (by with_unfolding_all rfl) ?_
    kd_subs
    refine s_target (n := n + 1) (G.keeps (SF.keep (by assumption))) M' (P.keeps (SF.keep (by assumption))) (X.keeps (SF.keep (by assumption))) ht ?_
    intro T₁ h₆ tk₆ t₆ u₆ kp₁ hno₁ hT₁
    have S₆ := SF.res ‹SF h L' _ _ _› kp₁ hno₁ hT₁
    kd_subs
    refine z_unpack2 M'.handled (by assumption) (SF.tup (by assumption) (by k_memK)) fun h₃ S₃ _ => ?_
    kd_subs
    refine z_yes (lbl_bne _) ?_
    kd_subs
    refine s_loff (n := n + 4) (G.keeps (SF.keep (by assumption))) M' (P.keeps (SF.keep (by assumption))) ht hw hr (B.keeps (SF.keep (by assumption))) ?_
    intro T₂ h₄ tk₄ t₇ kp₂ hno₂ hT₂
    have S₄ := SF.res ‹SF h L' _ _ _› kp₂ hno₂ hT₂
    kd_subs
    refine z_no rfl ?_
    kd_subs
    refine z_tup (l := [.str ".text" tx, .int (off ws t') t₇]) (SF.tup (by assumption) (by k_memK)) (by decide) (by decide) rfl (by with_unfolding_all rfl) ?_
    kd_subs
    refine z_no (by with_unfolding_all rfl) ?_
    kd_subs
    refine z_tup (l := [.str ".text" tx, .int (off ws t') t₇]) (SF.tup (by assumption) (by k_memK)) (by decide) (by decide) rfl (by with_unfolding_all rfl) ?_
    kd_subs
    refine z_tab M' (B1.keeps (SF.keep (by assumption))) (by with_unfolding_all rfl) ?_
    kd_subs
    obtain ⟨ti, hti⟩ := B4 i _ (off_range (by omega))
    refine z_item (IsList.keeps' B2 (SF.keep (by assumption))) (by omega) (by omega) (by rw [Int.toNat_natCast]; exact hti) (by with_unfolding_all rfl) ?_
    kd_subs
    exact q _ _ _ (SF.keep (by assumption))
  kct_strs
end
section
variable {w : World} {A : Around} {E : Value → Shared → Prop} {h : Heap} {g : Array GenState} {dr : Drawn} {tk : Nat} {os : OsState} {Q : Value → Shared → Prop}
theorem s_octets {l : Addr} {vs : List Value} {gs : List Int} {n : Nat} (G : GR (kk.heap_1 w.params) h) (M : Rm A (n + 3)) (hl : h.IsList l vs.toArray) (hi : IntsAre vs gs) (hr : ∀ x ∈ gs, 0 ≤ x ∧ x < 128) (h1 : 1 ≤ gs.length) (h3 : gs.length ≤ 3)
   (q : ∀ h' tk' t bs, (∀ b o, h.get? b = some o → h'.get? b = some o) → bs.size = gs.length → Q (.bytes bs t) ⟨h', g, dr, tk', os⟩) :
   wpAny (model PySem.Challenge.pw_qd0112_01 w) A (call (.ref 111) [.ref l]) Q E ⟨h, g, dr, tk, os⟩ := by
  refine wk ?_ ?_
  · refine enter (ps := ["groups"]) (rest := ["octets"]) (vs := [.ref l]) ["groups", "octets"] [("MOST_LEB", .int 10 196), ("EncodeError", .ref 59)] [("len", .builtin "len"), ("bytes", .type "bytes")] G M (by k_is) (by k_is) (BindsTo.of_eq rfl) rfl rfl (by kernel_rfl) ?_
    intro A' env L' h₁ tk' M' V S
    have hlen := hi.length
    kd_subs
    refine z_len (IsList.keeps' hl (SF.keep (by assumption))) (by omega) ?_
    kd_subs
    refine z_no (by rw [decide_eq_false_iff_not]; omega) ?_
    kd_subs
    have hl₁ := IsList.keeps' hl (SF.keep (by assumption))
    have S₁ := S
    refine z_cList (cs := _) (i₀ := 0) ["group"] [] [] (fun i f nw ys => nw = [] ∧ ys.length = i ∧ IntsAre ys ((gs.take i).map (128 + ·))) M'.handled V (relab0 (by kernel_rfl)) (by kernel_rfl) (cell0 (by kernel_rfl)) rfl (by k_memK) hl₁ (by omega) ⟨rfl, rfl, .nil⟩ ?_ ?_
    · rintro C i v h₂ tk₂ f nw own ys Tg hgo hv ⟨rfl, hy, hys⟩ VC e S₂
      refine z_tests0 ?_
      rw [List.nil_append] at S₂
      obtain ⟨x, hx⟩ : ∃ x, gs[i]? = some x := ⟨_, List.getElem?_eq_getElem (by have := (List.getElem?_eq_some_iff.mp hv).1; omega)⟩
      obtain ⟨t, ht⟩ := Mine.IntsAre.get hi hx
      rw [hv] at ht
      cases ht
      kd_subs
      refine hgo _ _ (CompEnd.of (nw' := []) (by assumption) (List.Sublist.refl _) ⟨rfl, by simp [hy], ?_⟩)
      rw [List.take_add_one, hx]
      simp only [Option.toList_some, List.map_append, List.map_cons, List.map_nil]
      exact Mine.IntsAre.snoc hys
    · rintro D C oC h₂ tk₂ f nw ys ⟨rfl, hy, hys⟩ O hN
      refine post_store V S₁ (by k_memK) O hN fun h₃ tk₃ S₃ => ?_
      dsimp only [List.cons_append, List.nil_append] at S₃
      kd_subs
      have hle : gs[gs.length - 1]? = some gs[gs.length - 1] := List.getElem?_eq_getElem (by omega)
      obtain ⟨tl, htl⟩ := Mine.IntsAre.get hi hle
      have hne : ((-1 : Int) + vs.length).toNat = gs.length - 1 := by omega
      have hne' : ((-1 : Int) + ys.length).toNat = gs.length - 1 := by omega
      refine z_itemNeg (IsList.keeps' hl (SF.keep (by assumption))) (by decide) (by omega) (by omega) (by rw [hne]; exact htl) (by with_unfolding_all rfl) ?_
      kd_subs
      refine z_setLneg (vs := ys) (by assumption) (by k_memK) LObj.listOf (by decide) (by omega) (by omega) fun h₄ o' S₄ hO => ?_
      dsimp only [List.set] at S₄
      rw [hne'] at hO
      kd_subs
      have hys' := Mine.IntsAre.set (x := gs[gs.length - 1]) (t := tl) hys (gs.length - 1)
      refine z_bytes M' (hO.at (by assumption) (by k_memK)) hys' (fun z hz => ?_) (by simp; omega) fun h₅ t₅ tk₅ bs kp hbs => ?_
      · rcases List.mem_or_eq_of_mem_set hz with hz | rfl
        · obtain ⟨y, hy', rfl⟩ := List.mem_map.mp hz
          have := hr y (List.mem_of_mem_take hy')
          omega
        · have := hr _ (List.mem_of_getElem? hle)
          omega
      · kd_subs
        refine q _ _ _ _ (fun b o e => kp b o (SF.keep (by assumption) b o e)) (hbs.trans ?_)
        simp; omega
  kct_strs
end
section
/-- what holds between the turns of the loops of sleb and uleb -/
inductive GrI (x : Int) (tx : Tok) (P : Int → Nat → Prop) (j : Nat) (f : Nat → Option Value) (nw : List (Addr × Obj)) : Prop
  | mk (gl : Addr) (vs : List Value) (gs : List Int) (c : Nat) (r : Int) (t : Tok) (f0 : f 0 = some (.int x tx)) (f1 : f 1 = some (.ref gl)) (f2 : f 2 = some (.int r t)) (en : nw = [(gl, listOf (List.toArray vs) c)]) (hi : IntsAre vs gs) (hr : ∀ y ∈ gs, 0 ≤ y ∧ y < 128) (hj : j + gs.length = 3) (hk : P r gs.length) : GrI x tx P j f nw
noncomputable def uI (x r : Int) (k : Nat) : Prop := (k = 1 ∧ r = x / 128) ∨ (k = 2 ∧ r = x / 128 / 128 ∧ 128 ≤ x) ∨ (k = 3 ∧ r = 0 ∧ 16384 ≤ x)
theorem uI.le {x r : Int} {k : Nat} (h : uI x r k) : 1 ≤ k ∧ k ≤ 3 := by rcases h with ⟨rfl, _⟩ | ⟨rfl, _⟩ | ⟨rfl, _⟩ <;> decide
theorem uI.pos {x r : Int} {k : Nat} (h : uI x r k) (h0 : 0 ≤ x) : 0 ≤ r := by
  rcases h with ⟨_, rfl⟩ | ⟨_, rfl, _⟩ | ⟨_, rfl, _⟩
  · exact Int.ediv_nonneg h0 (by decide)
  · exact Int.ediv_nonneg (Int.ediv_nonneg h0 (by decide)) (by decide)
  · decide
theorem uI.next {x r : Int} {k : Nat} (h : uI x r k) (h1 : x < 2097152) (h2 : 0 < r) : uI x (r / 128) (k + 1) := by
  rcases h with ⟨rfl, rfl⟩ | ⟨rfl, rfl, _⟩ | ⟨rfl, rfl, _⟩
  · exact .inr (.inl ⟨rfl, rfl, by omega⟩)
  · exact .inr (.inr ⟨rfl, by omega, by omega⟩)
  · exact absurd h2 (by decide)
theorem uI.grp {x r : Int} {k : Nat} (h : uI x r k) (h2 : ¬ 0 < r) : (k : Int) = grp x false := by
  refine wk ?_ ?_
  · unfold Mine.grp
    rw [if_neg Bool.false_ne_true]
    rcases h with ⟨rfl, rfl⟩ | ⟨rfl, rfl, h3⟩ | ⟨rfl, rfl, h3⟩
    · rw [if_pos (by omega)]; rfl
    · rw [if_neg (by omega), if_pos (by omega)]; rfl
    · rw [if_neg (by omega), if_neg (by omega)]; rfl
  kct_strs
variable {w : World} {A : Around} {E : Value → Shared → Prop} {h : Heap} {g : Array GenState} {dr : Drawn} {tk : Nat} {os : OsState} {Q : Value → Shared → Prop}
theorem and127 (x : Int) : 0 ≤ Builtin.bitAnd x 127 ∧ Builtin.bitAnd x 127 < 128 := by
  rw [bitAnd_m7]; omega
theorem s_uleb {x : Int} {tx : Tok} {n : Nat} (G : GR (kk.heap_1 w.params) h) (M : Rm A (n + 5)) (h0 : 0 ≤ x) (h1 : x < 2097152)
   (q : ∀ h' tk' t bs, (∀ b o, h.get? b = some o → h'.get? b = some o) → (bs.size : Int) = grp x false → bs.size ≤ 3 → Q (.bytes bs t) ⟨h', g, dr, tk', os⟩) :
   wpAny (model PySem.Challenge.pw_qd0112_01 w) A (call (.ref 118) [.int x tx]) Q E ⟨h, g, dr, tk, os⟩ := by
  refine wk ?_ ?_
  · refine enter (ps := ["worth"]) (rest := ["groups", "rest"]) (vs := [.int x tx]) ["worth", "groups", "rest"] [("MOST_LEB", .int 10 196), ("EncodeError", .ref 59), ("leb_octets", .ref 111)] [("len", .builtin "len")] G M (by k_is) (by k_is) (BindsTo.of_eq rfl) rfl rfl (by kernel_rfl) ?_
    intro A' env L' h₁ tk' M' V S
    kd_subs
    refine z_no (by rw [decide_eq_false_iff_not]; omega) ?_
    kd_subs
    refine z_and ?_
    kd_subs
    refine z_shr (by decide) ?_
    rw [show (2 : Int) ^ ((7 : Int).toNat) = 128 from rfl]
    kd_subs
    refine z_whileI (fun j f nw => GrI x tx (uI x) j f nw) (j := 2) (by assumption) ?_ ?_
    · refine ⟨_, [.int _ _], [_], 0, _, _, rfl, rfl, rfl, rfl, .cons _ _ .nil, fun y hy => ?_, rfl, .inl ⟨rfl, rfl⟩⟩
      rw [List.mem_singleton.mp hy]; exact and127 x
    · rintro j h₂ tk₂ f nw Tg hgo ⟨gl, vs, gs, c, r, t, f0, f1, f2, rfl, hi, hr, hj, hk⟩ S₂
      have hlen := hi.length
      have hr0 := hk.pos h0
      have hk3 := hk.le
      kd_subs
      refine z_ite (fun h2 => ?_) (fun h2 => ?_)
      · rw [decide_eq_true_eq] at h2
        kd_subs
        refine z_len (S₂.lst (by k_memK)) (by omega) ?_
        kd_subs
        refine z_yes (by rw [decide_eq_true_eq]; omega) ?_
        kd_subs
        refine z_and ?_
        kd_subs
        refine z_appI (by assumption) (by k_memK) (by omega) fun h₃ S₃ => ?_
        dsimp only [List.set] at S₃
        kd_subs
        refine z_shr (by decide) ?_
        rw [show (2 : Int) ^ ((7 : Int).toNat) = 128 from rfl]
        kd_subs
        rename_i t₄ _ h₄ tk₄ S₄
        have hn := hk.next h1 h2
        have hn3 := hn.le
        refine hgo _ _ ⟨j - 1, _, _, _, _, by omega, rfl, S₄, gl, _, gs ++ [Builtin.bitAnd r 127], _, r / 128, t₄, f0, f1, rfl, rfl, Mine.IntsAre.snoc hi, fun y hy => ?_, by rw [List.length_append, List.length_singleton]; omega, by rw [List.length_append]; exact hn⟩
        rcases List.mem_append.mp hy with hy | hy
        · exact hr y hy
        · rw [List.mem_singleton.mp hy]; exact and127 r
      · rw [decide_eq_false_iff_not] at h2
        kd_subs
        refine s_octets (n := n + 1) (G.keeps (SF.keep (by assumption))) M' (S₂.lst (by k_memK)) hi hr (by omega) (by omega) ?_
        intro h₃ tk₃ t₃ bs kp hbs
        kd_subs
        refine q _ _ _ _ (fun b o e => kp b o (S₂.keep b o e)) ?_ (by omega)
        rw [hbs]
        exact hk.grp h2
  kct_strs
end
section
noncomputable def sI (x r : Int) (k : Nat) : Prop := (k = 1 ∧ r = x) ∨ (k = 2 ∧ r = x / 128 ∧ ¬ (-64 ≤ x ∧ x < 64)) ∨ (k = 3 ∧ r = x / 128 / 128 ∧ ¬ (-8192 ≤ x ∧ x < 8192))
theorem sI.le {x r : Int} {k : Nat} (h : sI x r k) : 1 ≤ k ∧ k ≤ 3 := by rcases h with ⟨rfl, _⟩ | ⟨rfl, _⟩ | ⟨rfl, _⟩ <;> decide
theorem sI.next {x r : Int} {k : Nat} (h : sI x r k) (h0 : -1048576 ≤ x) (h1 : x < 1048576) (h2 : ¬ (-64 ≤ r ∧ r < 64)) : sI x (r / 128) (k + 1) := by
  rcases h with ⟨rfl, rfl⟩ | ⟨rfl, rfl, _⟩ | ⟨rfl, rfl, _⟩
  · exact .inr (.inl ⟨rfl, rfl, h2⟩)
  · exact .inr (.inr ⟨rfl, rfl, fun z => h2 ⟨by omega, by omega⟩⟩)
  · exact absurd ⟨by omega, by omega⟩ h2
theorem sI.grp {x r : Int} {k : Nat} (h : sI x r k) (h2 : -64 ≤ r ∧ r < 64) : (k : Int) = grp x true := by
  refine wk ?_ ?_
  · unfold Mine.grp
    rw [if_pos rfl]
    rcases h with ⟨rfl, rfl⟩ | ⟨rfl, rfl, h3⟩ | ⟨rfl, rfl, h3⟩
    · rw [if_pos h2]; rfl
    · rw [if_neg h3, if_pos ⟨by omega, by omega⟩]; rfl
    · rw [if_neg (fun z => h3 ⟨by omega, by omega⟩), if_neg h3]; rfl
  kct_strs
variable {w : World} {A : Around} {E : Value → Shared → Prop} {h : Heap} {g : Array GenState} {dr : Drawn} {tk : Nat} {os : OsState} {Q : Value → Shared → Prop}
theorem s_sleb {x : Int} {tx : Tok} {n : Nat} (G : GR (kk.heap_1 w.params) h) (M : Rm A (n + 5)) (h0 : -1048576 ≤ x) (h1 : x < 1048576)
   (q : ∀ h' tk' t bs, (∀ b o, h.get? b = some o → h'.get? b = some o) → (bs.size : Int) = grp x true → bs.size ≤ 3 → Q (.bytes bs t) ⟨h', g, dr, tk', os⟩) :
   wpAny (model PySem.Challenge.pw_qd0112_01 w) A (call (.ref 125) [.int x tx]) Q E ⟨h, g, dr, tk, os⟩ := by
  refine wk ?_ ?_
  · refine enter (ps := ["worth"]) (rest := ["groups", "rest"]) (vs := [.int x tx]) ["worth", "groups", "rest"] [("MOST_LEB", .int 10 196), ("leb_octets", .ref 111)] [("len", .builtin "len")] G M (by k_is) (by k_is) (BindsTo.of_eq rfl) rfl rfl (by kernel_rfl) ?_
    intro A' env L' h₁ tk' M' V S
    kd_subs
    refine z_and ?_
    kd_subs
    refine z_whileI (fun j f nw => GrI x tx (sI x) j f nw) (j := 2) (by assumption) ?_ ?_
    · refine ⟨_, [.int _ _], [_], 0, _, _, rfl, rfl, rfl, rfl, .cons _ _ .nil, fun y hy => ?_, rfl, .inl ⟨rfl, rfl⟩⟩
      rw [List.mem_singleton.mp hy]; exact and127 x
    · rintro j h₂ tk₂ f nw Tg hgo ⟨gl, vs, gs, c, r, t, f0, f1, f2, rfl, hi, hr, hj, hk⟩ S₂
      have hlen := hi.length
      have hk3 := hk.le
      have fin : (-64 ≤ r ∧ r < 64) → ∀ {h₃ : Heap} {tk₃ : Nat}, SF h L' h₃ (lc ["worth", "groups", "rest"] f) [(gl, listOf (List.toArray vs) c)] →
          wpAny (model PySem.Challenge.pw_qd0112_01 w) A' (call (.ref 111) [.ref gl]) (fun v s' => Q (retv (.ret v)) s') (fun _ _ => False) ⟨h₃, g, dr, tk₃, os⟩ := by
        intro h2 h₃ tk₃ S₃
        refine s_octets (n := n + 1) (G.keeps S₃.keep) M' (S₃.lst (by k_memK)) hi hr (by omega) (by omega) ?_
        intro h₄ tk₄ t₃ bs kp hbs
        refine q _ _ _ _ (fun b o e => kp b o (S₃.keep b o e)) ?_ (by omega)
        rw [hbs]
        exact hk.grp h2
      kd_subs
      refine z_ite (fun h2 => ?_) (fun h2 => ?_)
      · rw [decide_eq_true_eq] at h2
        kd_subs
        refine z_ite (fun h3 => ?_) (fun h3 => ?_)
        · rw [Bool.not_eq_true', decide_eq_false_iff_not] at h3
          kd_subs
          refine z_len (S₂.lst (by k_memK)) (by omega) ?_
          kd_subs
          refine z_yes (by rw [decide_eq_true_eq]; omega) ?_
          kd_subs
          refine z_shr (by decide) ?_
          rw [show (2 : Int) ^ ((7 : Int).toNat) = 128 from rfl]
          kd_subs
          refine z_and ?_
          kd_subs
          rename_i t₄ _ h₄ tk₄ S₄ _ _ _ _
          refine z_appI (by assumption) (by k_memK) (by omega) fun h₃ S₃ => ?_
          dsimp only [List.set] at S₃
          kd_subs
          have hn := hk.next h0 h1 (fun z => h3 z.2)
          have hn3 := hn.le
          refine hgo _ _ ⟨j - 1, _, _, _, _, by omega, rfl, S₃, gl, _, gs ++ [Builtin.bitAnd (r / 128) 127], _, r / 128, t₄, f0, f1, rfl, rfl, Mine.IntsAre.snoc hi, fun y hy => ?_, by rw [List.length_append, List.length_singleton]; omega, by rw [List.length_append]; exact hn⟩
          rcases List.mem_append.mp hy with hy | hy
          · exact hr y hy
          · rw [List.mem_singleton.mp hy]; exact and127 _
        · rw [Bool.not_eq_false', decide_eq_true_eq] at h3
          kd_subs
          exact fin ⟨h2, h3⟩ (by assumption)
      · rw [decide_eq_false_iff_not] at h2
        kd_subs
        refine z_len (S₂.lst (by k_memK)) (by omega) ?_
        kd_subs
        refine z_yes (by rw [decide_eq_true_eq]; omega) ?_
        kd_subs
        refine z_shr (by decide) ?_
        rw [show (2 : Int) ^ ((7 : Int).toNat) = 128 from rfl]
        kd_subs
        refine z_and ?_
        kd_subs
        rename_i t₄ _ h₄ tk₄ S₄ _ _ _ _
        refine z_appI (by assumption) (by k_memK) (by omega) fun h₃ S₃ => ?_
        dsimp only [List.set] at S₃
        kd_subs
        have hn := hk.next h0 h1 (fun z => h2 z.1)
        have hn3 := hn.le
        refine hgo _ _ ⟨j - 1, _, _, _, _, by omega, rfl, S₃, gl, _, gs ++ [Builtin.bitAnd (r / 128) 127], _, r / 128, t₄, f0, f1, rfl, rfl, Mine.IntsAre.snoc hi, fun y hy => ?_, by rw [List.length_append, List.length_singleton]; omega, by rw [List.length_append]; exact hn⟩
        rcases List.mem_append.mp hy with hy | hy
        · exact hr y hy
        · rw [List.mem_singleton.mp hy]; exact and127 _
  kct_strs
end
section
variable {w : World} {A : Around} {E : Value → Shared → Prop} {h : Heap} {g : Array GenState} {dr : Drawn} {tk : Nat} {os : OsState} {Q : Value → Shared → Prop}
  {p ds ln de sec lp dl : Addr} {rows : List Row} {vs : List Value} {Ts : List Addr} {tx : Tok}
/-- a piece of the section by its number -/
theorem pcs_at {i : Nat} {r : Row} (P : Prog PySem.Challenge.pw_qd0112_01 w (kk.heap_1 w.params) h p rows ds ln de sec lp dl vs Ts tx) (hr : rows[i]? = some r) : ∃ v, vs[i]? = some v ∧ PieceAt (kk.heap_1 w.params) h v r := by
  have hlt := (List.getElem?_eq_some_iff.mp hr).1
  have hlt' : i < vs.length := by rw [P.len]; exact hlt
  have hv : vs[i]? = some vs[i] := List.getElem?_eq_getElem hlt'
  exact ⟨_, hv, P.pcs i _ r hv hr⟩
theorem s_wantJ {a : Addr} {j : Bool} {t' i : Nat} {c wd : Int} {n : Nat} {ws : List Int} {tb : Addr} {u₁ u₂ u₃ : Tok} (G : GR (kk.heap_1 w.params) h) (M : Rm A (n + 9)) (P : Prog PySem.Challenge.pw_qd0112_01 w (kk.heap_1 w.params) h p rows ds ln de sec lp dl vs Ts tx) (hv : vs[i]? = some (.ref a)) (hi : i < rows.length) (X : PieceAt (kk.heap_1 w.params) h (.ref a) (.jump j t' c)) (ht : t' ≤ rows.length)
   (hw : ws.length = rows.length) (hr : rows.length ≤ 8) (B : TB PySem.Challenge.pw_qd0112_01 w h tb ws)
   (q : ∀ h' tk' t₁, (∀ b o, h.get? b = some o → h'.get? b = some o) → Q (.int (wanted ws i (.jump j t' c) wd) t₁) ⟨h', g, dr, tk', os⟩) :
   wpAny (model PySem.Challenge.pw_qd0112_01 w) A (call (.ref 373) [.ref p, .ref tb, .str ".text" u₁, .int i u₂, .int wd u₃]) Q E ⟨h, g, dr, tk, os⟩ := by
  refine wk ?_ ?_
  · refine enter (ps := ["program", "tables", "section", "at", "width"]) (rest := ["piece", "worth", "distance"]) (vs := [.ref p, .ref tb, .str ".text" u₁, .int i u₂, .int wd u₃]) ["program", "tables", "section", "at", "width", "piece", "worth", "distance"] [("leb_worth", .ref 359), ("sleb", .ref 125), ("uleb", .ref 118), ("SHORT", .int 2 489), ("branch_distance", .ref 366), ("fits_signed", .ref 106), ("near_width", .ref 296)] [("max", .builtin "max"), ("len", .builtin "len")] G M (by k_is) (by k_is) (BindsTo.of_eq rfl) rfl rfl (by kernel_rfl) ?_
    intro A' env L' h₁ tk' M' V S
    have p1 := P.sections
    have p2 := P.pieces
    have X' := X
    cases X' with
    | jump x1 x2 x3 x4 x5 x6 x7 =>
    kd_subs
    refine z_key (strKind_is _ _ _ _) (DictOf.keeps P.dS (SF.keep (by assumption))) rfl (by with_unfolding_all rfl) ?_
    kd_subs
    refine z_item (IsList.keeps' P.lP (SF.keep (by assumption))) (by omega) (by omega) (by rw [Int.toNat_natCast]; exact hv) (by with_unfolding_all rfl) ?_
    kd_subs
    refine z_no (by with_unfolding_all rfl) ?_
    kd_subs
    refine z_ite (fun h2 => ?_) (fun h2 => ?_)
    · have h2' : wd ≠ 2 := by simpa using h2
      kd_subs
      rename_i tk₅
      exact cast (congrArg (fun z => Q (.int z u₃) _) (show wanted ws i (.jump j t' c) wd = wd from if_pos (Or.inl h2'))) (q _ tk₅ u₃ (SF.keep (by assumption)))
    · have h2' : wd = 2 := by simpa using h2
      subst h2'
      kd_subs
      refine s_dist (n := n) (i := i) (G.keeps (SF.keep (by assumption))) M' (P.keeps (SF.keep (by assumption))) hv hi (X.keeps (SF.keep (by assumption))) ht hw hr (B.keeps (SF.keep (by assumption))) ?_
      intro h₃ tk₃ t₃ kp
      have S₃ := SF.keeps ‹SF h L' _ _ _› kp
      kd_subs
      refine isnot_none_gen ?_
      kd_subs
      refine z_yes rfl ?_
      kd_subs
      refine s_fits (n := n + 7) (G.keeps (SF.keep (by assumption))) M' ?_
      intro h₄ tk₄ kp₄
      have S₄ := SF.keeps ‹SF h L' _ _ _› kp₄
      kd_subs
      refine z_ite (fun h5 => ?_) (fun h5 => ?_)
      · rw [decide_eq_true_eq] at h5
        kd_subs
        have e : wanted ws i (.jump j t' c) 2 = 2 := if_pos (Or.inr (by omega))
        rw [e] at q
        exact q _ _ _ (SF.keep (by assumption))
      · rw [decide_eq_false_iff_not] at h5
        kd_subs
        refine s_near (n := n + 7) (G.keeps (SF.keep (by assumption))) M' (X.keeps (SF.keep (by assumption))) ?_
        intro h₅ tk₅ t₅ kp₅
        have e : wanted ws i (.jump j t' c) 2 = if j then 5 else 6 := if_neg (by omega)
        rw [e] at q
        exact q _ _ _ (fun b o e => kp₅ b o (SF.keep (by assumption) b o e))
  kct_strs
theorem s_wantL {a : Addr} {s : Bool} {o p' i : Nat} {c wd : Int} {n : Nat} {ws : List Int} {tb : Addr} {u₁ u₂ u₃ : Tok} (G : GR (kk.heap_1 w.params) h) (M : Rm A (n + 9)) (P : Prog PySem.Challenge.pw_qd0112_01 w (kk.heap_1 w.params) h p rows ds ln de sec lp dl vs Ts tx) (hv : vs[i]? = some (.ref a)) (hi : i < rows.length) (X : PieceAt (kk.heap_1 w.params) h (.ref a) (.leb s o p' c)) (ho : o ≤ rows.length) (hp : p' ≤ rows.length)
   (hw : ws.length = rows.length) (hr : rows.length ≤ 8) (B : TB PySem.Challenge.pw_qd0112_01 w h tb ws) (hb : -1000000 < worth ws o p' c ∧ worth ws o p' c < 1000000)
   (q : ∀ h' tk' t₁, (∀ b o, h.get? b = some o → h'.get? b = some o) → Q (.int (wanted ws i (.leb s o p' c) wd) t₁) ⟨h', g, dr, tk', os⟩) :
   wpAny (model PySem.Challenge.pw_qd0112_01 w) A (call (.ref 373) [.ref p, .ref tb, .str ".text" u₁, .int i u₂, .int wd u₃]) Q E ⟨h, g, dr, tk, os⟩ := by
  refine wk ?_ ?_
  · refine enter (ps := ["program", "tables", "section", "at", "width"]) (rest := ["piece", "worth", "distance"]) (vs := [.ref p, .ref tb, .str ".text" u₁, .int i u₂, .int wd u₃]) ["program", "tables", "section", "at", "width", "piece", "worth", "distance"] [("leb_worth", .ref 359), ("sleb", .ref 125), ("uleb", .ref 118), ("SHORT", .int 2 489), ("branch_distance", .ref 366), ("fits_signed", .ref 106), ("near_width", .ref 296)] [("max", .builtin "max"), ("len", .builtin "len")] G M (by k_is) (by k_is) (BindsTo.of_eq rfl) rfl rfl (by kernel_rfl) ?_
    intro A' env L' h₁ tk' M' V S
    have p1 := P.sections
    have p2 := P.pieces
    have X' := X
    cases X' with
    | leb x1 x2 x3 x4 x5 x6 x7 =>
    kd_subs
    refine z_key (strKind_is _ _ _ _) (DictOf.keeps P.dS (SF.keep (by assumption))) rfl (by with_unfolding_all rfl) ?_
    kd_subs
    refine z_item (IsList.keeps' P.lP (SF.keep (by assumption))) (by omega) (by omega) (by rw [Int.toNat_natCast]; exact hv) (by with_unfolding_all rfl) ?_
    kd_subs
    refine z_yes (by with_unfolding_all rfl) ?_
    kd_subs
    refine s_worth (n := n + 2) (G.keeps (SF.keep (by assumption))) M' (P.keeps (SF.keep (by assumption))) (X.keeps (SF.keep (by assumption))) ho hp hw hr (B.keeps (SF.keep (by assumption))) ?_
    intro h₃ tk₃ t₃ kp
    have S₃ := SF.keeps ‹SF h L' _ _ _› kp
    kd_subs
    cases s with
    | true =>
      refine z_ite (fun h2 => ?_) (fun h2 => ?_)
      · kd_subs
        refine s_sleb (n := n + 3) (G.keeps (SF.keep (by assumption))) M' (by omega) (by omega) ?_
        intro h₄ tk₄ t₄ bs kp₄ hbs hb3
        have S₄ := SF.keeps ‹SF h L' _ _ _› kp₄
        kd_subs
        refine z_lenB (by omega) ?_
        kd_subs
        refine z_max M'.handled (by assumption) ?_
        intro h₅ t₅ tk₅ S₅
        kd_subs
        have e : wanted ws i (.leb true o p' c) wd = max wd bs.size := by rw [hbs]; exact if_neg (fun z => by simp at z)
        rw [e] at q
        exact q _ _ _ (SF.keep (by assumption))
      · kd_subs
        refine s_sleb (n := n + 3) (G.keeps (SF.keep (by assumption))) M' (by omega) (by omega) ?_
        intro h₄ tk₄ t₄ bs kp₄ hbs hb3
        have S₄ := SF.keeps ‹SF h L' _ _ _› kp₄
        kd_subs
        refine z_lenB (by omega) ?_
        kd_subs
        refine z_max M'.handled (by assumption) ?_
        intro h₅ t₅ tk₅ S₅
        kd_subs
        have e : wanted ws i (.leb true o p' c) wd = max wd bs.size := by rw [hbs]; exact if_neg (fun z => by simp at z)
        rw [e] at q
        exact q _ _ _ (SF.keep (by assumption))
    | false =>
      refine z_ite (fun h2 => ?_) (fun h2 => ?_)
      · rw [decide_eq_true_eq] at h2
        kd_subs
        have e : wanted ws i (.leb false o p' c) wd = wd := if_pos ⟨h2, rfl⟩
        rw [e] at q
        exact q _ _ _ (SF.keep (by assumption))
      · rw [decide_eq_false_iff_not] at h2
        kd_subs
        refine s_uleb (n := n + 3) (G.keeps (SF.keep (by assumption))) M' (by omega) (by omega) ?_
        intro h₄ tk₄ t₄ bs kp₄ hbs hb3
        have S₄ := SF.keeps ‹SF h L' _ _ _› kp₄
        kd_subs
        refine z_lenB (by omega) ?_
        kd_subs
        refine z_max M'.handled (by assumption) ?_
        intro h₅ t₅ tk₅ S₅
        kd_subs
        have e : wanted ws i (.leb false o p' c) wd = max wd bs.size := by rw [hbs]; exact if_neg (fun z => h2 z.1)
        rw [e] at q
        exact q _ _ _ (SF.keep (by assumption))
  kct_strs
end
section
variable {w : World} {A : Around} {E : Value → Shared → Prop} {h : Heap} {g : Array GenState} {dr : Drawn} {tk : Nat} {os : OsState} {Q : Value → Shared → Prop}
  {p ds ln de sec lp dl : Addr} {rows : List Row} {vs : List Value} {Ts : List Addr} {tx : Tok}
theorem s_belowJ {a : Addr} {j : Bool} {t' i : Nat} {c : Int} {n : Nat} {tb : Addr} {u₁ u₂ : Tok} (G : GR (kk.heap_1 w.params) h) (M : Rm A (n + 1)) (P : Prog PySem.Challenge.pw_qd0112_01 w (kk.heap_1 w.params) h p rows ds ln de sec lp dl vs Ts tx) (hv : vs[i]? = some (.ref a)) (hi : i < rows.length) (X : PieceAt (kk.heap_1 w.params) h (.ref a) (.jump j t' c)) (hr : rows.length ≤ 8)
   (q : ∀ h' tk', (∀ b o, h.get? b = some o → h'.get? b = some o) → Q (.bool false) ⟨h', g, dr, tk', os⟩) :
   wpAny (model PySem.Challenge.pw_qd0112_01 w) A (call (.ref 380) [.ref p, .ref tb, .str ".text" u₁, .int i u₂]) Q E ⟨h, g, dr, tk, os⟩ := by
  refine wk ?_ ?_
  · refine enter (ps := ["program", "tables", "section", "at"]) (rest := ["piece"]) (vs := [.ref p, .ref tb, .str ".text" u₁, .int i u₂]) ["program", "tables", "section", "at", "piece"] [("leb_worth", .ref 359)] [] G M (by k_is) (by k_is) (BindsTo.of_eq rfl) rfl rfl (by kernel_rfl) ?_
    intro A' env L' h₁ tk' M' V S
    have p1 := P.sections
    have p2 := P.pieces
    cases X with
    | jump x1 x2 x3 x4 x5 x6 x7 =>
    kd_subs
    refine z_key (strKind_is _ _ _ _) (DictOf.keeps P.dS (SF.keep (by assumption))) rfl (by with_unfolding_all rfl) ?_
    kd_subs
    refine z_item (IsList.keeps' P.lP (SF.keep (by assumption))) (by omega) (by omega) (by rw [Int.toNat_natCast]; exact hv) (by with_unfolding_all rfl) ?_
    kd_subs
    refine z_no (by with_unfolding_all rfl) ?_
    exact q _ _ (SF.keep (by assumption))
  kct_strs
theorem s_belowL {a : Addr} {s : Bool} {o p' i : Nat} {c : Int} {n : Nat} {ws : List Int} {tb : Addr} {u₁ u₂ : Tok} (G : GR (kk.heap_1 w.params) h) (M : Rm A (n + 7)) (P : Prog PySem.Challenge.pw_qd0112_01 w (kk.heap_1 w.params) h p rows ds ln de sec lp dl vs Ts tx) (hv : vs[i]? = some (.ref a)) (hi : i < rows.length) (X : PieceAt (kk.heap_1 w.params) h (.ref a) (.leb s o p' c)) (ho : o ≤ rows.length) (hp : p' ≤ rows.length)
   (hw : ws.length = rows.length) (hr : rows.length ≤ 8) (B : TB PySem.Challenge.pw_qd0112_01 w h tb ws)
   (q : ∀ h' tk', (∀ b o, h.get? b = some o → h'.get? b = some o) → Q (.bool (isBelow ws (.leb s o p' c))) ⟨h', g, dr, tk', os⟩) :
   wpAny (model PySem.Challenge.pw_qd0112_01 w) A (call (.ref 380) [.ref p, .ref tb, .str ".text" u₁, .int i u₂]) Q E ⟨h, g, dr, tk, os⟩ := by
  refine wk ?_ ?_
  · refine enter (ps := ["program", "tables", "section", "at"]) (rest := ["piece"]) (vs := [.ref p, .ref tb, .str ".text" u₁, .int i u₂]) ["program", "tables", "section", "at", "piece"] [("leb_worth", .ref 359)] [] G M (by k_is) (by k_is) (BindsTo.of_eq rfl) rfl rfl (by kernel_rfl) ?_
    intro A' env L' h₁ tk' M' V S
    have p1 := P.sections
    have p2 := P.pieces
    have X' := X
    cases X' with
    | leb x1 x2 x3 x4 x5 x6 x7 =>
    kd_subs
    refine z_key (strKind_is _ _ _ _) (DictOf.keeps P.dS (SF.keep (by assumption))) rfl (by with_unfolding_all rfl) ?_
    kd_subs
    refine z_item (IsList.keeps' P.lP (SF.keep (by assumption))) (by omega) (by omega) (by rw [Int.toNat_natCast]; exact hv) (by with_unfolding_all rfl) ?_
    kd_subs
    refine z_yes (by with_unfolding_all rfl) ?_
    kd_subs
    cases s with
    | true =>
      kd_subs
      exact q _ _ (SF.keep (by assumption))
    | false =>
      kd_subs
      refine s_worth (n := n) (G.keeps (SF.keep (by assumption))) M' (P.keeps (SF.keep (by assumption))) (X.keeps (SF.keep (by assumption))) ho hp hw hr (B.keeps (SF.keep (by assumption))) ?_
      intro h₃ tk₃ t₃ kp
      have S₃ := SF.keeps ‹SF h L' _ _ _› kp
      kd_subs
      exact q _ _ (SF.keep (by assumption))
  kct_strs
/-- piece_length of each kind -/
theorem s_plen {i : Nat} {r : Row} {n : Nat} {lo wd : Addr} {vo : List Value} {u₂ : Tok} {x : Value} {y : Int} (G : GR (kk.heap_1 w.params) h) (M : Rm A (n + 1)) (P : Prog PySem.Challenge.pw_qd0112_01 w (kk.heap_1 w.params) h p rows ds ln de sec lp dl vs Ts tx) (hri : rows[i]? = some r) (hr : rows.length ≤ 8)
   (hlo : h.IsList lo vo.toArray) (hvo : vo[i]? = some x) (W : (∀ m, r ≠ .gap m) → ∃ kvs t, h.DictOf (intKind PySem.Challenge.pw_qd0112_01 w) wd kvs ∧ valueAt kvs (i : Int) = some (.int y t)) (hg : ∀ m, r = .gap m → y = m)
   (q : ∀ h' tk' t', (∀ b o, h.get? b = some o → h'.get? b = some o) → Q (.int y t') ⟨h', g, dr, tk', os⟩) :
   wpAny (model PySem.Challenge.pw_qd0112_01 w) A (call (.ref 331) [.ref p, .ref sec, .ref lo, .int i u₂, .ref wd]) Q E ⟨h, g, dr, tk, os⟩ := by
  refine wk ?_ ?_
  · have hi := (List.getElem?_eq_some_iff.mp hri).1
    refine enter (ps := ["program", "section", "offsets", "at", "widths"]) (rest := ["piece", "here"]) (vs := [.ref p, .ref sec, .ref lo, .int i u₂, .ref wd]) ["program", "section", "offsets", "at", "widths", "piece", "here"] [] [] G M (by k_is) (by k_is) (BindsTo.of_eq rfl) rfl rfl (by kernel_rfl) ?_
    intro A' env L' h₁ tk' M' V S
    obtain ⟨v, hv, X⟩ := pcs_at P hri
    have p2 := P.pieces
    kd_subs
    refine z_item (IsList.keeps' P.lP (SF.keep (by assumption))) (by omega) (by omega) (by rw [Int.toNat_natCast]; exact hv) (by with_unfolding_all rfl) ?_
    kd_subs
    refine z_item (IsList.keeps' hlo (SF.keep (by assumption))) (by omega) (by omega) (by rw [Int.toNat_natCast]; exact hvo) (by with_unfolding_all rfl) ?_
    kd_subs
    cases X with
    | gap x1 x2 =>
      have e := hg _ rfl
      subst e
      kd_subs
      refine z_no (by with_unfolding_all rfl) ?_
      kd_subs
      refine z_no (by with_unfolding_all rfl) ?_
      kd_subs
      refine z_no (by with_unfolding_all rfl) ?_
      kd_subs
      refine z_no (by with_unfolding_all rfl) ?_
      kd_subs
      refine z_yes (by with_unfolding_all rfl) ?_
      kd_subs
      exact q _ _ _ (SF.keep (by assumption))
    | jump x1 x2 x3 x4 x5 x6 x7 =>
      kd_subs
      refine z_no (by with_unfolding_all rfl) ?_
      kd_subs
      refine z_yes (by with_unfolding_all rfl) ?_
      kd_subs
      obtain ⟨kvs, t, W1, W2⟩ := W (fun m z => nomatch z)
      refine z_key (intKind_is _ _ _ _) (DictOf.keeps W1 (SF.keep (by assumption))) W2 (by with_unfolding_all rfl) ?_
      kd_subs
      exact q _ _ _ (SF.keep (by assumption))
    | leb x1 x2 x3 x4 x5 x6 x7 =>
      kd_subs
      refine z_no (by with_unfolding_all rfl) ?_
      kd_subs
      refine z_no (by with_unfolding_all rfl) ?_
      kd_subs
      refine z_yes (by with_unfolding_all rfl) ?_
      kd_subs
      obtain ⟨kvs, t, W1, W2⟩ := W (fun m z => nomatch z)
      refine z_key (intKind_is _ _ _ _) (DictOf.keeps W1 (SF.keep (by assumption))) W2 (by with_unfolding_all rfl) ?_
      kd_subs
      exact q _ _ _ (SF.keep (by assumption))
  kct_strs
end
noncomputable def wps : Nat → List Row → List Int → List (Nat × Int)
  | _, [], _ => []
  | _, _ :: _, [] => []
  | i, .gap _ :: rs, _ :: xs => wps (i + 1) rs xs
  | i, .jump .. :: rs, x :: xs => (i, x) :: wps (i + 1) rs xs
  | i, .leb .. :: rs, x :: xs => (i, x) :: wps (i + 1) rs xs
inductive KvI : List (Int × Value) → List (Nat × Int) → Prop
  | nil : KvI [] []
  | cons (i : Nat) (x : Int) (t : Tok) {kvs l} : KvI kvs l → KvI ((((i : Nat) : Int), .int x t) :: kvs) ((i, x) :: l)
theorem KvI.at {kvs : List (Int × Value)} {l : List (Nat × Int)} (P : KvI kvs l) : (l.map (·.1)).Nodup → ∀ {i : Nat} {x : Int}, (i, x) ∈ l → ∃ t, valueAt kvs (i : Int) = some (.int x t) := by
  induction P with
  | nil => intro _ i x hm; cases hm
  | cons j y t r ih =>
    intro nd i x hm
    rw [List.map_cons, List.nodup_cons] at nd
    rcases List.mem_cons.mp hm with e | hm
    · cases e; exact ⟨t, by simp [valueAt]⟩
    · have hne : ¬ ((j : Int) = (i : Int)) := fun e => nd.1 (by
        have : j = i := by omega
        rw [this]; exact List.mem_map_of_mem (f := (·.1)) hm)
      obtain ⟨t', h'⟩ := ih nd.2 hm
      exact ⟨t', by unfold valueAt at h' ⊢; rw [List.find?_cons_of_neg (by simpa using hne)]; exact h'⟩
theorem wps_ge : ∀ {rows : List Row} {ws : List Int} {k i : Nat} {x : Int}, (i, x) ∈ wps k rows ws → k ≤ i
  | [], _, _, _, _, h => by simp [wps] at h
  | _ :: _, [], _, _, _, h => by simp [wps] at h
  | .gap _ :: rs, _ :: xs, k, i, x, h => Nat.le_of_succ_le (wps_ge (rows := rs) (ws := xs) (by simpa [wps] using h))
  | .jump .. :: rs, y :: xs, k, i, x, h => by
    simp only [wps, List.mem_cons, Prod.mk.injEq] at h
    rcases h with ⟨rfl, _⟩ | h
    · exact Nat.le_refl _
    · exact Nat.le_of_succ_le (wps_ge h)
  | .leb .. :: rs, y :: xs, k, i, x, h => by
    simp only [wps, List.mem_cons, Prod.mk.injEq] at h
    rcases h with ⟨rfl, _⟩ | h
    · exact Nat.le_refl _
    · exact Nat.le_of_succ_le (wps_ge h)
theorem wps_nodup : ∀ (rows : List Row) (ws : List Int) (k : Nat), ((wps k rows ws).map (·.1)).Nodup
  | [], _, _ => by simp [wps]
  | _ :: _, [], _ => by simp [wps]
  | .gap _ :: rs, _ :: xs, k => by simpa [wps] using wps_nodup rs xs (k + 1)
  | .jump .. :: rs, y :: xs, k => by
    simp only [wps, List.map_cons, List.nodup_cons]
    refine ⟨fun h => ?_, wps_nodup rs xs (k + 1)⟩
    obtain ⟨p, hp, e⟩ := List.mem_map.mp h
    obtain ⟨i, x⟩ := p
    have := wps_ge hp
    simp at e; omega
  | .leb .. :: rs, y :: xs, k => by
    simp only [wps, List.map_cons, List.nodup_cons]
    refine ⟨fun h => ?_, wps_nodup rs xs (k + 1)⟩
    obtain ⟨p, hp, e⟩ := List.mem_map.mp h
    obtain ⟨i, x⟩ := p
    have := wps_ge hp
    simp at e; omega
theorem wps_mem : ∀ {rows : List Row} {ws : List Int} {k i : Nat} {r : Row} {x : Int}, rows[i]? = some r → ws[i]? = some x → (∀ m, r ≠ .gap m) → (k + i, x) ∈ wps k rows ws
  | r :: rs, y :: xs, k, 0, r', x, h1, h2, hg => by
    simp at h1 h2; subst h1; subst h2
    cases r with
    | gap m => exact absurd rfl (hg m)
    | jump => simp [wps]
    | leb => simp [wps]
  | r :: rs, y :: xs, k, i + 1, r', x, h1, h2, hg => by
    simp only [List.getElem?_cons_succ] at h1 h2
    have := wps_mem (k := k + 1) h1 h2 hg
    rw [show k + 1 + i = k + (i + 1) by omega] at this
    cases r with
    | gap m => simpa [wps] using this
    | jump => exact List.mem_cons_of_mem _ this
    | leb => exact List.mem_cons_of_mem _ this
  | [], _, _, _, _, _, h1, _, _ => by simp at h1
  | _ :: _, [], _, _, _, _, _, h2, _ => by simp at h2
/-- the widths' dict of the section -/
noncomputable def WDict (prog : Program) (w : World) (h : Heap) (wd : Addr) (rows : List Row) (ws : List Int) : Prop := ∃ kvs, h.DictOf (intKind prog w) wd kvs ∧ KvI kvs (wps 0 rows ws)
theorem WDict.keeps {prog : Program} {w : World} {h h' : Heap} {wd : Addr} {rows : List Row} {ws : List Int} (x : WDict prog w h wd rows ws) (kp : ∀ a o, h.get? a = some o → h'.get? a = some o) : WDict prog w h' wd rows ws :=
  let ⟨kvs, a, b⟩ := x; ⟨kvs, DictOf.keeps a kp, b⟩
theorem WDict.at {prog : Program} {w : World} {h : Heap} {wd : Addr} {rows : List Row} {ws : List Int} {i : Nat} {r : Row} {x : Int} (D : WDict prog w h wd rows ws) (h1 : rows[i]? = some r) (h2 : ws[i]? = some x) (hg : ∀ m, r ≠ .gap m) :
    ∃ kvs t, h.DictOf (intKind prog w) wd kvs ∧ valueAt kvs (i : Int) = some (.int x t) := by
  obtain ⟨kvs, a, b⟩ := D
  have hm := wps_mem (k := 0) h1 h2 hg
  rw [Nat.zero_add] at hm
  obtain ⟨t, ht⟩ := b.at (wps_nodup rows ws 0) hm
  exact ⟨kvs, t, a, ht⟩
theorem SF.toOwn {b h : Heap} {L : Addr} {m : Str → Option Value} {nw : List (Addr × Obj)} (S : SF b L h m nw) : Own b h nw := ⟨S.keep, fun p hp => ⟨(S.news p hp).1, (S.news p hp).2.2⟩, S.nd⟩
section
variable {w : World} {A : Around} {E : Value → Shared → Prop} {h : Heap} {g : Array GenState} {dr : Drawn} {tk : Nat} {os : OsState} {Q : Value → Shared → Prop}
  {p ds ln de sec lp dl : Addr} {rows : List Row} {vs : List Value} {Ts : List Addr} {tx : Tok}
theorem s_laid {b : Bool} {n : Nat} {ws : List Int} {wd : Addr} {u₁ : Tok} (G : GR (kk.heap_1 w.params) h) (M : Rm A (n + 2)) (P : Prog PySem.Challenge.pw_qd0112_01 w (kk.heap_1 w.params) h p rows ds ln de sec lp dl vs Ts tx) (hr : rows.length ≤ 8) (W : WOk rows ws) (hr0 : ∀ r ∈ rows, RowOk rows.length r) (D : WDict PySem.Challenge.pw_qd0112_01 w h wd rows ws)
   (q : ∀ T lo c vo t h' tk', Own h h' [(T, ⟨.type "tuple", none, .seq #[.ref lo, .int (off ws ws.length) t] 0, #[]⟩), (lo, listOf (List.toArray vo) c)] → IntsAre vo ((List.range ws.length).map (off ws)) → Q (.ref T) ⟨h', g, dr, tk', os⟩) :
   wpAny (model PySem.Challenge.pw_qd0112_01 w) A (call (.ref 338) [.ref p, .str ".text" u₁, .ref wd, .bool b]) Q E ⟨h, g, dr, tk, os⟩ := by
  refine wk ?_ ?_
  · refine enter (ps := ["program", "name", "widths", "is_strict"]) (rest := ["section", "offsets", "here", "at", "length"]) (vs := [.ref p, .str ".text" u₁, .ref wd, .bool b]) ["program", "name", "widths", "is_strict", "section", "offsets", "here", "at", "length"] [("piece_length", .ref 331), ("LayoutError", .ref 83)] [("range", .type "range"), ("len", .builtin "len"), ("max", .builtin "max")] G M (by k_is) (by k_is) (BindsTo.of_eq rfl) rfl rfl (by kernel_rfl) ?_
    intro A' env L' h₁ tk' M' V S
    have p1 := P.sections
    have p2 := P.pieces
    kd_subs
    refine z_key (v := .ref sec) (strKind_is _ _ _ _) (DictOf.keeps P.dS (SF.keep (by assumption))) rfl (by with_unfolding_all rfl) ?_
    kd_subs
    rename_i lo h₂ S₂ _ _ _ _ _ _ _ _ _ h₃ tk₃ S₃
    refine z_forS ?_
    kd_subs
    refine z_len (IsList.keeps' P.lP (SF.keep (by assumption))) (by rw [P.len]; omega) ?_
    kd_subs
    have S₄ := SF.sub (nw' := [(lo, listOf #[] 0)]) S₃ (.cons _ (.refl _))
    have hgap : ∀ (i : Nat) (r : Row) (x : Int), rows[i]? = some r → ws[i]? = some x → ∀ m, r = .gap m → x = m := fun i r x h1 h2 m e => by
      have := W.2 i r x h1 h2
      subst e; exact this
    have hpos : ∀ (i : Nat) (r : Row) (x : Int), rows[i]? = some r → ws[i]? = some x → 0 ≤ x := fun i r x h1 h2 => by
      have h3 := W.2 i r x h1 h2
      have h4 := hr0 r (List.mem_of_getElem? h1)
      cases r with
      | gap m => dsimp only at h3; subst h3; exact h4.1
      | jump => dsimp only at h3; omega
      | leb => dsimp only at h3; omega
    refine z_rangeLoop (i₀ := 7) (fun _ _ => False) (Er_none (Er := fun _ _ => False)) (fun j f nw => ∃ vo c t, f 0 = some (.ref p) ∧ f 2 = some (.ref wd) ∧ f 3 = some (.bool b) ∧ f 4 = some (.ref sec) ∧ f 5 = some (.ref lo) ∧ f 6 = some (.int (off ws j) t) ∧ nw = [(lo, listOf (List.toArray vo) c)] ∧ IntsAre vo ((List.range j).map (off ws))) M'.handled V S₄ (by k_memK) (by rw [P.len]; omega) ⟨[], 0, _, rfl, rfl, rfl, rfl, rfl, rfl, rfl, .nil⟩ ?_ ?_
    · rintro j t₅ h₅ tk₅ f nw own Tg hgo hj ⟨vo, c, t, f0, f2, f3, f4, f5, f6, rfl, hi⟩ S₅
      rw [P.len] at hj
      obtain ⟨r, hri⟩ : ∃ r, rows[j]? = some r := ⟨_, List.getElem?_eq_getElem hj⟩
      obtain ⟨y, hy⟩ : ∃ y, ws[j]? = some y := ⟨_, List.getElem?_eq_getElem (by rw [W.1]; exact hj)⟩
      have hlen := hi.length
      rw [List.length_map, List.length_range] at hlen
      have hi' := Mine.IntsAre.snoc (x := off ws j) (t := t) hi
      dsimp only [List.cons_append, List.nil_append] at S₅
      kd_subs
      refine z_appI (by assumption) (by k_memK) (by omega) fun h₆ S₆ => ?_
      dsimp only [List.set] at S₆
      kd_subs
      refine s_plen (x := .int (off ws j) t) (n := n) (G.keeps (SF.keep (by assumption))) M' (P.keeps (SF.keep (by assumption))) hri hr (SF.lst (by assumption) (by k_memK)) (by rw [← hlen]; simp) (fun hg => (D.keeps (SF.keep (by assumption))).at hri hy hg) (hgap j r y hri hy) ?_
      intro h₇ tk₇ t₇ kp₇
      have S₇ := SF.keeps S₆ kp₇
      kd_subs
      have hy0 := hpos j r y hri hy
      refine z_no (by rw [decide_eq_false_iff_not]; omega) ?_
      kd_subs
      refine z_max M'.handled (by assumption) ?_
      intro h₈ t₈ tk₈ S₈
      kd_subs
      rename_i t₉ _ h₉ tk₉ S₉
      refine hgo _ _ (LoopEnd.turn (nw' := [(lo, _)]) S₉ (.refl _) ⟨_, _, t₉, f0, f2, f3, f4, f5, ?_, rfl, ?_⟩)
      · show some (Value.int _ _) = _
        rw [off_succ hy, show max 0 y = y by omega]
      · rw [List.range_succ, List.map_append]; exact hi'
    · rintro h₅ tk₅ f nw ⟨vo, c, t, f0, f2, f3, f4, f5, f6, rfl, hi⟩ S₅
      kd_subs
      rw [show vs.length = ws.length by rw [P.len, W.1]] at *
      exact q _ _ _ _ _ _ _ (SF.toOwn (by assumption)) hi
  kct_strs
end
theorem Ints.toL {h : Heap} {l : Addr} {vs : List Value} {xs : List Int} (hl : h.IsList l vs.toArray) (x : IntsAre vs xs) : IntsL h l xs := ⟨vs, hl, x.length, fun i y e => Mine.IntsAre.get x e⟩
/-- objects that make a table, whatever the heap -/
inductive TBO (prog : Program) (w : World) (own : List (Addr × Obj)) (tb : Addr) (ws : List Int) : Prop
  | mk (K lo : Addr) (t t₂ u u₂ : Tok) (ep c : Nat) (vo : List Value) (en : own = [(K, ⟨.type "tuple", none, .seq #[.str ".text" u, .str "end" u₂] 0, #[]⟩), (lo, listOf (List.toArray vo) c), (tb, twoOf prog w t K (.ref lo) (.int (off ws ws.length) t₂) ep)]) (hi : IntsAre vo ((List.range ws.length).map (off ws))) : TBO prog w own tb ws
theorem TBO.tabs {prog : Program} {w : World} {H : Heap} {tb K : Addr} {t t₂ : Tok} {u : Tok} {ep : Nat} {u₂ : Tok} {v : Value} {x : Int}
    (h1 : H.get? K = some ⟨.type "tuple", none, .seq #[.str ".text" u, .str "end" u₂] 0, #[]⟩) (h3 : H.get? tb = some (twoOf prog w t K v (.int x t₂) ep)) : Tabs prog w H tb v (.int x t₂) :=
  ⟨K, t, ep, h3, _, _, 0, h1, rfl, rfl, .cons (strKind_is _ _ _ _) (.cons (strKind_is _ _ _ _) .nil)⟩
theorem TBO.tb {prog : Program} {w : World} {own : List (Addr × Obj)} {tb : Addr} {ws : List Int} {H : Heap} (x : TBO prog w own tb ws) (hp : ∀ p ∈ own, H.get? p.1 = some p.2) : TB prog w H tb ws := by
  obtain ⟨K, lo, t, t₂, u, u₂, ep, c, vo, rfl, hi⟩ := x
  have h1 := hp _ (.head _)
  have h2 := hp _ (.tail _ (.head _))
  have h3 := hp _ (.tail _ (.tail _ (.head _)))
  exact ⟨lo, t₂, TBO.tabs h1 h3, Ints.toL ⟨_, h2, rfl, c, rfl⟩ hi⟩
section
variable {w : World} {A : Around} {E : Value → Shared → Prop} {h : Heap} {g : Array GenState} {dr : Drawn} {tk : Nat} {os : OsState} {Q : Value → Shared → Prop}
  {p ds ln de sec lp dl : Addr} {rows : List Row} {vs : List Value} {Ts : List Addr} {tx : Tok}
theorem tbo {tb lo K : Addr} {t t₂ : Tok} {u : Tok} {ep c : Nat} {vo : List Value} {ws : List Int} {u₂ : Tok} (hi : IntsAre vo ((List.range ws.length).map (off ws))) :
    TBO PySem.Challenge.pw_qd0112_01 w [(K, ⟨.type "tuple", none, .seq #[.str ".text" u, .str "end" u₂] 0, #[]⟩), (lo, listOf (List.toArray vo) c), (tb, twoOf PySem.Challenge.pw_qd0112_01 w t K (.ref lo) (.int (off ws ws.length) t₂) ep)] tb ws := ⟨K, lo, t, t₂, u, u₂, ep, c, vo, rfl, hi⟩
theorem s_tables {b : Bool} {n : Nat} {ws : List Int} {wds wd : Addr} (G : GR (kk.heap_1 w.params) h) (M : Rm A (n + 3)) (P : Prog PySem.Challenge.pw_qd0112_01 w (kk.heap_1 w.params) h p rows ds ln de sec lp dl vs Ts tx) (hr : rows.length ≤ 8) (W : WOk rows ws) (hr0 : ∀ r ∈ rows, RowOk rows.length r) (DW : h.DictOf (strKind PySem.Challenge.pw_qd0112_01 w) wds [(".text", .ref wd)]) (D : WDict PySem.Challenge.pw_qd0112_01 w h wd rows ws)
   (q : ∀ tb own h' tk', Own h h' own → TBO PySem.Challenge.pw_qd0112_01 w own tb ws → Q (.ref tb) ⟨h', g, dr, tk', os⟩) :
   wpAny (model PySem.Challenge.pw_qd0112_01 w) A (call (.ref 387) [.ref p, .ref wds, .bool b]) Q E ⟨h, g, dr, tk, os⟩ := by
  refine wk ?_ ?_
  · refine enter (ps := ["program", "widths", "is_strict"]) (rest := ["tables", "name", "offsets", "length"]) (vs := [.ref p, .ref wds, .bool b]) ["program", "widths", "is_strict", "tables", "name", "offsets", "length"] [("laid", .ref 338)] [] G M (by k_is) (by k_is) (BindsTo.of_eq rfl) rfl rfl (by kernel_rfl) ?_
    intro A' env L' h₁ tk' M' V S
    have p1 := P.sections
    have p2 := P.pieces
    have p3 := P.names
    kd_subs
    refine z_newdict (by assumption) ?_
    intro tb h₂ S₂ _ _
    kd_subs
    refine z_forS ?_
    kd_subs
    refine z_listLoop (i₀ := 4) (vs := [.str ".text" tx]) (fun _ _ => False) (Er_none (Er := fun _ _ => False)) (fun j f nw => f 0 = some (.ref p) ∧ f 1 = some (.ref wds) ∧ f 2 = some (.bool b) ∧ f 3 = some (.ref tb) ∧ ((j = 0 ∧ nw = [(tb, dictOf [] 0)]) ∨ (j = 1 ∧ TBO PySem.Challenge.pw_qd0112_01 w nw tb ws))) [] M'.handled V (by assumption) (by k_memK) (IsList.keeps' P.lN (SF.keep (by assumption))) (.inl (let ⟨o, ho, _⟩ := P.lN; ⟨o, ho⟩)) (fun _ _ _ _ _ hp => nomatch hp) ⟨rfl, rfl, rfl, rfl, .inl ⟨rfl, rfl⟩⟩ ?_ ?_
    · rintro j v h₃ tk₃ f nw own Tg hgo hv ⟨f0, f1, f2, f3, hI⟩ S₃
      have hj : j = 0 := by have := (List.getElem?_eq_some_iff.mp hv).1; simpa using this
      subst hj
      simp only [List.getElem?_cons_zero, Option.some.injEq] at hv
      subst hv
      obtain rfl : nw = [(tb, dictOf [] 0)] := by rcases hI with ⟨_, e⟩ | ⟨e, _⟩; exact e; cases e
      dsimp only [List.cons_append, List.nil_append] at S₃
      kd_subs
      refine z_key (v := .ref wd) (strKind_is _ _ _ _) (DictOf.keeps DW (SF.keep (by assumption))) rfl (by with_unfolding_all rfl) ?_
      kd_subs
      refine s_laid (n := n) (G.keeps (SF.keep (by assumption))) M' (P.keeps (SF.keep (by assumption))) hr W hr0 (D.keeps (SF.keep (by assumption))) ?_
      intro T lo c vo t h₄ tk₄ O hi
      have S₄ := SF.ownOf ‹SF h L' _ _ _› O
      dsimp only [List.cons_append, List.nil_append] at S₄
      kd_subs
      refine z_unpack2 M'.handled (by assumption) (SF.tup (by assumption) (by k_memK)) fun h₅ S₅ _ => ?_
      kd_subs
      refine z_setkey (by assumption) (by k_memK) DObj.nil (strKind_is _ _ _ _) (by decide) ?_
      intro h₆ tk₆ o' S₆ hD
      dsimp only [List.set] at S₆
      kd_subs
      refine z_tabSet M' (by assumption) (by k_memK) hD (SF.ekey (by assumption) (by k_memK)) ?_
      intro h₇ tk₇ t₇ ep S₇
      dsimp only [List.set] at S₇
      kd_subs
      refine hgo _ _ (LoopEnd.turn (nw' := [_, _, _]) S₇ (.cons_cons _ (.cons _ (.refl _))) ⟨f0, f1, f2, f3, .inr ⟨rfl, tbo hi⟩⟩)
    · rintro h₃ tk₃ f nw ⟨f0, f1, f2, f3, hI⟩ S₃
      have hT : TBO PySem.Challenge.pw_qd0112_01 w nw tb ws := by rcases hI with ⟨e, _⟩ | ⟨_, e⟩; cases e; exact e
      kd_subs
      exact q _ _ _ _ S₃.toOwn hT
  kct_strs
end
theorem wps_lt : ∀ {rows : List Row} {ws : List Int} {k i : Nat} {x : Int}, (i, x) ∈ wps k rows ws → i < k + rows.length
  | [], _, _, _, _, h => by simp [wps] at h
  | _ :: _, [], _, _, _, h => by simp [wps] at h
  | .gap _ :: rs, _ :: xs, k, i, x, h => by
    have := wps_lt (rows := rs) (ws := xs) (k := k + 1) (by simpa [wps] using h)
    simp only [List.length_cons]; omega
  | .jump .. :: rs, y :: xs, k, i, x, h => by
    simp only [wps, List.mem_cons, Prod.mk.injEq] at h
    simp only [List.length_cons]
    rcases h with ⟨rfl, _⟩ | h
    · omega
    · have := wps_lt h; omega
  | .leb .. :: rs, y :: xs, k, i, x, h => by
    simp only [wps, List.mem_cons, Prod.mk.injEq] at h
    simp only [List.length_cons]
    rcases h with ⟨rfl, _⟩ | h
    · omega
    · have := wps_lt h; omega
theorem wps_snoc : ∀ {rows : List Row} {ws : List Int} {k : Nat} {r : Row} {x : Int}, rows.length = ws.length → wps k (rows ++ [r]) (ws ++ [x]) = wps k rows ws ++ wps (k + rows.length) [r] [x]
  | [], [], k, r, x, _ => by cases r <;> simp [wps]
  | [], _ :: _, _, _, _, h => by simp at h
  | _ :: _, [], _, _, _, h => by simp at h
  | .gap _ :: rs, _ :: xs, k, r, x, h => by
    have := wps_snoc (rows := rs) (ws := xs) (k := k + 1) (r := r) (x := x) (by simpa using h)
    simp only [List.cons_append, wps, List.length_cons]
    rw [this, show k + 1 + rs.length = k + (rs.length + 1) by omega]
  | .jump .. :: rs, y :: xs, k, r, x, h => by
    have := wps_snoc (rows := rs) (ws := xs) (k := k + 1) (r := r) (x := x) (by simpa using h)
    simp only [List.cons_append, wps, List.length_cons]
    rw [this, show k + 1 + rs.length = k + (rs.length + 1) by omega]
  | .leb .. :: rs, y :: xs, k, r, x, h => by
    have := wps_snoc (rows := rs) (ws := xs) (k := k + 1) (r := r) (x := x) (by simpa using h)
    simp only [List.cons_append, wps, List.length_cons]
    rw [this, show k + 1 + rs.length = k + (rs.length + 1) by omega]
theorem wps_len : ∀ (rows : List Row) (ws : List Int) (k : Nat), (wps k rows ws).length ≤ rows.length
  | [], _, _ => by simp [wps]
  | _ :: _, [], _ => by simp [wps]
  | .gap _ :: rs, _ :: xs, k => by have := wps_len rs xs (k + 1); simp only [wps, List.length_cons]; omega
  | .jump .. :: rs, y :: xs, k => by have := wps_len rs xs (k + 1); simp only [wps, List.length_cons]; omega
  | .leb .. :: rs, y :: xs, k => by have := wps_len rs xs (k + 1); simp only [wps, List.length_cons]; omega
theorem KvI.snoc {i : Nat} {x : Int} {t : Tok} {kvs : List (Int × Value)} {l : List (Nat × Int)} (P : KvI kvs l) : KvI (kvs ++ [((i : Int), .int x t)]) (l ++ [(i, x)]) := by
  induction P with
  | nil => exact .cons i x t .nil
  | cons j y u r ih => exact .cons j y u ih
theorem KvI.length {kvs : List (Int × Value)} {l : List (Nat × Int)} (P : KvI kvs l) : kvs.length = l.length := by
  induction P with
  | nil => rfl
  | cons j y u r ih => exact congrArg (· + 1) ih
theorem KvI.get {kvs : List (Int × Value)} {l : List (Nat × Int)} (P : KvI kvs l) : ∀ {j : Nat} {kk : Int} {v : Value}, kvs[j]? = some (kk, v) → ∃ i x t, l[j]? = some (i, x) ∧ kk = (i : Int) ∧ v = .int x t := by
  induction P with
  | nil => intro j kk v h; exact nomatch (show (none : Option (Int × Value)) = some (kk, v) from h)
  | cons i y u r ih =>
    intro j kk v h
    cases j with
    | zero =>
      have h' : some ((i : Int), Value.int y u) = some (kk, v) := h
      cases h'
      exact ⟨i, y, u, rfl, rfl, rfl⟩
    | succ j => exact ih (j := j) h
theorem KvI.absent {kvs : List (Int × Value)} {l : List (Nat × Int)} (P : KvI kvs l) : ∀ {i : Nat}, (∀ p ∈ l, p.1 ≠ i) → valueAt kvs (i : Int) = none := by
  induction P with
  | nil => intro _ _; rfl
  | cons j y u r ih =>
    intro i hn
    have hne : ¬ ((j : Int) = (i : Int)) := fun e => hn (j, y) (.head _) (Int.ofNat.inj e)
    unfold valueAt
    rw [List.find?_cons_of_neg (by simpa using hne)]
    exact ih fun p hp => hn p (.tail _ hp)
/-- an object that is the widths' dict, whatever the heap -/
noncomputable def WDO (prog : Program) (w : World) (o : Obj) (rows : List Row) (ws : List Int) : Prop := ∃ kvs, DObj (intKind prog w) o kvs ∧ KvI kvs (wps 0 rows ws)
section
variable {w : World} {A : Around} {E : Value → Shared → Prop} {h : Heap} {g : Array GenState} {dr : Drawn} {tk : Nat} {os : OsState} {Q : Value → Shared → Prop}
  {p ds ln de sec lp dl : Addr} {rows : List Row} {vs : List Value} {Ts : List Addr} {tx : Tok}
theorem s_first {n : Nat} (G : GR (kk.heap_1 w.params) h) (M : Rm A (n + 1)) (P : Prog PySem.Challenge.pw_qd0112_01 w (kk.heap_1 w.params) h p rows ds ln de sec lp dl vs Ts tx) (hr : rows.length ≤ 8)
   (q : ∀ wd o h' tk', Own h h' [(wd, o)] → (wd == sysModules) = false → WDO PySem.Challenge.pw_qd0112_01 w o rows (rows.map first) → Q (.ref wd) ⟨h', g, dr, tk', os⟩) :
   wpAny (model PySem.Challenge.pw_qd0112_01 w) A (call (.ref 345) [.ref sec]) Q E ⟨h, g, dr, tk, os⟩ := by
  refine wk ?_ ?_
  · refine enter (ps := ["section"]) (rest := ["found", "at", "piece"]) (vs := [.ref sec]) ["section", "found", "at", "piece"] [("SHORT", .int 2 489)] [("enumerate", .type "enumerate")] G M (by k_is) (by k_is) (BindsTo.of_eq rfl) rfl rfl (by kernel_rfl) ?_
    intro A' env L' h₁ tk' M' V S
    have p2 := P.pieces
    kd_subs
    refine z_newdictS (by assumption) (SF.big (fa := 345) S G (by k_is) rfl) ?_
    intro wd h₂ S₂ hd
    kd_subs
    refine z_forS ?_
    kd_subs
    refine z_enumLoop (i₀ := 2) (j₀ := 3) (fun _ _ => False) (Er_none (Er := fun _ _ => False)) (fun j f nw => f 1 = some (.ref wd) ∧ ∃ o kvs, nw = [(wd, o)] ∧ DObj (intKind PySem.Challenge.pw_qd0112_01 w) o kvs ∧ KvI kvs (wps 0 (rows.take j) ((rows.take j).map first))) [] M'.handled V (by assumption) (by k_memK) (by k_memK) (IsList.keeps' P.lP (SF.keep (by assumption))) (.inl (let ⟨o, ho, _⟩ := P.lP; ⟨o, ho⟩)) (fun _ _ _ _ _ hp => nomatch hp) ⟨rfl, _, [], rfl, DObj.nil, .nil⟩ ?_ ?_
    · rintro j t v h₃ tk₃ f nw own Tg hgo hv ⟨f1, o, kvs, rfl, hD, hK⟩ S₃
      have hj : j < rows.length := by rw [← P.len]; exact (List.getElem?_eq_some_iff.mp hv).1
      obtain ⟨r, hri⟩ : ∃ r, rows[j]? = some r := ⟨_, List.getElem?_eq_getElem hj⟩
      have X := P.pcs j v r hv hri
      have hlj : (rows.take j).length = j := by rw [List.length_take]; omega
      have hs : wps 0 (rows.take (j + 1)) ((rows.take (j + 1)).map first) = wps 0 (rows.take j) ((rows.take j).map first) ++ wps j [r] [first r] := by
        rw [List.take_add_one, hri]
        simp only [Option.toList_some, List.map_append, List.map_cons, List.map_nil]
        rw [wps_snoc (by simp), hlj, Nat.zero_add]
      have ha : valueAt kvs (j : Int) = none := hK.absent fun p hp => by
        have := wps_lt hp
        rw [hlj] at this; omega
      have hkl := hK.length
      have hle : kvs.length ≤ 1000 := by
        have := wps_len (rows.take j) ((rows.take j).map first) 0
        omega
      dsimp only [List.cons_append, List.nil_append] at S₃
      cases X with
      | gap x1 x2 =>
        kd_subs
        refine z_no (by with_unfolding_all rfl) ?_
        kd_subs
        refine z_no (by with_unfolding_all rfl) ?_
        kd_subs
        have S₉ := ‹SF h L' _ _ _›
        refine hgo _ _ (LoopEnd.turn (nw' := [_]) S₉ (.refl _) ⟨f1, o, kvs, rfl, hD, ?_⟩)
        rw [hs]; simpa [wps] using hK
      | jump x1 x2 x3 x4 x5 x6 x7 =>
        kd_subs
        refine z_yes (by with_unfolding_all rfl) ?_
        kd_subs
        refine z_setkey (by assumption) (by k_memK) hD (intKind_is _ _ _ _) hle ?_
        intro h₄ tk₄ o' S₄ hD'
        dsimp only [List.set] at S₄
        rw [stored_absent ha] at hD'
        kd_subs
        have S₉ := ‹SF h L' _ _ _›
        refine hgo _ _ (LoopEnd.turn (nw' := [_]) S₉ (.refl _) ⟨f1, o', _, rfl, hD', ?_⟩)
        rw [hs]; exact hK.snoc
      | leb x1 x2 x3 x4 x5 x6 x7 =>
        kd_subs
        refine z_no (by with_unfolding_all rfl) ?_
        kd_subs
        refine z_yes (by with_unfolding_all rfl) ?_
        kd_subs
        refine z_setkey (by assumption) (by k_memK) hD (intKind_is _ _ _ _) hle ?_
        intro h₄ tk₄ o' S₄ hD'
        dsimp only [List.set] at S₄
        rw [stored_absent ha] at hD'
        kd_subs
        have S₉ := ‹SF h L' _ _ _›
        refine hgo _ _ (LoopEnd.turn (nw' := [_]) S₉ (.refl _) ⟨f1, o', _, rfl, hD', ?_⟩)
        rw [hs]; exact hK.snoc
    · rintro h₃ tk₃ f nw ⟨f1, o, kvs, rfl, hD, hK⟩ S₃
      have e : rows.take vs.length = rows := by rw [P.len, List.take_length]
      rw [e] at hK
      kd_subs
      exact q wd o _ _ S₃.toOwn hd ⟨kvs, hD, hK⟩
  kct_strs
end
noncomputable def wpt : Nat → List Row → List Int → List (Nat × Row × Int)
  | _, [], _ => []
  | _, _ :: _, [] => []
  | i, .gap _ :: rs, _ :: xs => wpt (i + 1) rs xs
  | i, .jump j t c :: rs, x :: xs => (i, .jump j t c, x) :: wpt (i + 1) rs xs
  | i, .leb s o p c :: rs, x :: xs => (i, .leb s o p c, x) :: wpt (i + 1) rs xs
theorem wpt_wps : ∀ (rs : List Row) (xs : List Int) (k : Nat), wps k rs xs = (wpt k rs xs).map fun t => (t.1, t.2.2)
  | [], _, _ => by simp [wps, wpt]
  | _ :: _, [], _ => by simp [wps, wpt]
  | .gap _ :: rs, _ :: xs, k => by simp only [wps, wpt]; exact wpt_wps rs xs (k + 1)
  | .jump .. :: rs, y :: xs, k => by simp only [wps, wpt, List.map_cons, wpt_wps rs xs (k + 1)]
  | .leb .. :: rs, y :: xs, k => by simp only [wps, wpt, List.map_cons, wpt_wps rs xs (k + 1)]
theorem wpt_step (ws : List Int) : ∀ (rs : List Row) (xs : List Int) (k : Nat), wps k rs (stepFrom ws k rs xs) = (wpt k rs xs).map fun t => (t.1, wanted ws t.1 t.2.1 t.2.2)
  | [], _, _ => by simp [wps, wpt]
  | _ :: _, [], _ => by simp [wps, wpt, stepFrom]
  | .gap _ :: rs, _ :: xs, k => by simp only [wps, wpt, stepFrom]; exact wpt_step ws rs xs (k + 1)
  | .jump .. :: rs, y :: xs, k => by simp only [wps, wpt, stepFrom, List.map_cons, wpt_step ws rs xs (k + 1)]
  | .leb .. :: rs, y :: xs, k => by simp only [wps, wpt, stepFrom, List.map_cons, wpt_step ws rs xs (k + 1)]
theorem wpt_mem : ∀ {rs : List Row} {xs : List Int} {k i : Nat} {r : Row} {x : Int}, (i, r, x) ∈ wpt k rs xs → ∃ j, i = k + j ∧ rs[j]? = some r ∧ xs[j]? = some x ∧ ∀ m, r ≠ .gap m
  | [], _, _, _, _, _, h => by simp [wpt] at h
  | _ :: _, [], _, _, _, _, h => by simp [wpt] at h
  | .gap _ :: rs, _ :: xs, k, i, r, x, h => by
    obtain ⟨j, a, b, c, d⟩ := wpt_mem (rs := rs) (xs := xs) (k := k + 1) (by simpa [wpt] using h)
    exact ⟨j + 1, by omega, by simpa using b, by simpa using c, d⟩
  | .jump .. :: rs, y :: xs, k, i, r, x, h => by
    simp only [wpt, List.mem_cons, Prod.mk.injEq] at h
    rcases h with ⟨rfl, rfl, rfl⟩ | h
    · exact ⟨0, rfl, rfl, rfl, fun m e => nomatch e⟩
    · obtain ⟨j, a, b, c, d⟩ := wpt_mem h
      exact ⟨j + 1, by omega, by simpa using b, by simpa using c, d⟩
  | .leb .. :: rs, y :: xs, k, i, r, x, h => by
    simp only [wpt, List.mem_cons, Prod.mk.injEq] at h
    rcases h with ⟨rfl, rfl, rfl⟩ | h
    · exact ⟨0, rfl, rfl, rfl, fun m e => nomatch e⟩
    · obtain ⟨j, a, b, c, d⟩ := wpt_mem h
      exact ⟨j + 1, by omega, by simpa using b, by simpa using c, d⟩
noncomputable def chg (ws : List Int) (t : Nat × Row × Int) : Bool := wanted ws t.1 t.2.1 t.2.2 != t.2.2
theorem wpt_chg (ws : List Int) : ∀ (rs : List Row) (xs : List Int) (k : Nat), rs.length = xs.length → ((wpt k rs xs).any (chg ws) = true ↔ stepFrom ws k rs xs ≠ xs)
  | [], [], _, _ => by simp [wpt, stepFrom]
  | [], _ :: _, _, h => by simp at h
  | _ :: _, [], _, h => by simp at h
  | .gap m :: rs, y :: xs, k, h => by
    have := wpt_chg ws rs xs (k + 1) (by simpa using h)
    simp only [wpt, stepFrom]
    rw [this]
    simp [wanted]
  | .jump j t c :: rs, y :: xs, k, h => by
    have := wpt_chg ws rs xs (k + 1) (by simpa using h)
    simp only [wpt, stepFrom, List.any_cons, Bool.or_eq_true, this, ne_eq, List.cons.injEq, chg, bne_iff_ne]
    by_cases e : wanted ws k (.jump j t c) y = y <;> simp [e]
  | .leb s o p c :: rs, y :: xs, k, h => by
    have := wpt_chg ws rs xs (k + 1) (by simpa using h)
    simp only [wpt, stepFrom, List.any_cons, Bool.or_eq_true, this, ne_eq, List.cons.injEq, chg, bne_iff_ne]
    by_cases e : wanted ws k (.leb s o p c) y = y <;> simp [e]
theorem off_bound {rows : List Row} {ws : List Int} (W : WOk rows ws) (R : RowsOk rows) : ∀ i, i ≤ rows.length → 0 ≤ off ws i ∧ off ws i ≤ 9000 * (i : Int)
  | 0, _ => by simp [off]
  | i + 1, h => by
    have ih := off_bound W R i (by omega)
    obtain ⟨r, hri⟩ : ∃ r, rows[i]? = some r := ⟨_, List.getElem?_eq_getElem (by omega)⟩
    obtain ⟨x, hx⟩ : ∃ x, ws[i]? = some x := ⟨_, List.getElem?_eq_getElem (by rw [W.1]; omega)⟩
    have h3 := W.2 i r x hri hx
    have h4 := R.2 r (List.mem_of_getElem? hri)
    rw [off_succ hx]
    have hb : 0 ≤ x ∧ x ≤ 9000 := by
      cases r with
      | gap m => dsimp only at h3; subst h3; exact h4
      | jump => dsimp only at h3; omega
      | leb => dsimp only at h3; omega
    push_cast
    omega
theorem worth_bound {rows : List Row} {ws : List Int} {s : Bool} {o p : Nat} {c : Int} (W : WOk rows ws) (R : RowsOk rows) (hr : RowOk rows.length (.leb s o p c)) : -80000 < worth ws o p c ∧ worth ws o p c < 80000 := by
  refine wk ?_ ?_
  · obtain ⟨h1, h2, h3, h4⟩ := hr
    have a := off_bound W R o h1
    have b := off_bound W R p h2
    have hl := R.1
    unfold worth
    have e1 : (o : Int) ≤ 8 := by omega
    have e2 : (p : Int) ≤ 8 := by omega
    omega
  kct_strs
section
variable {w : World} {A : Around} {E : Value → Shared → Prop} {h : Heap} {g : Array GenState} {dr : Drawn} {tk : Nat} {os : OsState} {Q : Value → Shared → Prop}
  {p ds ln de sec lp dl : Addr} {rows : List Row} {vs : List Value} {Ts : List Addr} {tx : Tok}
/-- wanted_width, whatever the piece -/
theorem s_want {i : Nat} {r : Row} {wd : Int} {n : Nat} {ws : List Int} {tb : Addr} {u₁ u₂ u₃ : Tok} (G : GR (kk.heap_1 w.params) h) (M : Rm A (n + 9)) (P : Prog PySem.Challenge.pw_qd0112_01 w (kk.heap_1 w.params) h p rows ds ln de sec lp dl vs Ts tx) (hri : rows[i]? = some r) (hg : ∀ m, r ≠ .gap m) (R : RowsOk rows) (W : WOk rows ws) (B : TB PySem.Challenge.pw_qd0112_01 w h tb ws)
   (q : ∀ h' tk' t₁, (∀ b o, h.get? b = some o → h'.get? b = some o) → Q (.int (wanted ws i r wd) t₁) ⟨h', g, dr, tk', os⟩) :
   wpAny (model PySem.Challenge.pw_qd0112_01 w) A (call (.ref 373) [.ref p, .ref tb, .str ".text" u₁, .int i u₂, .int wd u₃]) Q E ⟨h, g, dr, tk, os⟩ := by
  refine wk ?_ ?_
  · have hi := (List.getElem?_eq_some_iff.mp hri).1
    obtain ⟨v, hv, X⟩ := pcs_at P hri
    have hr := R.2 r (List.mem_of_getElem? hri)
    cases X with
    | gap x1 x2 => exact absurd rfl (hg _)
    | jump x1 x2 x3 x4 x5 x6 x7 => exact s_wantJ G M P hv hi (.jump x1 x2 x3 x4 x5 x6 x7) hr.1 W.1 R.1 B q
    | leb x1 x2 x3 x4 x5 x6 x7 =>
      have := worth_bound W R hr
      exact s_wantL G M P hv hi (.leb x1 x2 x3 x4 x5 x6 x7) hr.1 hr.2.1 W.1 R.1 B (by omega) q
  kct_strs
theorem s_below {i : Nat} {r : Row} {n : Nat} {ws : List Int} {tb : Addr} {u₁ u₂ : Tok} (G : GR (kk.heap_1 w.params) h) (M : Rm A (n + 7)) (P : Prog PySem.Challenge.pw_qd0112_01 w (kk.heap_1 w.params) h p rows ds ln de sec lp dl vs Ts tx) (hri : rows[i]? = some r) (hg : ∀ m, r ≠ .gap m) (R : RowsOk rows) (W : WOk rows ws) (B : TB PySem.Challenge.pw_qd0112_01 w h tb ws)
   (q : ∀ h' tk', (∀ b o, h.get? b = some o → h'.get? b = some o) → Q (.bool (isBelow ws r)) ⟨h', g, dr, tk', os⟩) :
   wpAny (model PySem.Challenge.pw_qd0112_01 w) A (call (.ref 380) [.ref p, .ref tb, .str ".text" u₁, .int i u₂]) Q E ⟨h, g, dr, tk, os⟩ := by
  refine wk ?_ ?_
  · have hi := (List.getElem?_eq_some_iff.mp hri).1
    obtain ⟨v, hv, X⟩ := pcs_at P hri
    have hr := R.2 r (List.mem_of_getElem? hri)
    cases X with
    | gap x1 x2 => exact absurd rfl (hg _)
    | jump x1 x2 x3 x4 x5 x6 x7 => exact s_belowJ (n := n + 6) G M P hv hi (.jump x1 x2 x3 x4 x5 x6 x7) R.1 q
    | leb x1 x2 x3 x4 x5 x6 x7 => exact s_belowL G M P hv hi (.leb x1 x2 x3 x4 x5 x6 x7) hr.1 hr.2.1 W.1 R.1 B q
  kct_strs
theorem s_lengthened {n : Nat} {ws : List Int} {tb wds wd : Addr} (G : GR (kk.heap_1 w.params) h) (M : Rm A (n + 10)) (P : Prog PySem.Challenge.pw_qd0112_01 w (kk.heap_1 w.params) h p rows ds ln de sec lp dl vs Ts tx) (R : RowsOk rows) (W : WOk rows ws) (B : TB PySem.Challenge.pw_qd0112_01 w h tb ws) (DW : h.DictOf (strKind PySem.Challenge.pw_qd0112_01 w) wds [(".text", .ref wd)]) (D : WDict PySem.Challenge.pw_qd0112_01 w h wd rows ws) (hsys : (wd == sysModules) = false)
   (q : ∀ T fnd of wd' o' h' tk', Own h h' [(T, ⟨.type "tuple", none, .seq #[.ref fnd, .bool (decide (step rows ws ≠ ws))] 0, #[]⟩), (wd', o'), (fnd, of)] → DObj (strKind PySem.Challenge.pw_qd0112_01 w) of [(".text", .ref wd')] → WDO PySem.Challenge.pw_qd0112_01 w o' rows (step rows ws) → (wd' == sysModules) = false → Q (.ref T) ⟨h', g, dr, tk', os⟩) :
   wpAny (model PySem.Challenge.pw_qd0112_01 w) A (call (.ref 394) [.ref p, .ref tb, .ref wds]) Q E ⟨h, g, dr, tk, os⟩ := by
  refine wk ?_ ?_
  · refine enter (ps := ["program", "tables", "widths"]) (rest := ["found", "is_changed", "name", "at", "wanted"]) (vs := [.ref p, .ref tb, .ref wds]) ["program", "tables", "widths", "found", "is_changed", "name", "at", "wanted"] [("wanted_width", .ref 373)] [] G M (by k_is) (by k_is) (BindsTo.of_eq rfl) rfl rfl (by kernel_rfl) ?_
    intro A' env L' h₁ tk' M' V S
    have p3 := P.names
    kd_subs
    refine z_newdictS (by assumption) (SF.big (fa := 345) S G (by k_is) rfl) ?_
    intro fnd h₂ S₂ hsf
    kd_subs
    have S₃ := SF.sub (nw' := [(fnd, dictOf [] 0)]) ‹SF h L' _ _ _› (.cons _ (.refl _))
    refine z_forS ?_
    kd_subs
    refine z_listLoop (i₀ := 5) (vs := [.str ".text" tx]) (fun _ _ => False) (Er_none (Er := fun _ _ => False)) (fun j f nw => f 0 = some (.ref p) ∧ f 1 = some (.ref tb) ∧ f 2 = some (.ref wds) ∧ f 3 = some (.ref fnd) ∧ ((j = 0 ∧ f 4 = some (.bool false) ∧ nw = [(fnd, dictOf [] 0)]) ∨ (j = 1 ∧ f 4 = some (.bool (decide (step rows ws ≠ ws))) ∧ ∃ wd' o' of, nw = [(wd', o'), (fnd, of)] ∧ DObj (strKind PySem.Challenge.pw_qd0112_01 w) of [(".text", .ref wd')] ∧ WDO PySem.Challenge.pw_qd0112_01 w o' rows (step rows ws) ∧ (wd' == sysModules) = false))) [] M'.handled V S₃ (by k_memK) (IsList.keeps' P.lN (SF.keep (by assumption))) (.inl (let ⟨o, ho, _⟩ := P.lN; ⟨o, ho⟩)) (fun _ _ _ _ _ hp => nomatch hp) ⟨rfl, rfl, rfl, rfl, .inl ⟨rfl, rfl, rfl⟩⟩ ?_ ?_
    · rintro j v h₃ tk₃ f nw own Tg hgo hv ⟨f0, f1, f2, f3, hI⟩ S₃
      have hj : j = 0 := by have := (List.getElem?_eq_some_iff.mp hv).1; simpa using this
      subst hj
      simp only [List.getElem?_cons_zero, Option.some.injEq] at hv
      subst hv
      obtain ⟨f4, rfl⟩ : f 4 = some (.bool false) ∧ nw = [(fnd, dictOf [] 0)] := by rcases hI with ⟨_, e⟩ | ⟨e, _⟩; exact e; cases e
      dsimp only [List.cons_append, List.nil_append] at S₃
      kd_subs
      refine z_newdictS (by assumption) (SF.big (fa := 345) S₃ G (by k_is) rfl) ?_
      intro wd' h₄ S₄ hsw
      kd_subs
      refine z_setkey (by assumption) (by k_memK) DObj.nil (strKind_is _ _ _ _) (by decide) ?_
      intro h₆ tk₆ of S₆ hF
      dsimp only [List.set] at S₆
      kd_subs
      refine z_forS ?_
      kd_subs
      refine z_key (v := .ref wd) (strKind_is _ _ _ _) (DictOf.keeps DW (SF.keep (by assumption))) rfl (by with_unfolding_all rfl) ?_
      kd_subs
      obtain ⟨kvs, D1, D2⟩ := D
      have S₇ := ‹SF h L' _ _ _›
      have hst : ∀ {j : Nat} {i : Nat} {r : Row} {x : Int}, (wpt 0 rows ws)[j]? = some (i, r, x) → wps 0 rows (step rows ws) = (wpt 0 rows ws).map fun t => (t.1, wanted ws t.1 t.2.1 t.2.2) := fun _ => wpt_step ws rows ws 0
      have hlen : (wpt 0 rows ws).length = kvs.length := by rw [D2.length, wpt_wps, List.length_map]
      have hlen8 : kvs.length ≤ 8 := by
        have := wps_len rows ws 0
        have := R.1
        have := D2.length
        omega
      refine z_keyLoop (i₀ := 6) (fun _ _ => False) (Er_none (Er := fun _ _ => False)) (fun j f' nw => f' 0 = some (.ref p) ∧ f' 1 = some (.ref tb) ∧ f' 2 = some (.ref wds) ∧ f' 3 = some (.ref fnd) ∧ f' 5 = some (.str ".text" tx) ∧ f' 4 = some (.bool (((wpt 0 rows ws).take j).any (chg ws))) ∧
        ∃ o' kvs', nw = (wd', o') :: (fnd, of) :: own ∧ DObj (intKind PySem.Challenge.pw_qd0112_01 w) o' kvs' ∧ KvI kvs' (((wpt 0 rows ws).take j).map fun t => (t.1, wanted ws t.1 t.2.1 t.2.2))) [] M'.handled V S₇ (by k_memK) hsys (DictOf.keeps D1 (SF.keep (by assumption))) (.inl (let ⟨o, es, ep, ho, _⟩ := D1; ⟨o, ho⟩)) (fun _ _ _ _ _ hp => nomatch hp)
        ⟨f0, f1, f2, f3, rfl, f4, _, [], rfl, DObj.nil, .nil⟩ ?_ ?_
      · rintro j kk x v h₈ tk₈ f₈ nw₈ own₈ Tg hgo hk hv ⟨e0, e1, e2, e3, e5, e4, o', kvs', rfl, hD', hK'⟩ S₈
        obtain ⟨i, y, t, hl, rfl, rfl⟩ := D2.get hk
        obtain ⟨t', rfl⟩ := Value.isInt_shape hv
        rw [wpt_wps, List.getElem?_map] at hl
        obtain ⟨⟨i', r, y'⟩, hw, hl⟩ := Option.map_eq_some_iff.mp hl
        cases hl
        obtain ⟨jj, hj1, hri, hyi, hg⟩ := wpt_mem (List.mem_of_getElem? hw)
        have hjj : i' = jj := by omega
        subst hjj
        have hva : valueAt kvs (i' : Int) = some (.int y' t) := valueAt_of_get (DictOf.nodup D1) hk
        have hjl := (List.getElem?_eq_some_iff.mp hk).1
        have hF' : DObj (strKind PySem.Challenge.pw_qd0112_01 w) of [(".text", .ref wd')] := hF
        have ha : valueAt kvs' (i' : Int) = none := hK'.absent fun p hp => by
          obtain ⟨tr, htr, rfl⟩ := List.mem_map.mp hp
          intro e
          have hnd := wps_nodup rows ws 0
          rw [wpt_wps, List.map_map] at hnd
          obtain ⟨k₁, hk₁⟩ := List.mem_iff_getElem?.mp htr
          have hk₂ : k₁ < j := by
            have := (List.getElem?_eq_some_iff.mp hk₁).1
            rw [List.length_take] at this; omega
          rw [List.getElem?_take_of_lt hk₂] at hk₁
          have h1 : ((wpt 0 rows ws).map ((fun x => x.1) ∘ fun t => (t.1, t.2.2)))[k₁]? = some i' := by rw [List.getElem?_map, hk₁]; simpa using e
          have h2 : ((wpt 0 rows ws).map ((fun x => x.1) ∘ fun t => (t.1, t.2.2)))[j]? = some i' := by rw [List.getElem?_map, hw]; rfl
          have := (List.getElem?_inj (by rw [List.length_map, hlen]; omega) hnd).mp (h1.trans h2.symm)
          omega
        have hkl := hK'.length
        rw [List.length_map, List.length_take] at hkl
        have htake : (wpt 0 rows ws).take (j + 1) = (wpt 0 rows ws).take j ++ [(i', r, y')] := by rw [List.take_add_one, hw]; rfl
        generalize hc : ((wpt 0 rows ws).take j).any (chg ws) = c at e4
        have hc' : ((wpt 0 rows ws).take (j + 1)).any (chg ws) = (c || chg ws (i', r, y')) := by rw [htake, List.any_append, hc]; simp
        dsimp only [List.cons_append] at S₈
        kd_subs
        refine z_key (v := .ref wd) (strKind_is _ _ _ _) (DictOf.keeps DW (SF.keep (by assumption))) rfl (by with_unfolding_all rfl) ?_
        kd_subs
        refine z_key (intKind_is _ _ _ _) (DictOf.keeps D1 (SF.keep (by assumption))) hva (by with_unfolding_all rfl) ?_
        kd_subs
        refine s_want (n := n) (G.keeps (SF.keep (by assumption))) M' (P.keeps (SF.keep (by assumption))) hri hg R W (B.keeps (SF.keep (by assumption))) ?_
        intro h₉ tk₉ t₉ kp₉
        have S₉ := SF.keeps S₈ kp₉
        kd_subs
        refine z_key (v := .ref wd') (strKind_is _ _ _ _) (hF'.at (by assumption) (by k_memK)) rfl (by with_unfolding_all rfl) ?_
        kd_subs
        refine z_setkey (by assumption) (by k_memK) hD' (intKind_is _ _ _ _) (by omega) ?_
        intro h₁₀ tk₁₀ o₁ S₁₀ hD₁
        dsimp only [List.set] at S₁₀
        rw [stored_absent ha] at hD₁
        have hK₁ := hK'.snoc (i := i') (x := wanted ws i' r y') (t := t₉)
        kd_subs
        cases c with
        | true =>
          kd_subs
          have S₁₁ := ‹SF h L' _ _ _›
          refine hgo _ _ (LoopEnd.turn (nw' := (wd', o₁) :: (fnd, of) :: own) S₁₁ (.refl _) ⟨e0, e1, e2, e3, e5, ?_, o₁, _, rfl, hD₁, ?_⟩)
          · rw [hc']; rfl
          · rw [htake, List.map_append]; exact hK₁
        | false =>
          kd_subs
          refine z_key (v := .ref wd) (strKind_is _ _ _ _) (DictOf.keeps DW (SF.keep (by assumption))) rfl (by with_unfolding_all rfl) ?_
          kd_subs
          refine z_key (intKind_is _ _ _ _) (DictOf.keeps D1 (SF.keep (by assumption))) hva (by with_unfolding_all rfl) ?_
          kd_subs
          have S₁₁ := ‹SF h L' _ _ _›
          refine hgo _ _ (LoopEnd.turn (nw' := (wd', o₁) :: (fnd, of) :: own) S₁₁ (.refl _) ⟨e0, e1, e2, e3, e5, ?_, o₁, _, rfl, hD₁, ?_⟩)
          · rw [hc']; rfl
          · rw [htake, List.map_append]; exact hK₁
      · rintro h₈ tk₈ f₈ nw₈ ⟨e0, e1, e2, e3, e5, e4, o', kvs', rfl, hD', hK'⟩ S₈
        kd_subs
        have etake : (wpt 0 rows ws).take kvs.length = wpt 0 rows ws := by rw [← hlen, List.take_length]
        rw [etake] at e4 hK'
        refine hgo _ _ (LoopEnd.turn (nw' := [(wd', o'), (fnd, of)]) S₈ (.refl _) ⟨e0, e1, e2, e3, .inr ⟨rfl, ?_, wd', o', of, rfl, hF, ⟨kvs', hD', ?_⟩, hsw⟩⟩)
        · rw [e4]
          have := wpt_chg ws rows ws 0 W.1.symm
          congr 2
          rw [Bool.eq_iff_iff, this, decide_eq_true_eq]; rfl
        · rw [← wpt_step] at hK'; exact hK'
    · rintro h₃ tk₃ f nw ⟨f0, f1, f2, f3, hI⟩ S₃
      obtain ⟨f4, wd', o', of, rfl, hF, hW, hs⟩ : f 4 = some (.bool (decide (step rows ws ≠ ws))) ∧ ∃ wd' o' of, nw = [(wd', o'), (fnd, of)] ∧ DObj (strKind PySem.Challenge.pw_qd0112_01 w) of [(".text", .ref wd')] ∧ WDO PySem.Challenge.pw_qd0112_01 w o' rows (step rows ws) ∧ (wd' == sysModules) = false := by rcases hI with ⟨e, _⟩ | ⟨_, e⟩; cases e; exact e
      kd_subs
      exact q _ _ _ _ _ _ _ (SF.toOwn (by assumption)) hF hW hs
  kct_strs
end
noncomputable def okw : Row → Int → Prop
  | .gap n, x => x = n
  | .jump .., x => x = 2 ∨ x = 5 ∨ x = 6
  | .leb .., x => 1 ≤ x ∧ x ≤ 3
theorem WOk.ok {rows : List Row} {ws : List Int} (W : WOk rows ws) {i : Nat} {r : Row} {x : Int} (h1 : rows[i]? = some r) (h2 : ws[i]? = some x) : okw r x := by
  have := W.2 i r x h1 h2
  cases r <;> exact this
theorem WOk.of {rows : List Row} {ws : List Int} (h : ws.length = rows.length) (hh : ∀ (i : Nat) (r : Row) (x : Int), rows[i]? = some r → ws[i]? = some x → okw r x) : WOk rows ws :=
  ⟨h, fun i r x h1 h2 => by have := hh i r x h1 h2; cases r <;> exact this⟩
theorem stepFrom_len (ws : List Int) : ∀ (rs : List Row) (xs : List Int) (k : Nat), rs.length = xs.length → (stepFrom ws k rs xs).length = xs.length
  | [], [], _, _ => rfl
  | [], _ :: _, _, h => by simp at h
  | _ :: _, [], _, h => by simp at h
  | r :: rs, y :: xs, k, h => by simp only [stepFrom, List.length_cons]; rw [stepFrom_len ws rs xs (k + 1) (by simpa using h)]
theorem stepFrom_get (ws : List Int) : ∀ {rs : List Row} {xs : List Int} {k i : Nat} {r : Row} {x : Int}, rs[i]? = some r → xs[i]? = some x → (stepFrom ws k rs xs)[i]? = some (wanted ws (k + i) r x)
  | r :: rs, y :: xs, k, 0, r', x, h1, h2 => by simp at h1 h2; subst h1; subst h2; rfl
  | r :: rs, y :: xs, k, i + 1, r', x, h1, h2 => by
    simp only [List.getElem?_cons_succ] at h1 h2
    have := stepFrom_get ws (k := k + 1) h1 h2
    simp only [stepFrom, List.getElem?_cons_succ]
    rw [this, show k + 1 + i = k + (i + 1) by omega]
  | [], _, _, _, _, _, h1, _ => by simp at h1
  | _ :: _, [], _, _, _, _, _, h2 => by simp at h2
theorem grp_range (x : Int) (s : Bool) : 1 ≤ grp x s ∧ grp x s ≤ 3 := by
  refine wk ?_ ?_
  · unfold grp
    split
    · split
      · omega
      · split <;> omega
    · split
      · omega
      · split <;> omega
  kct_strs
theorem wanted_ok (ws : List Int) (i : Nat) (r : Row) (x : Int) (h : okw r x) : okw r (wanted ws i r x) := by
  refine wk ?_ ?_
  · cases r with
    | gap n => exact h
    | jump j t c =>
      unfold okw at h ⊢
      unfold wanted
      dsimp only
      split
      · exact h
      · split <;> omega
    | leb s o p c =>
      unfold okw at h ⊢
      unfold wanted
      dsimp only
      have := grp_range (worth ws o p c) s
      split
      · exact h
      · omega
  kct_strs
theorem step_ok {rows : List Row} {ws : List Int} (W : WOk rows ws) : WOk rows (step rows ws) := by
  refine wk ?_ ?_
  · refine WOk.of ((stepFrom_len ws rows ws 0 W.1.symm).trans W.1) fun i r x h1 h2 => ?_
    obtain ⟨y, hy⟩ : ∃ y, ws[i]? = some y := ⟨_, List.getElem?_eq_getElem (by rw [W.1]; exact (List.getElem?_eq_some_iff.mp h1).1)⟩
    have := stepFrom_get ws (k := 0) h1 hy
    rw [show (stepFrom ws 0 rows ws) = step rows ws from rfl, h2] at this
    cases this
    exact wanted_ok _ _ _ _ (W.ok h1 hy)
  kct_strs
theorem first_ok {rows : List Row} : WOk rows (rows.map first) := by
  refine wk ?_ ?_
  · refine WOk.of (by simp) fun i r x h1 h2 => ?_
    rw [List.getElem?_map, h1] at h2
    cases h2
    cases r with
    | gap n => rfl
    | jump => exact .inl rfl
    | leb => exact ⟨Int.le_refl 1, (by decide : (1 : Int) ≤ 3)⟩
  kct_strs
noncomputable def mw : Row → Int → Nat
  | .gap _, _ => 0
  | .jump .., x => if x = 2 then 1 else 0
  | .leb .., x => (3 - x).toNat
noncomputable def mu : List Row → List Int → Nat
  | r :: rs, x :: xs => mw r x + mu rs xs
  | _, _ => 0
theorem mw_step (ws : List Int) (i : Nat) (r : Row) (x : Int) (h : okw r x) : mw r (wanted ws i r x) ≤ mw r x ∧ (mw r (wanted ws i r x) = mw r x → wanted ws i r x = x) := by
  refine wk ?_ ?_
  · cases r with
    | gap n => exact ⟨Nat.le_refl _, fun _ => rfl⟩
    | jump j t c =>
      unfold okw at h
      unfold wanted mw
      dsimp only
      split
      · exact ⟨Nat.le_refl _, fun _ => rfl⟩
      · rename_i hn
        have hx : x = 2 := Decidable.byContradiction fun e => hn (.inl e)
        subst hx
        split <;> simp
    | leb s o p c =>
      unfold okw at h
      unfold wanted mw
      dsimp only
      have := grp_range (worth ws o p c) s
      split
      · exact ⟨Nat.le_refl _, fun _ => rfl⟩
      · constructor
        · omega
        · intro e; omega
  kct_strs
theorem mu_step (ws : List Int) : ∀ (rs : List Row) (xs : List Int) (k : Nat), rs.length = xs.length → (∀ (i : Nat) (r : Row) (x : Int), rs[i]? = some r → xs[i]? = some x → okw r x) →
    mu rs (stepFrom ws k rs xs) ≤ mu rs xs ∧ (mu rs (stepFrom ws k rs xs) = mu rs xs → stepFrom ws k rs xs = xs)
  | [], [], _, _, _ => ⟨Nat.le_refl _, fun _ => rfl⟩
  | [], _ :: _, _, h, _ => by simp at h
  | _ :: _, [], _, h, _ => by simp at h
  | r :: rs, y :: xs, k, h, hh => by
    have h1 := mw_step ws k r y (hh 0 r y rfl rfl)
    have h2 := mu_step ws rs xs (k + 1) (by simpa using h) fun i r x a b => hh (i + 1) r x (by simpa using a) (by simpa using b)
    simp only [stepFrom, mu]
    refine ⟨by omega, fun e => ?_⟩
    rw [h1.2 (by omega), h2.2 (by omega)]
theorem mu_lt {rows : List Row} {ws : List Int} (W : WOk rows ws) (h : step rows ws ≠ ws) : mu rows (step rows ws) < mu rows ws := by
  have := mu_step ws rows ws 0 W.1.symm fun i r x a b => W.ok a b
  have h1 := this.1
  rcases Nat.lt_or_ge (mu rows (step rows ws)) (mu rows ws) with h2 | h2
  · exact h2
  · exact absurd (this.2 (Nat.le_antisymm h1 h2)) h
inductive Reach (rows : List Row) : List Int → Prop
  | base : Reach rows (rows.map first)
  | next {ws} : Reach rows ws → Reach rows (step rows ws)
theorem Reach.ok {rows : List Row} {ws : List Int} (r : Reach rows ws) : WOk rows ws := by
  induction r with
  | base => exact first_ok
  | next _ ih => exact step_ok ih
noncomputable def it (rows : List Row) : Nat → List Int
  | 0 => rows.map first
  | k + 1 => step rows (it rows k)
theorem Reach.it {rows : List Row} {ws : List Int} (r : Reach rows ws) : ∃ k, ws = Mine.it rows k := by
  induction r with
  | base => exact ⟨0, rfl⟩
  | next _ ih => obtain ⟨k, rfl⟩ := ih; exact ⟨k + 1, rfl⟩
theorem it_fix {rows : List Row} {k : Nat} (h : step rows (it rows k) = it rows k) : ∀ n, it rows (k + n) = it rows k
  | 0 => rfl
  | n + 1 => by show step rows (it rows (k + n)) = _; rw [it_fix h n, h]
theorem fix_eq {rows : List Row} {a b : List Int} (ra : Reach rows a) (rb : Reach rows b) (fa : step rows a = a) (fb : step rows b = b) : a = b := by
  obtain ⟨k, rfl⟩ := ra.it
  obtain ⟨l, rfl⟩ := rb.it
  rcases Nat.le_total k l with h | h
  · have := it_fix fa (l - k); rw [show k + (l - k) = l by omega] at this; exact this.symm
  · have := it_fix fb (k - l); rw [show l + (k - l) = k by omega] at this; exact this
section
variable {w : World} {A : Around} {E : Value → Shared → Prop} {b h : Heap} {L : Addr} {m : Str → Option Value} {nw : List (Addr × Obj)} {g : Array GenState} {dr : Drawn} {tk : Nat} {os : OsState} {Q : Value → Shared → Prop}
theorem s_encErr {msg : Str} {t : Tok} {v : Value} {n : Nat} (S : SF b L h m nw) (G : GR (kk.heap_1 w.params) b) (M : Rm A (n + 2))
   (q : ∀ e dx t' tk' h' nw', SF b L h' m nw' → (e, exO 59 (some dx) (excVs t')) ∈ nw' → Q (.ref e) ⟨h', g, dr, tk', os⟩) :
   wpAny (model PySem.Challenge.pw_qd0112_01 w) A (call (.ref 59) [.str msg t, v]) Q E ⟨h, g, dr, tk, os⟩ := by
  refine wk ?_ ?_
  · refine exc_call (fI := 36) (G.keeps S.keep).inK (by kernel_rfl) (by kernel_rfl) (by kernel_rfl) (by rw [sizeLine_eq]; exact Nat.le_of_ble_eq_true rfl) ?_
    have S₁ := (S.push (tupOf [.str msg t, v]) rfl).push (excNew 59 h.objs.size) rfl
    rw [Heap.size_push] at S₁
    have M₁ : Rm (A.under (.builtin "type.__call__" ⟨.ref 59 :: [.str msg t, v], []⟩)) (n + 1) := M.make
    generalize h.objs.size + 1 = e at S₁ ⊢
    generalize h.objs.size = t₀ at S₁ ⊢
    refine wpAny_call (enterI (ps := ["self", "what", "at"]) (rest := []) (vs := [.ref e, .str msg t, v]) ["self", "what", "at"] [] [("Exception", .type "Exception")] S₁ G M₁ (by k_is) (by k_is) (by exact binds_K ((G.keeps S₁.keep).inK) rfl (by k_is) rfl rfl rfl) rfl rfl (by kernel_rfl) ?_)
    intro A₃ env₃ L₃ gb h₇ tk₇ M₃ V₃ G₃ kp₃ S₇
    kd_subs
    refine z_builtin V₃ G₃ S₇ (by k_memK) ?_
    refine method_type S₇.fr G₃.inK (v := .builtin "Exception.__init__") (by kernel_rfl) (by kernel_rfl) (by kernel_rfl) (by kernel_rfl) ?_
    refine PyProof.Rows.callWith_builtin1 ?_ (by with_unfolding_all rfl) (by with_unfolding_all rfl)
    kd_subs
    refine z_excInit (by assumption) G₃ (by kernel_rfl) (by k_memK) (Nat.le_of_ble_eq_true rfl) ?_
    intro h₈ t' S₈
    dsimp only [List.set] at S₈
    kd_subs
    refine z_setE1 (by assumption) G₃ (by k_memK) (by kernel_rfl) ?_
    intro h₉ dx S₉
    dsimp only [List.set] at S₉
    kd_subs
    refine z_setE2 (by assumption) G₃ (by k_memK) (by k_memK) (by kernel_rfl) (by k_get) (by k_put) (Nat.le_of_ble_eq_true rfl) ?_
    intro h₁₀ S₁₀
    dsimp only [List.set] at S₁₀
    kd_subs
    refine z_back (by assumption) fun S₁₁ => ⟨rfl, ?_⟩
    exact q _ _ _ _ _ _ S₁₁ (.tail _ (.tail _ (.head _)))
  kct_strs
end
theorem SF.perm {b h : Heap} {L : Addr} {m : Str → Option Value} {nw nw' : List (Addr × Obj)} (S : SF b L h m nw) (hp : nw.Perm nw') : SF b L h m nw' :=
  ⟨S.fr, fun p hq => S.news p (hp.mem_iff.mpr hq), (hp.map _).nodup_iff.mp S.nd⟩
theorem SF.ob {b h : Heap} {L a : Addr} {o : Obj} {m : Str → Option Value} {nw : List (Addr × Obj)} (S : SF b L h m nw) (x : At (a, o) nw) : h.get? a = some o := (S.news _ x.mem).1
inductive PX : List (List (Str ⊕ Int) × Addr × Value) → List (Nat × Int) → Prop
  | nil : PX [] []
  | cons (i : Nat) (x : Int) (T : Addr) (t : Tok) {xs l} : PX xs l → PX ((pk i, T, .int x t) :: xs) ((i, x) :: l)
theorem PX.snoc {i : Nat} {x : Int} {T : Addr} {t : Tok} {xs : List (List (Str ⊕ Int) × Addr × Value)} {l : List (Nat × Int)} (P : PX xs l) : PX (xs ++ [(pk i, T, .int x t)]) (l ++ [(i, x)]) := by
  induction P with
  | nil => exact .cons i x T t .nil
  | cons j y U u r ih => exact .cons j y U u ih
theorem PX.length {xs : List (List (Str ⊕ Int) × Addr × Value)} {l : List (Nat × Int)} (P : PX xs l) : xs.length = l.length := by
  induction P with
  | nil => rfl
  | cons j y U u r ih => exact congrArg (· + 1) ih
theorem PX.mem {xs : List (List (Str ⊕ Int) × Addr × Value)} {l : List (Nat × Int)} (P : PX xs l) : ∀ x ∈ xs, ∃ p ∈ l, x.1 = pk p.1 := by
  refine wk ?_ ?_
  · induction P with
    | nil => intro x hx; cases hx
    | cons j y U u r ih =>
      intro x hx
      rcases List.mem_cons.mp hx with rfl | hx
      · exact ⟨_, .head _, rfl⟩
      · obtain ⟨p, hp, e⟩ := ih x hx
        exact ⟨p, .tail _ hp, e⟩
  kct_strs
theorem PX.fresh {xs : List (List (Str ⊕ Int) × Addr × Value)} {l : List (Nat × Int)} {i : Nat} (x : PX xs l) (h : ∀ p ∈ l, p.1 ≠ i) : ∀ y ∈ xs, y.1 ≠ pk i := fun y hy e => by
  obtain ⟨p, hp, e'⟩ := x.mem y hy
  exact h p hp (pk_inj (e'.symm.trans e))
theorem PX.get {xs : List (List (Str ⊕ Int) × Addr × Value)} {l : List (Nat × Int)} (P : PX xs l) : ∀ {j i : Nat} {x : Int}, l[j]? = some (i, x) → ∃ T t, xs[j]? = some (pk i, T, .int x t) := by
  induction P with
  | nil => intro j i x h; exact nomatch (show (none : Option (Nat × Int)) = some (i, x) from h)
  | cons k y U u r ih =>
    intro j i x h
    cases j with
    | zero =>
      have h' : some (k, y) = some (i, x) := h
      cases h'
      exact ⟨U, u, rfl⟩
    | succ j => exact ih (j := j) h
/-- the layout in the heap -/
inductive LayAt (prog : Program) (w : World) (K : Frag) (H : Heap) (lay : Addr) (rows : List Row) (ws : List Int) : Prop
  | mk (d1 d2 d3 : Addr) (xo xw : List (List (Str ⊕ Int) × Addr × Value)) (t3 : Tok) (a1 : AttrIs K H lay 285 "offsets" (.ref d1)) (a2 : AttrIs K H lay 285 "widths" (.ref d2)) (a3 : AttrIs K H lay 285 "lengths" (.ref d3)) (s1 : (d1 == sysModules) = false) (s2 : (d2 == sysModules) = false) (s3 : (d3 == sysModules) = false) (m : MethIs K H lay 285 "place" 268)
    (D1 : H.DictOfH (PKind prog w) d1 xo) (P1 : PX xo ((List.range ws.length).map fun i => (i, off ws i))) (D2 : H.DictOfH (PKind prog w) d2 xw) (P2 : PX xw (wps 0 rows ws)) (D3 : H.DictOf (strKind prog w) d3 [(".text", .int (off ws ws.length) t3)]) : LayAt prog w K H lay rows ws
noncomputable def LayO (prog : Program) (w : World) (K : Frag) (own : List (Addr × Obj)) (lay : Addr) (rows : List Row) (ws : List Int) : Prop := ∀ H : Heap, (∀ p ∈ own, H.get? p.1 = some p.2) → LayAt prog w K H lay rows ws
theorem HO.mono {prog : Program} {w : World} {ks ks' : List (Addr × Obj)} {o : Obj} {xs : List (List (Str ⊕ Int) × Addr × Value)} (x : HO prog w ks o xs) (h : ks ⊆ ks') : HO prog w ks' o xs := fun H d e hp => x H d e fun p hq => hp p (h hq)
theorem wpt_in : ∀ {rs : List Row} {xs : List Int} {k i : Nat} {r : Row} {x : Int}, rs[i]? = some r → xs[i]? = some x → (∀ m, r ≠ .gap m) → (k + i, r, x) ∈ wpt k rs xs
  | r :: rs, y :: xs, k, 0, r', x, h1, h2, hg => by
    simp at h1 h2; subst h1; subst h2
    cases r with
    | gap m => exact absurd rfl (hg m)
    | jump => simp [wpt]
    | leb => simp [wpt]
  | r :: rs, y :: xs, k, i + 1, r', x, h1, h2, hg => by
    simp only [List.getElem?_cons_succ] at h1 h2
    have := wpt_in (k := k + 1) h1 h2 hg
    rw [show k + 1 + i = k + (i + 1) by omega] at this
    cases r with
    | gap m => simpa [wpt] using this
    | jump => exact List.mem_cons_of_mem _ this
    | leb => exact List.mem_cons_of_mem _ this
  | [], _, _, _, _, _, h1, _, _ => by simp at h1
  | _ :: _, [], _, _, _, _, _, h2, _ => by simp at h2
/-- the keys of a dict are objects of the ledger -/
noncomputable def KeysIn (ks : List (Addr × Obj)) (xs : List (List (Str ⊕ Int) × Addr × Value)) : Prop := ∀ x ∈ xs, ∃ i t u, x.1 = pk i ∧ (x.2.1, pkO i t u) ∈ ks
theorem KeysIn.snoc {ks : List (Addr × Obj)} {xs : List (List (Str ⊕ Int) × Addr × Value)} {T : Addr} {i : Nat} {t u : Tok} {v : Value} (x : KeysIn ks xs) : KeysIn ((T, pkO i t u) :: ks) (xs ++ [(pk i, T, v)]) := fun y hy => by
  rcases List.mem_append.mp hy with hy | hy
  · obtain ⟨a, b, c, e1, e2⟩ := x y hy
    exact ⟨a, b, c, e1, .tail _ e2⟩
  · rw [List.mem_singleton.mp hy]; exact ⟨i, t, u, rfl, .head _⟩
/-- what holds between the rounds of relax -/
inductive RlW (w : World) (p : Addr) (rows : List Row) (j : Nat) (f : Nat → Option Value) (nw : List (Addr × Obj)) : Prop
  | mk (c : Bool) (tb wd wds : Addr) (o ow : Obj) (own : List (Addr × Obj)) (ws : List Int) (f0 : f 0 = some (.ref p)) (f1 : f 1 = some (.ref wds)) (f3 : f 3 = some (.ref tb)) (f4 : f 4 = some (.bool c)) (en : nw = own ++ [(wd, o), (wds, ow)]) (hT : TBO PySem.Challenge.pw_qd0112_01 w own tb ws) (hD : DObj (strKind PySem.Challenge.pw_qd0112_01 w) ow [(".text", .ref wd)]) (hW : WDO PySem.Challenge.pw_qd0112_01 w o rows ws) (hs : (wd == sysModules) = false) (hr : Reach rows ws) (hj : j = 2 * mu rows ws + (if c = true then 1 else 0)) (hc : c = false → step rows ws = ws) : RlW w p rows j f nw
inductive RlL (w : World) (p wds tb lay : Addr) (nwOf : Obj → Obj → Obj → List (Addr × Obj) → List (Addr × Obj)) (rows : List Row) (ws : List Int) (j : Nat) (f : Nat → Option Value) (nw : List (Addr × Obj)) : Prop
  | mk (o1 o2 o3 : Obj) (ks : List (Addr × Obj)) (en : nw = nwOf o1 o2 o3 ks) (f0 : f 0 = some (.ref p)) (f1 : f 1 = some (.ref wds)) (f3 : f 3 = some (.ref tb)) (f5 : f 5 = some (.ref lay))
    (hI : (j = 0 ∧ o1 = dictOf [] 0 ∧ o2 = dictOf [] 0 ∧ o3 = dictOf [] 0 ∧ ks = []) ∨ (j = 1 ∧ ∃ xo xw t3, (∀ r ∈ rows, isBelow ws r = false) ∧ HO PySem.Challenge.pw_qd0112_01 w ks o1 xo ∧ PX xo ((List.range ws.length).map fun i => (i, off ws i)) ∧ HO PySem.Challenge.pw_qd0112_01 w ks o2 xw ∧ PX xw (wps 0 rows ws) ∧ DObj (strKind PySem.Challenge.pw_qd0112_01 w) o3 [(".text", .int (off ws ws.length) t3)])) : RlL w p wds tb lay nwOf rows ws j f nw
inductive RlE (w : World) (p wds tb lay : Addr) (tx : Tok) (nwOf : Obj → List (Addr × Obj) → List (Addr × Obj)) (l : List (Nat × Int)) (f' : Nat → Option Value) (nw : List (Addr × Obj)) : Prop
  | mk (o1 : Obj) (ks : List (Addr × Obj)) (xo : List (List (Str ⊕ Int) × Addr × Value)) (en : nw = nwOf o1 ks) (e0 : f' 0 = some (.ref p)) (e1 : f' 1 = some (.ref wds)) (e2 : f' 2 = some (.str ".text" tx)) (e3 : f' 3 = some (.ref tb)) (e5 : f' 5 = some (.ref lay)) (hO : HO PySem.Challenge.pw_qd0112_01 w ks o1 xo) (hKs : KeysIn ks xo) (hP : PX xo l) : RlE w p wds tb lay tx nwOf l f' nw
section
variable {w : World} {A : Around} {E : Value → Shared → Prop} {h : Heap} {g : Array GenState} {dr : Drawn} {tk : Nat} {os : OsState} {R : Result → Shared → Prop}
  {p ds ln de sec lp dl : Addr} {rows : List Row} {vs : List Value} {Ts : List Addr} {tx : Tok}
theorem s_relax {n : Nat} {outer : List Env} {hb : Heap} (G : GR (kk.heap_1 w.params) h) (M : Rm A (n + 11)) (P : Prog PySem.Challenge.pw_qd0112_01 w (kk.heap_1 w.params) h p rows ds ln de sec lp dl vs Ts tx) (RO : RowsOk rows) (hfo : A.frames = some outer) (hff : h.FunFrames hb outer)
   (err : ∀ ws e h' tk', Reach rows ws → step rows ws = ws → (∃ r ∈ rows, isBelow ws r = true) → ErrAt h outer 59 e h' → h.UpToSlots h' → R (.error (.ref e)) ⟨h', g, dr, tk', os⟩)
   (ok : ∀ ws lay own h' tk', Reach rows ws → step rows ws = ws → (∀ r ∈ rows, isBelow ws r = false) → Own h h' own → LayO PySem.Challenge.pw_qd0112_01 w (kk.heap_1 w.params) own lay rows ws → R (.ok (.ret (.ref lay))) ⟨h', g, dr, tk', os⟩) :
   codeAny (model PySem.Challenge.pw_qd0112_01 w) A (.call (.ref 401) ⟨[.ref p], []⟩) R ⟨h, g, dr, tk, os⟩ := by
  refine wk ?_ ?_
  · refine enterR (ps := ["program"]) (rest := ["widths", "name", "tables", "is_changed", "layout", "at", "offset"]) (vs := [.ref p]) ["program", "widths", "name", "tables", "is_changed", "layout", "at", "offset"] [("first_widths", .ref 345), ("tables_of", .ref 387), ("lengthened", .ref 394), ("Layout", .ref 285), ("is_below", .ref 380), ("EncodeError", .ref 59)] [("enumerate", .type "enumerate")] G M (by k_is) (by k_is) (BindsTo.of_eq rfl) rfl rfl (by kernel_rfl) ?_
    intro env L' h₁ tk' M' V hfr S
    have p1 := P.sections
    have p3 := P.names
    generalize hA : A.deeper env = A' at M' ⊢
    kd_subs
    refine z_newdictS (by assumption) (SF.big (fa := 401) S G (by k_is) rfl) ?_
    intro wds h₂ S₂ hsw
    kd_subs
    refine z_forS ?_
    kd_subs
    refine z_listLoop (i₀ := 2) (vs := [.str ".text" tx]) (Lv PySem.Challenge.pw_qd0112_01 w A' env R) Lv.passes (fun j f nw => f 0 = some (.ref p) ∧ f 1 = some (.ref wds) ∧ ((j = 0 ∧ nw = [(wds, dictOf [] 0)]) ∨ (j = 1 ∧ ∃ wd o ow, nw = [(wd, o), (wds, ow)] ∧ DObj (strKind PySem.Challenge.pw_qd0112_01 w) ow [(".text", .ref wd)] ∧ WDO PySem.Challenge.pw_qd0112_01 w o rows (rows.map first) ∧ (wd == sysModules) = false))) [] M'.handled V (by assumption) (by k_memK) (IsList.keeps' P.lN (SF.keep (by assumption))) (.inl (let ⟨o, ho, _⟩ := P.lN; ⟨o, ho⟩)) (fun _ _ _ _ _ hp => nomatch hp) ⟨rfl, rfl, .inl ⟨rfl, rfl⟩⟩ ?_ ?_
    · rintro j v h₃ tk₃ f nw own Tg hgo hv ⟨f0, f1, hI⟩ S₃
      have hj : j = 0 := by have := (List.getElem?_eq_some_iff.mp hv).1; simpa using this
      subst hj
      simp only [List.getElem?_cons_zero, Option.some.injEq] at hv
      subst hv
      obtain rfl : nw = [(wds, dictOf [] 0)] := by rcases hI with ⟨_, e⟩ | ⟨e, _⟩; exact e; cases e
      dsimp only [List.cons_append, List.nil_append] at S₃
      kd_subs
      refine z_key (v := .ref sec) (strKind_is _ _ _ _) (DictOf.keeps P.dS (SF.keep (by assumption))) rfl (by with_unfolding_all rfl) ?_
      kd_subs
      refine s_first (n := n + 9) (G.keeps (SF.keep (by assumption))) M' (P.keeps (SF.keep (by assumption))) RO.1 ?_
      intro wd o h₄ tk₄ O hs hW
      have S₄ := SF.ownOf ‹SF h L' _ _ _› O
      dsimp only [List.cons_append, List.nil_append] at S₄
      kd_subs
      refine z_setkey (by assumption) (by k_memK) DObj.nil (strKind_is _ _ _ _) (by decide) ?_
      intro h₆ tk₆ ow S₆ hD
      dsimp only [List.set] at S₆
      kd_subs
      refine hgo _ _ (LoopEnd.turn (nw' := [_, _]) S₆ (.refl _) ⟨f0, f1, .inr ⟨rfl, wd, o, ow, rfl, hD, hW, hs⟩⟩)
    rintro h₃ tk₃ f nw ⟨f0, f1, hI⟩ S₃
    obtain ⟨wd, o, ow, rfl, hD, hW, hs⟩ : ∃ wd o ow, nw = [(wd, o), (wds, ow)] ∧ DObj (strKind PySem.Challenge.pw_qd0112_01 w) ow [(".text", .ref wd)] ∧ WDO PySem.Challenge.pw_qd0112_01 w o rows (rows.map first) ∧ (wd == sysModules) = false := by rcases hI with ⟨e, _⟩ | ⟨_, e⟩; cases e; exact e
    have hasW : ∀ {H : Heap} {wd : Addr} {o : Obj} {ws : List Int}, WDO PySem.Challenge.pw_qd0112_01 w o rows ws → H.get? wd = some o → WDict PySem.Challenge.pw_qd0112_01 w H wd rows ws := fun ⟨kvs, a, c⟩ e => ⟨kvs, a _ _ e, c⟩
    kd_subs
    refine s_tables (n := n + 7) (G.keeps (SF.keep (by assumption))) M' (P.keeps (SF.keep (by assumption))) RO.1 first_ok RO.2 (hD.at (by assumption) (by k_memK)) (hasW hW ((SF.news (by assumption) _ (.head _)).1)) ?_
    intro tb own h₄ tk₄ O hT
    have S₄ := SF.ownOf ‹SF h L' _ _ _› O
    obtain ⟨K₁, lo₁, t₁, t₂, u₁, u₂, ep₁, c₁, vo₁, rfl, hvo⟩ := id hT
    dsimp only [List.cons_append, List.nil_append] at S₄
    kd_subs
    have S₄₀ := ‹SF h L' _ _ _›
    have S₄₁ := SF.sub (nw' := [_, _, _] ++ [(wd, o), (wds, ow)]) S₄₀ (.cons _ (.refl _))
    refine z_whileI (j := 2 * mu rows (rows.map first) + 1) (RlW w p rows) S₄₁ ⟨true, tb, wd, wds, o, ow, _, _, f0, f1, rfl, rfl, rfl, hT, hD, hW, hs, .base, rfl, fun e => Bool.noConfusion e⟩ ?_
    rintro j h₅ tk₅ f₅ nw₅ Tg hgo ⟨c, tb, wd, wds, o, ow, own, ws, f0, f1, f3, f4, rfl, hT, hD, hW, hs, hr, hj, hc⟩ S₅
    have W := hr.ok
    obtain ⟨K₁, lo₁, t₁, t₂, u₁, u₂, ep₁, c₁, vo₁, rfl, hvo⟩ := id hT
    dsimp only [List.cons_append, List.nil_append] at S₅
    cases c with
    | true =>
      kd_subs
      refine s_lengthened (n := n) (G.keeps (SF.keep (by assumption))) M' (P.keeps (SF.keep (by assumption))) RO W (hT.tb fun p hp => (S₅.news p (List.mem_append_left [_, _] hp)).1) (hD.at (by assumption) (by k_memK)) (hasW hW ((SF.news S₅ _ (.tail _ (.tail _ (.tail _ (.head _))))).1)) hs ?_
      intro T fnd of wd' o' h₆ tk₆ O hF hW' hs'
      have S₆ := SF.ownOf ‹SF h L' _ _ _› O
      dsimp only [List.cons_append, List.nil_append] at S₆
      kd_subs
      refine z_unpack2 M'.handled (by assumption) (SF.tup (by assumption) (by k_memK)) fun h₇ S₇ _ => ?_
      kd_subs
      have S₇ := ‹SF h L' _ _ _›
      refine s_tables (n := n + 7) (G.keeps (SF.keep (by assumption))) M' (P.keeps (SF.keep (by assumption))) RO.1 (step_ok W) RO.2 (hF.at (by assumption) (by k_memK)) (hasW hW' ((SF.news S₇ _ (.tail _ (.head _))).1)) ?_
      intro tb' own' h₈ tk₈ O' hT'
      have S₈ := SF.ownOf ‹SF h L' _ _ _› O'
      obtain ⟨K₂, lo₂, t₃, t₄, u₃, u₄, ep₂, c₂, vo₂, rfl, hvo₂⟩ := id hT'
      dsimp only [List.cons_append, List.nil_append] at S₈
      kd_subs
      have S₉ := ‹SF h L' _ _ _›
      have S₁₀ := SF.sub (nw' := [_, _, _] ++ [(wd', o'), (fnd, of)]) S₉ (.cons_cons _ (.cons_cons _ (.cons_cons _ (.cons _ (.cons_cons _ (.cons_cons _ (List.nil_sublist _)))))))
      refine hgo _ _ ⟨_, _, _, _, _, ?_, rfl, S₁₀, decide (step rows ws ≠ ws), tb', wd', fnd, o', of, _, step rows ws, f0, rfl, rfl, rfl, rfl, hT', hF, hW', hs', .next hr, rfl, fun e => ?_⟩
      · rw [hj]
        by_cases e : step rows ws = ws
        · simp [e]
        · have := mu_lt W e
          simp only [ne_eq, e, not_false_eq_true, decide_true, if_true]
          omega
      · rw [decide_eq_false_iff_not, Classical.not_not] at e
        rw [e, e]
    | false =>
      have hfix := hc rfl
      kd_subs
      refine z_make (fI := 261) S₅ G M' (by kernel_rfl) ?_
      intro lay dx h₆ A₂ M₂ S₆
      refine enterI (ps := ["self"]) (rest := []) (vs := [.ref lay]) ["self"] [] [] S₆ G M₂ (by k_is) (by k_is) (BindsTo.of_eq rfl) rfl rfl (by kernel_rfl) ?_
      intro A₃ env₃ L₃ gb h₇ tk₇ M₃ V₃ G₃ kp₃ S₇
      kd_subs
      refine z_newdictS (by assumption) (SF.big (fa := 401) (by assumption) G₃ (by k_is) rfl) ?_
      intro d1 h₈ S₈ hd1
      kd_subs
      kcf_m
      kd_subs
      refine z_newdictS (by assumption) (SF.big (fa := 401) (by assumption) G₃ (by k_is) rfl) ?_
      intro d2 h₉ S₉ hd2
      kd_subs
      kcf_m
      kd_subs
      refine z_newdictS (by assumption) (SF.big (fa := 401) (by assumption) G₃ (by k_is) rfl) ?_
      intro d3 h₁₀ S₁₀ hd3
      kd_subs
      kcf_m
      kd_subs
      refine z_back (by assumption) fun S₁₁ => ⟨rfl, ?_⟩
      have Y : ∃ esL, getL "offsets" esL = some (some (.ref d1)) ∧ getL "widths" esL = some (some (.ref d2)) ∧ getL "lengths" esL = some (some (.ref d3)) ∧ getL "place" esL = some none ∧
        SF h L' _ (lc ["program", "widths", "name", "tables", "is_changed", "layout", "at", "offset"] f₅) ((d3, dictOf [] 0) :: (d2, dictOf [] 0) :: (d1, dictOf [] 0) :: (lay, instObj 285 dx) :: (dx, dictOf esL 3) :: _) := ⟨_, by with_unfolding_all k_get, by with_unfolding_all k_get, by with_unfolding_all k_get, by with_unfolding_all k_get, S₁₁⟩
      obtain ⟨esL, he1, he2, he3, he4, S₁₂⟩ := Y
      clear S₁₁
      obtain ⟨kvs, hDw, hKv⟩ := id hW
      have hlenW : rows.length ≤ 8 := RO.1
      have hwl := W.1
      have hTab : ∀ {H : Heap}, H.get? K₁ = some ⟨.type "tuple", none, .seq #[.str ".text" u₁, .str "end" u₂] 0, #[]⟩ → H.get? tb = some (twoOf PySem.Challenge.pw_qd0112_01 w t₁ K₁ (.ref lo₁) (.int (off ws ws.length) t₂) ep₁) → Tabs PySem.Challenge.pw_qd0112_01 w H tb (.ref lo₁) (.int (off ws ws.length) t₂) := fun a c => TBO.tabs a c
      have hTo : ∀ {H : Heap}, (∀ p ∈ ([(K₁, ⟨.type "tuple", none, .seq #[.str ".text" u₁, .str "end" u₂] 0, #[]⟩), (lo₁, listOf (List.toArray vo₁) c₁), (tb, twoOf PySem.Challenge.pw_qd0112_01 w t₁ K₁ (.ref lo₁) (.int (off ws ws.length) t₂) ep₁)] : List (Addr × Obj)), H.get? p.1 = some p.2) → TB PySem.Challenge.pw_qd0112_01 w H tb ws := fun hp => hT.tb hp
      clear hT
      generalize (⟨.type "tuple", none, .seq #[.str ".text" u₁, .str "end" u₂] 0, #[]⟩ : Obj) = oK at hTab hTo S₁₂
      generalize (twoOf PySem.Challenge.pw_qd0112_01 w t₁ K₁ (.ref lo₁) (.int (off ws ws.length) t₂) ep₁ : Obj) = oT at hTab hTo S₁₂
      kd_subs
      refine z_forS ?_
      kd_subs
      have S₁₄ := ‹SF h L' _ _ _›
      refine z_listLoop (i₀ := 2) (vs := [.str ".text" tx]) (Lv PySem.Challenge.pw_qd0112_01 w A' env R) Lv.passes (RlL w p wds tb lay (fun o1 o2 o3 ks => (d3, o3) :: (d2, o2) :: (d1, o1) :: (lay, instObj 285 dx) :: (dx, dictOf esL 3) :: (K₁, oK) :: (lo₁, listOf (List.toArray vo₁) c₁) :: (tb, oT) :: (wd, o) :: (wds, ow) :: ks) rows ws)
        [] M'.handled V S₁₄ (by k_memK) (IsList.keeps' P.lN (SF.keep (by assumption))) (.inl (let ⟨o, ho, _⟩ := P.lN; ⟨o, ho⟩)) (fun _ _ _ _ _ hp => nomatch hp) ⟨_, _, _, _, rfl, f0, f1, f3, rfl, .inl ⟨rfl, rfl, rfl, rfl, rfl⟩⟩ ?_ ?_
      · rintro j v h₁₃ tk₁₃ f₆ nw own Tg hgo hv ⟨o1, o2, o3, ks, rfl, f0, f1, f3, f5, hI⟩ S₁₃
        have hj : j = 0 := by have := (List.getElem?_eq_some_iff.mp hv).1; simpa using this
        subst hj
        simp only [List.getElem?_cons_zero, Option.some.injEq] at hv
        subst hv
        obtain ⟨rfl, rfl, rfl, rfl⟩ : o1 = dictOf [] 0 ∧ o2 = dictOf [] 0 ∧ o3 = dictOf [] 0 ∧ ks = [] := by rcases hI with ⟨_, e⟩ | ⟨e, _⟩; exact e; cases e
        dsimp only [List.cons_append, List.nil_append] at S₁₃
        kd_subs
        refine z_forS ?_
        kd_subs
        refine z_key (v := .ref wd) (strKind_is _ _ _ _) (hD.at (by assumption) (by k_memK)) rfl (by with_unfolding_all rfl) ?_
        kd_subs
        have S₁₅ := ‹SF h L' _ _ _›
        refine z_keyLoop (i₀ := 6) (Lv PySem.Challenge.pw_qd0112_01 w A' env R) Lv.passes (fun j f' nw => nw = (d3, dictOf [] 0) :: (d2, dictOf [] 0) :: (d1, dictOf [] 0) :: (lay, instObj 285 dx) :: (dx, dictOf esL 3) :: (K₁, oK) :: (lo₁, listOf (List.toArray vo₁) c₁) :: (tb, oT) :: (wd, o) :: (wds, ow) :: own ∧
          f' 0 = some (.ref p) ∧ f' 1 = some (.ref wds) ∧ f' 2 = some (.str ".text" tx) ∧ f' 3 = some (.ref tb) ∧ f' 5 = some (.ref lay) ∧ ∀ t ∈ (wpt 0 rows ws).take j, isBelow ws t.2.1 = false) [(wd, o)] M'.handled V S₁₅ (by k_memK) hs (hDw.at S₁₅ (by k_memK)) (.inr (by simp)) (by rintro j f nw ⟨rfl, _⟩ p hp; rw [List.mem_singleton.mp hp]; exact At.mem (by k_memK)) ⟨rfl, f0, f1, rfl, f3, f5, fun t ht => by simp at ht⟩ ?_ ?_
        · rintro j kk x v h₁₆ tk₁₆ f₈ nw₈ own₈ Tg hgo hk hv ⟨rfl, e0, e1, e2, e3, e5, hb⟩ S₁₆
          obtain ⟨i, y, t, hl, rfl, rfl⟩ := hKv.get hk
          obtain ⟨t', rfl⟩ := Value.isInt_shape hv
          rw [wpt_wps, List.getElem?_map] at hl
          obtain ⟨⟨i', r, y'⟩, hw, hl⟩ := Option.map_eq_some_iff.mp hl
          cases hl
          obtain ⟨jj, hj1, hri, hyi, hg⟩ := wpt_mem (List.mem_of_getElem? hw)
          have hjj : i' = jj := by omega
          subst hjj
          dsimp only [List.cons_append, List.nil_append] at S₁₆
          kd_subs
          refine s_below (n := n + 3) (G.keeps (SF.keep (by assumption))) M' (P.keeps (SF.keep (by assumption))) hri hg RO W (hTo fun p hp => (S₁₆.news p (List.mem_append_left (_ :: _ :: own ++ own₈) (List.mem_append_right [_, _, _, _, _] hp))).1) ?_
          intro h₁₇ tk₁₇ kp₁₇
          have S₁₇ := SF.keeps S₁₆ kp₁₇
          kd_subs
          refine z_ite (fun hbt => ?_) (fun hbf => ?_)
          · obtain ⟨vp, hvp, X⟩ := pcs_at P hri
            have hil := (List.getElem?_eq_some_iff.mp hri).1
            cases X with
            | gap x1 x2 => cases hbt
            | jump x1 x2 x3 x4 x5 x6 x7 => cases hbt
            | leb x1 x2 x3 x4 x5 x6 x7 =>
              have p2 := P.pieces
              refine z_raise (C := 59) M'.handled ?_
              kd_subs
              refine z_key (v := .ref sec) (strKind_is _ _ _ _) (DictOf.keeps P.dS (SF.keep (by assumption))) rfl (by with_unfolding_all rfl) ?_
              kd_subs
              refine z_item (IsList.keeps' P.lP (SF.keep (by assumption))) (by omega) (by omega) (by rw [Int.toNat_natCast]; exact hvp) (by with_unfolding_all rfl) ?_
              kd_subs
              refine s_encErr (n := n + 8) (by assumption) G M' ?_
              intro e dx t₅ tk₅ h₁₈ nw' S₁₈ he
              subst hA
              exact ⟨e, t₅, some dx, rfl, excObj_of (G.keeps S₁₈.keep).inK (by kernel_rfl), (S₁₈.news _ he).1, leave_E hfo hff hfr V.kind S₁₈ he fun h' hE hu => err ws e h' _ hr hfix ⟨_, List.mem_of_getElem? hri, hbt⟩ hE hu⟩
          · kd_subs
            refine hgo _ _ (LoopEnd.turn (nw' := _ :: _ :: _ :: _ :: _ :: _ :: _ :: _ :: _ :: _ :: own) S₁₇ (.refl _) ⟨rfl, e0, e1, e2, e3, e5, fun t ht => ?_⟩)
            rw [List.take_add_one, hw] at ht
            rcases List.mem_append.mp ht with ht | ht
            · exact hb t ht
            · have : t = (i', r, y') := by simpa using ht
              subst this; exact hbf
        · rintro h₁₆ tk₁₆ f₈ nw₈ ⟨rfl, e0, e1, e2, e3, e5, hb⟩ S₁₆
          have hlen : (wpt 0 rows ws).length = kvs.length := by rw [hKv.length, wpt_wps, List.length_map]
          rw [← hlen, List.take_length] at hb
          kd_subs
          refine z_forS ?_
          kd_subs
          refine z_tab M' (hTab (SF.ob (by assumption) (by k_memK)) (SF.ob (by assumption) (by k_memK))) (by with_unfolding_all rfl) ?_
          kd_subs
          have S₁₇ := ‹SF h L' _ _ _›
          have hvl : vo₁.length = ws.length := by have := hvo.length; simpa using this
          refine z_enumLoop (i₀ := 6) (j₀ := 7) (Lv PySem.Challenge.pw_qd0112_01 w A' env R) Lv.passes (fun j f' nw => RlE w p wds tb lay tx (fun o1 ks => (d3, dictOf [] 0) :: (d2, dictOf [] 0) :: (d1, o1) :: (lay, instObj 285 dx) :: (dx, dictOf esL 3) :: (K₁, oK) :: (lo₁, listOf (List.toArray vo₁) c₁) :: (tb, oT) :: (wd, o) :: (wds, ow) :: (ks ++ own)) ((List.range j).map fun i => (i, off ws i)) f' nw) [(lo₁, listOf (List.toArray vo₁) c₁)] M'.handled V S₁₇ (by k_memK) (by k_memK) (SF.lst S₁₇ (by k_memK)) (.inr (by simp)) (by rintro j f nw ⟨_, _, _, rfl, _⟩ p hp; rw [List.mem_singleton.mp hp]; (try dsimp only); exact At.mem (by k_memK)) ⟨_, [], [], rfl, e0, e1, e2, e3, e5, HO.nil, fun _ hx => by simp at hx, .nil⟩ ?_ ?_
          · rintro j t v h₁₈ tk₁₈ f₉ nw₉ own₉ Tg hgo hv ⟨o1, ks, xo, rfl, e0, e1, e2, e3, e5, hO, hKs, hP⟩ S₁₈
            have hjl : j < ws.length := by rw [← hvl]; exact (List.getElem?_eq_some_iff.mp hv).1
            obtain ⟨t', ht'⟩ := Mine.IntsAre.get hvo (off_range hjl)
            rw [hv] at ht'
            obtain rfl := Option.some.inj ht'
            have hxl := hP.length
            rw [List.length_map, List.length_range] at hxl
            dsimp only [List.cons_append, List.nil_append] at S₁₈
            kd_subs
            refine z_atL (by assumption) (by assumption) (by k_memK) (by k_memK) he1 rfl (by kernel_rfl) ?_
            kd_subs
            refine z_setP (i := j) (t := tx) (u := t) M' (by assumption) (by k_memK) hO (by intro p hp; exact List.mem_append_right [_, _, _, _, _, _, _, _, _, _, _] (List.mem_append_left _ (List.mem_append_left _ hp))) hKs (by k_memK) (hP.fresh fun p hp => ?_) (by omega) ?_
            · obtain ⟨i, hi, rfl⟩ := List.mem_map.mp hp
              have := List.mem_range.mp hi
              show i ≠ j
              omega
            intro h₁₉ tk₁₉ o1' S₁₉ hO'
            dsimp only [List.set] at S₁₉
            have S₂₀ := S₁₉.perm (List.perm_middle (l₁ := [_, _, _, _, _, _, _, _, _, _])).symm
            kd_subs
            refine hgo _ _ (LoopEnd.turn (nw' := _ :: _ :: _ :: _ :: _ :: _ :: _ :: _ :: _ :: _ :: (_ :: ks ++ own)) S₂₀ (by simp) ⟨o1', _, _, rfl, e0, e1, e2, e3, e5, hO', hKs.snoc, ?_⟩)
            rw [List.range_succ, List.map_append]
            exact hP.snoc
          · rintro h₁₈ tk₁₈ f₉ nw₉ ⟨o1, ks, xo, rfl, e0, e1, e2, e3, e5, hO, hKs, hP⟩ S₁₈
            try dsimp only at S₁₈
            rw [hvl] at hP
            kd_subs
            refine z_forS ?_
            kd_subs
            refine z_key (v := .ref wd) (strKind_is _ _ _ _) (hD.at (by assumption) (by k_memK)) rfl (by with_unfolding_all rfl) ?_
            kd_subs
            have S₁₉ := ‹SF h L' _ _ _›
            refine z_keyLoop (i₀ := 6) (Lv PySem.Challenge.pw_qd0112_01 w A' env R) Lv.passes (fun j f' nw => RlE w p wds tb lay tx (fun o2 ks2 => (d3, dictOf [] 0) :: (d2, o2) :: (d1, o1) :: (lay, instObj 285 dx) :: (dx, dictOf esL 3) :: (K₁, oK) :: (lo₁, listOf (List.toArray vo₁) c₁) :: (tb, oT) :: (wd, o) :: (wds, ow) :: (ks2 ++ (ks ++ own))) ((wps 0 rows ws).take j) f' nw) [(wd, o)] M'.handled V S₁₉ (by k_memK) hs (hDw.at S₁₉ (by k_memK)) (.inr (by simp)) (by rintro j f nw ⟨_, _, _, rfl, _⟩ p hp; rw [List.mem_singleton.mp hp]; (try dsimp only); exact At.mem (by k_memK)) ⟨_, [], [], rfl, e0, e1, e2, e3, e5, HO.nil, fun _ hx => by simp at hx, .nil⟩ ?_ ?_
            · rintro j kk x v h₂₀ tk₂₀ f₁₀ nw₁₀ own₁₀ Tg hgo hk hv ⟨o2, ks2, xw, rfl, e0, e1, e2, e3, e5, hO2, hKs2, hP2⟩ S₂₀
              obtain ⟨i, y, t, hl, rfl, rfl⟩ := hKv.get hk
              obtain ⟨t', rfl⟩ := Value.isInt_shape hv
              have hva : valueAt kvs (i : Int) = some (.int y t) := valueAt_of_get (DictOf.nodup (hDw.at S₁₉ (by k_memK))) hk
              have hxl := hP2.length
              have hjl := (List.getElem?_eq_some_iff.mp hl).1
              have hw8 := wps_len rows ws 0
              rw [List.length_take] at hxl
              have htake : (wps 0 rows ws).take (j + 1) = (wps 0 rows ws).take j ++ [(i, y)] := by rw [List.take_add_one, hl]; rfl
              have hfr : ∀ p ∈ (wps 0 rows ws).take j, p.1 ≠ i := fun p hp e => by
                obtain ⟨k₁, hk₁⟩ := List.mem_iff_getElem?.mp hp
                have hk₂ : k₁ < j := by
                  have := (List.getElem?_eq_some_iff.mp hk₁).1
                  rw [List.length_take] at this; omega
                rw [List.getElem?_take_of_lt hk₂] at hk₁
                have h1 : ((wps 0 rows ws).map (·.1))[k₁]? = some i := by rw [List.getElem?_map, hk₁]; simpa using e
                have h2 : ((wps 0 rows ws).map (·.1))[j]? = some i := by rw [List.getElem?_map, hl]; rfl
                have := (List.getElem?_inj (by rw [List.length_map]; omega) (wps_nodup rows ws 0)).mp (h1.trans h2.symm)
                omega
              dsimp only [List.cons_append, List.nil_append] at S₂₀
              kd_subs
              refine z_key (v := .ref wd) (strKind_is _ _ _ _) (hD.at (by assumption) (by k_memK)) rfl (by with_unfolding_all rfl) ?_
              kd_subs
              refine z_key (intKind_is _ _ _ _) (hDw.at (by assumption) (by k_memK)) hva (by with_unfolding_all rfl) ?_
              kd_subs
              refine z_atL (by assumption) (by assumption) (by k_memK) (by k_memK) he2 rfl (by kernel_rfl) ?_
              kd_subs
              refine z_setP (i := i) (t := tx) (u := t') M' (by assumption) (by k_memK) hO2 (by intro p hp; exact List.mem_append_right [_, _, _, _, _, _, _, _, _, _, _] (List.mem_append_left _ (List.mem_append_left _ hp))) hKs2 (by k_memK) (hP2.fresh hfr) (by omega) ?_
              intro h₂₁ tk₂₁ o2' S₂₁ hO2'
              dsimp only [List.set] at S₂₁
              have S₂₂ := S₂₁.perm (List.perm_middle (l₁ := [_, _, _, _, _, _, _, _, _, _])).symm
              kd_subs
              refine hgo _ _ (LoopEnd.turn (nw' := _ :: _ :: _ :: _ :: _ :: _ :: _ :: _ :: _ :: _ :: (_ :: ks2 ++ (ks ++ own))) S₂₂ (by simp) ⟨o2', _, _, rfl, e0, e1, e2, e3, e5, hO2', hKs2.snoc, ?_⟩)
              rw [htake]
              exact hP2.snoc
            · rintro h₂₀ tk₂₀ f₁₀ nw₁₀ ⟨o2, ks2, xw, rfl, e0, e1, e2, e3, e5, hO2, hKs2, hP2⟩ S₂₀
              try dsimp only at S₂₀
              rw [hKv.length, List.take_length] at hP2
              kd_subs
              refine z_tabE M' (hTab (SF.ob (by assumption) (by k_memK)) (SF.ob (by assumption) (by k_memK))) (SF.ekey (by assumption) (by k_memK)) (by with_unfolding_all rfl) ?_
              kd_subs
              refine z_atL (by assumption) (by assumption) (by k_memK) (by k_memK) he3 rfl (by kernel_rfl) ?_
              kd_subs
              refine z_setkey (by assumption) (by k_memK) DObj.nil (strKind_is _ _ _ _) (by decide) ?_
              intro h₂₁ tk₂₁ o3 S₂₁ hD3
              dsimp only [List.set] at S₂₁
              kd_subs
              refine hgo _ _ (LoopEnd.turn (nw' := (d3, o3) :: (d2, o2) :: (d1, o1) :: (lay, instObj 285 dx) :: (dx, dictOf esL 3) :: (K₁, oK) :: (lo₁, listOf (List.toArray vo₁) c₁) :: (tb, oT) :: (wd, o) :: (wds, ow) :: (ks2 ++ ks)) S₂₁ (.cons _ (by simp)) ⟨o1, o2, o3, _, rfl, e0, e1, e3, e5, .inr ⟨rfl, xo, xw, _, fun r hr' => ?_, hO.mono (List.subset_append_right _ _), hP, hO2.mono (List.subset_append_left _ _), hP2, hD3⟩⟩)
              obtain ⟨i, hri⟩ := List.mem_iff_getElem?.mp hr'
              obtain ⟨x, hx⟩ : ∃ x, ws[i]? = some x := ⟨_, List.getElem?_eq_getElem (by rw [hwl]; exact (List.getElem?_eq_some_iff.mp hri).1)⟩
              by_cases hg : ∀ m, r ≠ .gap m
              · exact hb _ (wpt_in (k := 0) hri hx hg)
              · cases r with
                | gap m => rfl
                | jump => exact absurd (fun m e => nomatch e) hg
                | leb => exact absurd (fun m e => nomatch e) hg
      · rintro h₁₃ tk₁₃ f₆ nw ⟨o1, o2, o3, ks, rfl, f0, f1, f3, f5, hI⟩ S₁₃
        try dsimp only at S₁₃
        obtain ⟨xo, xw, t3, hb, hO, hP, hO2, hP2, hD3⟩ : ∃ xo xw t3, (∀ r ∈ rows, isBelow ws r = false) ∧ HO PySem.Challenge.pw_qd0112_01 w ks o1 xo ∧ PX xo ((List.range ws.length).map fun i => (i, off ws i)) ∧ HO PySem.Challenge.pw_qd0112_01 w ks o2 xw ∧ PX xw (wps 0 rows ws) ∧ DObj (strKind PySem.Challenge.pw_qd0112_01 w) o3 [(".text", .int (off ws ws.length) t3)] := by rcases hI with ⟨e, _⟩ | ⟨_, e⟩; cases e; exact e
        kd_subs
        refine ok ws lay _ _ _ hr hfix hb (SF.toOwn S₁₃) fun H hp => ⟨d1, d2, d3, xo, xw, t3, ⟨dx, esL, 3, hp (lay, instObj 285 dx) (At.mem (by k_memK)), hp (dx, dictOf esL 3) (At.mem (by k_memK)), he1, rfl, by kernel_rfl⟩, ⟨dx, esL, 3, hp (lay, instObj 285 dx) (At.mem (by k_memK)), hp (dx, dictOf esL 3) (At.mem (by k_memK)), he2, rfl, by kernel_rfl⟩, ⟨dx, esL, 3, hp (lay, instObj 285 dx) (At.mem (by k_memK)), hp (dx, dictOf esL 3) (At.mem (by k_memK)), he3, rfl, by kernel_rfl⟩, hd1, hd2, hd3, ⟨dx, esL, 3, hp (lay, instObj 285 dx) (At.mem (by k_memK)), hp (dx, dictOf esL 3) (At.mem (by k_memK)), he4, by kernel_rfl⟩,
          hO H d1 (hp (d1, o1) (At.mem (by k_memK))) (fun q hq => hp q (List.mem_append_right [_, _, _, _, _, _, _, _, _, _] hq)), hP, hO2 H d2 (hp (d2, o2) (At.mem (by k_memK))) (fun q hq => hp q (List.mem_append_right [_, _, _, _, _, _, _, _, _, _] hq)), hP2, hD3 H d3 (hp (d3, o3) (At.mem (by k_memK)))⟩
  kct_strs
end
theorem words2 : True := by
  k_with "ze" => (with_reducible first
  | refine z_nameX (by assumption) (by assumption) (by assumption) (by assumption) (by with_unfolding_all rfl) (by with_unfolding_all rfl) (by k_extra "zm") (by assumption) (by with_unfolding_all rfl) ?_
  | refine z_nameB (by assumption) (by assumption) (by assumption) (by assumption) (by with_unfolding_all rfl) (by with_unfolding_all rfl) (by assumption) (by with_unfolding_all rfl) ?_
  | refine z_compE (clos_of (by assumption) (by with_unfolding_all rfl)) rfl (compOk_names (by with_unfolding_all rfl)) (by intro _; with_unfolding_all rfl) ?_)
  k_with "zx" => (with_reducible refine z_compS (swapsT (by assumption) (by k_extra "zm") (by with_unfolding_all rfl)) (clos_of (by assumption) (by with_unfolding_all rfl)) rfl (compOk_names (by with_unfolding_all rfl)) (by intro _; with_unfolding_all rfl) ?_)
  trivial
theorem cellsOf {K : Frag} {scope : Scope} {cl : List (Str × Addr)} {C : Addr} {env : Env} {ns : List Str} {gns bns : List (Str × Value)} (V : EV K (compEnvC scope cl C env) C ns gns bns) : (compEnvC scope cl C env).cells = cl := rfl
theorem DictOfH.keeps' {prog : Program} {w : World} {h h' : Heap} {d : Addr} {xs : List (List (Str ⊕ Int) × Addr × Value)} (x : h.DictOfH (PKind prog w) d xs) (kp : ∀ a o, h.get? a = some o → h'.get? a = some o) : h'.DictOfH (PKind prog w) d xs := by
  obtain ⟨o, es, ep, ho, a, b, c, hk, hn⟩ := x
  refine ⟨o, es, ep, kp _ _ ho, a, b, c, fun y hy => ?_, hn⟩
  obtain ⟨o', vs, n, ho', r⟩ := hk y hy
  exact ⟨o', vs, n, kp _ _ ho', r⟩
theorem LayAt.keeps {prog : Program} {w : World} {K : Frag} {H H' : Heap} {lay : Addr} {rows : List Row} {ws : List Int} (x : LayAt prog w K H lay rows ws) (kp : ∀ a o, H.get? a = some o → H'.get? a = some o) : LayAt prog w K H' lay rows ws := by
  obtain ⟨d1, d2, d3, xo, xw, t3, a1, a2, a3, b1, b2, b3, b4, c1, c2, c3, c4, c5⟩ := x
  exact ⟨d1, d2, d3, xo, xw, t3, a1.keeps kp, a2.keeps kp, a3.keeps kp, b1, b2, b3, b4.keeps kp, DictOfH.keeps' c1 kp, c2, DictOfH.keeps' c3 kp, c4, DictOf.keeps c5 kp⟩
section
variable {w : World} {A : Around} {E : Value → Shared → Prop} {h : Heap} {g : Array GenState} {dr : Drawn} {tk : Nat} {os : OsState} {Q : Value → Shared → Prop}
  {p ds ln de sec lp dl : Addr} {rows : List Row} {vs : List Value} {Ts : List Addr} {tx : Tok}
theorem s_tablesIn {n : Nat} {ws : List Int} {lay : Addr} (G : GR (kk.heap_1 w.params) h) (M : Rm A (n + 3)) (P : Prog PySem.Challenge.pw_qd0112_01 w (kk.heap_1 w.params) h p rows ds ln de sec lp dl vs Ts tx) (hr : rows.length ≤ 8) (hw : ws.length = rows.length) (Y : LayAt PySem.Challenge.pw_qd0112_01 w (kk.heap_1 w.params) h lay rows ws)
   (q : ∀ tb own h' tk', Own h h' own → (∀ H : Heap, (∀ p ∈ own, H.get? p.1 = some p.2) → TB PySem.Challenge.pw_qd0112_01 w H tb ws) → Q (.ref tb) ⟨h', g, dr, tk', os⟩) :
   wpAny (model PySem.Challenge.pw_qd0112_01 w) A (call (.ref 406) [.ref p, .ref lay]) Q E ⟨h, g, dr, tk, os⟩ := by
  refine wk ?_ ?_
  · refine enterK (binds := [("program", .ref p), ("layout", .ref lay)]) (ps := ["program"]) (rest := ["tables", "pieces"]) (vs := [.ref p]) ["program", "tables", "pieces"] [] [("range", .type "range"), ("len", .builtin "len")] G M (by k_is) (by k_is) (BindsTo.of_eq rfl) (by kernel_rfl) (by kernel_rfl) rfl rfl (by kernel_rfl) ?_
    intro A' env L' h₁ tk' cells M' V hsc hcl hcs S
    obtain ⟨c1, c2, hcl, hcs⟩ : ∃ c1 c2 : Addr, env.cells = [(("name" : Str), c1), (("layout" : Str), c2)] ∧ CellsAre (bindC (fun x => env.scope.names.lookup x) [("program", .ref p), ("layout", .ref lay)] fun _ => none) [("name", c1), ("layout", c2)] cells := ⟨_, _, hcl, by rw [hsc]; exact hcs⟩
    obtain ⟨o1, o2, rfl, ho1, ho2⟩ := hcs.two
    replace ho1 : o1.data = .cell none := by rw [ho1, hsc]; rfl
    replace ho2 : o2.data = .cell (some (.ref lay)) := by rw [ho2, hsc]; rfl
    obtain ⟨d1, d2, d3, xo, xw, t3, y1, y2, y3, b1, b2, b3, b4, D1, X1, D2, X2, D3⟩ := Y
    have p1 := P.sections
    have p2 := P.pieces
    have p3 := P.names
    kd_subs
    refine z_newdict (by assumption) ?_
    intro tb h₂ S₂ _ _
    kd_subs
    refine z_forS ?_
    kd_subs
    have S₃ := ‹SF h L' _ _ _›
    refine z_oneLoop (fun _ _ => False) (Er_none (Er := fun _ _ => False)) M'.handled S₃ (IsList.keeps' P.lN S₃.keep) (let ⟨o, ho, _⟩ := P.lN; ⟨o, ho⟩) (fun _ _ => letGo_name) ?_
    intro h₄ tk₄ own Tg hgo S₄
    dsimp only [List.cons_append, List.nil_append] at S₄
    refine PySem.wpAny_assign_Name (z_storeX V S₄ hsc hcl (by with_unfolding_all rfl) (by with_unfolding_all rfl) (by k_memK) ho1 ?_)
    intro h₅ o1' S₅ ho1'
    dsimp only [List.set] at S₅
    kd_subs
    refine z_key (v := .ref sec) (strKind_is _ _ _ _) (DictOf.keeps P.dS (SF.keep (by assumption))) rfl (by with_unfolding_all rfl) ?_
    kd_subs
    refine z_len (IsList.keeps' P.lP (SF.keep (by assumption))) (by rw [P.len]; omega) ?_
    kd_subs
    rw [P.len, ← hw]
    have S₆ := ‹SF h L' _ _ _›
    have hb1 : ∀ {H : Heap}, SF h L' H (lc ["program", "tables", "pieces"] (up (up (fun i => [Value.ref p][i]?) (0 + 1) (.ref tb)) (0 + 1 + 1) (.ref lp))) ((tb, dictOf [] 0) :: (c1, o1') :: (c2, o2) :: own) → H.IsCell c1 (some (.str ".text" tx)) ∧ H.IsCell c2 (some (.ref lay)) := fun S => ⟨⟨_, S.ob (by k_memK), ho1'⟩, ⟨_, S.ob (by k_memK), ho2⟩⟩
    obtain ⟨hb1, hb2⟩ := hb1 S₆
    have y1' := y1.keeps S₆.keep
    refine z_cRange (i₀ := 0) ["at"] [] [] (fun i _ nw ys => nw = [] ∧ IntsAre ys ((List.range i).map (off ws))) M'.handled V (relS_eq hsc) (by kernel_rfl) (cell0 (by kernel_rfl)) rfl (by k_memK) (by omega) ⟨rfl, .nil⟩ ?_ ?_
    · rintro C i t h₇ tk₇ f nw₁ own₁ ys Tg hgo hi ⟨rfl, hys⟩ V' hsc' S₇
      have hcl' := cellsOf V'
      have G' := G.keeps S₆.keep
      refine z_tests0 ?_
      dsimp only [List.nil_append] at S₇
      kd_subs
      obtain ⟨T₁, t₁, hx⟩ := X1.get (j := i) (i := i) (x := off ws i) (by rw [List.getElem?_map, List.getElem?_range hi]; rfl)
      have hD1 := DictOfH.keeps' D1 S₆.keep
      refine z_getP (i := i) M' (DictOfH.keeps' hD1 (SF.keep (by assumption))) (pk_is (SF.ob (by assumption) (by k_memK))) (atKey_of_get (let ⟨_, _, _, _, _, _, _, _, hn⟩ := D1; hn) hx) (by with_unfolding_all rfl) ?_
      kd_subs
      have S₈ := ‹SF _ C _ _ _›
      refine hgo _ _ (CompEnd.of (nw' := []) S₈ (.cons _ (.refl _)) ⟨rfl, ?_⟩)
      rw [List.range_succ, List.map_append]
      exact Mine.IntsAre.snoc hys
    · rintro D C oC h₇ tk₇ f nw₁ ys ⟨rfl, hys⟩ O hN
      refine post_none (ys := ys) S₆ O hN fun h₈ S₈ _ => ?_
      dsimp only [List.cons_append, List.nil_append] at S₈
      kd_subs
      refine z_setkey (by assumption) (by k_memK) DObj.nil (strKind_is _ _ _ _) (by decide) ?_
      intro h₉ tk₉ ot S₉ hDt
      dsimp only [List.set] at S₉
      kd_subs
      refine z_key (strKind_is _ _ _ _) (DictOf.keeps D3 (SF.keep (by assumption))) rfl (by with_unfolding_all rfl) ?_
      kd_subs
      refine z_tabSet M' (by assumption) (by k_memK) hDt (SF.ekey (by assumption) (by k_memK)) ?_
      intro h₁₀ tk₁₀ t₁₀ ep S₁₀
      dsimp only [List.set] at S₁₀
      kd_subs
      have S₁₁ := ‹SF h L' _ _ _›
      refine hgo _ _ (OneEnd.turn (nw' := [_, _, _, _, _]) S₁₁ (.refl _) fun h₁₂ tk₁₂ S₁₂ => ?_)
      kd_subs
      refine q _ _ _ _ S₁₂.toOwn fun H hp => ?_
      have hp1 := hp _ (.head _)
      have hp2 := hp _ (.tail _ (.head _))
      have hp3 := hp _ (.tail _ (.tail _ (.head _)))
      exact ⟨D, t3, TBO.tabs hp1 hp3, Ints.toL ⟨_, hp2, rfl, _, rfl⟩ hys⟩
  kct_strs
end
theorem PX.keys : ∀ {xs : List (List (Str ⊕ Int) × Addr × Value)} {l : List (Nat × Int)}, PX xs l → xs.map (·.1) = (l.map (·.1)).map pk
  | _, _, .nil => rfl
  | _, _, .cons j y U u r => by simp [PX.keys r]
section
variable {w : World} {A : Around} {E : Value → Shared → Prop} {h : Heap} {g : Array GenState} {dr : Drawn} {tk : Nat} {os : OsState} {Q : Value → Shared → Prop}
  {p ds ln de sec lp dl : Addr} {rows : List Row} {vs : List Value} {Ts : List Addr} {tx : Tok}
theorem s_reach {n : Nat} {ws : List Int} {lay : Addr} (G : GR (kk.heap_1 w.params) h) (M : Rm A (n + 10)) (P : Prog PySem.Challenge.pw_qd0112_01 w (kk.heap_1 w.params) h p rows ds ln de sec lp dl vs Ts tx) (RO : RowsOk rows) (W : WOk rows ws) (Y : LayAt PySem.Challenge.pw_qd0112_01 w (kk.heap_1 w.params) h lay rows ws) (hf : step rows ws = ws) (hb : ∀ r ∈ rows, isBelow ws r = false)
   (q : ∀ h' tk', (∀ b o, h.get? b = some o → h'.get? b = some o) → Q (.bool true) ⟨h', g, dr, tk', os⟩) :
   wpAny (model PySem.Challenge.pw_qd0112_01 w) A (call (.ref 413) [.ref p, .ref lay]) Q E ⟨h, g, dr, tk, os⟩ := by
  refine wk ?_ ?_
  · refine enter (ps := ["program", "layout"]) (rest := ["tables", "section", "at", "width"]) (vs := [.ref p, .ref lay]) ["program", "layout", "tables", "section", "at", "width"] [("tables_in", .ref 406), ("is_below", .ref 380), ("wanted_width", .ref 373)] [] G M (by k_is) (by k_is) (BindsTo.of_eq rfl) rfl rfl (by kernel_rfl) ?_
    intro A' env L' h₁ tk' M' V S
    obtain ⟨d1, d2, d3, xo, xw, t3, y1, y2, y3, b1, b2, b3, b4, D1, X1, D2, X2, D3⟩ := id Y
    kd_subs
    refine s_tablesIn (n := n + 6) (G.keeps (SF.keep (by assumption))) M' (P.keeps (SF.keep (by assumption))) RO.1 W.1 (Y.keeps (SF.keep (by assumption))) ?_
    intro tb own h₂ tk₂ O hT
    have S₂ := SF.ownOf ‹SF h L' _ _ _› O
    rw [List.append_nil] at S₂
    kd_subs
    refine z_forS ?_
    kd_subs
    have S₃ := ‹SF h L' _ _ _›
    have own_eq : ∀ {H : Heap} {m : Str → Option Value} {nw : List (Addr × Obj)}, SF h L' H m (own ++ nw) → TB PySem.Challenge.pw_qd0112_01 w H tb ws := fun S => hT _ fun p hp => (S.news p (List.mem_append_left _ hp)).1
    refine z_pkLoop (i₀ := 3) (j₀ := 4) (is := (wps 0 rows ws).map (·.1)) (fun _ _ => False) (Er_none (Er := fun _ _ => False)) (fun j f nw => nw = own ∧ f 0 = some (.ref p) ∧ f 1 = some (.ref lay) ∧ f 2 = some (.ref tb)) M'.handled V S₃ (by k_memK) (by k_memK) b2 D2 X2.keys ⟨rfl, rfl, rfl, rfl⟩ ?_ ?_
    · rintro j i t u h₄ tk₄ f nw own₁ Tg hgo hi ⟨rfl, f0, f1, f2⟩ S₄
      have hl : ∃ r x, (wpt 0 rows ws)[j]? = some (i, r, x) := by
        rw [wpt_wps, List.map_map, List.getElem?_map] at hi
        obtain ⟨⟨i', r, x⟩, hw, e⟩ := Option.map_eq_some_iff.mp hi
        have : i' = i := e
        subst this
        exact ⟨r, x, hw⟩
      obtain ⟨r, x, hw⟩ := hl
      have hwx : (wps 0 rows ws)[j]? = some (i, x) := by rw [wpt_wps, List.getElem?_map, hw]; rfl
      obtain ⟨jj, hj1, hri, hxi, hg⟩ := wpt_mem (List.mem_of_getElem? hw)
      have hjj : i = jj := by omega
      subst hjj
      obtain ⟨T₁, t₁, hx⟩ := X2.get hwx
      have hrb := hb r (List.mem_of_getElem? hri)
      have hwf : wanted ws i r x = x := by
        have h1 := stepFrom_get ws (k := 0) hri hxi
        rw [show stepFrom ws 0 rows ws = ws from hf, hxi, Nat.zero_add] at h1
        exact (Option.some.inj h1).symm
      kd_subs
      refine z_getP (i := i) M' (DictOfH.keeps' D2 (SF.keep (by assumption))) (pk_is (SF.ob (by assumption) (by k_memK))) (atKey_of_get (let ⟨_, _, _, _, _, _, _, _, hn⟩ := D2; hn) hx) (by with_unfolding_all rfl) ?_
      kd_subs
      have S₅ := ‹SF h L' _ _ _›
      have B₅ := own_eq (S₅.sub (.cons _ (.refl _)))
      refine s_below (n := n + 2) (G.keeps S₅.keep) M' (P.keeps S₅.keep) hri hg RO W B₅ ?_
      intro h₆ tk₆ kp₆
      rw [hrb]
      have S₆ := S₅.keeps kp₆
      have B₆ := B₅.keeps kp₆
      kd_subs
      refine s_want (n := n) (G.keeps S₆.keep) M' (P.keeps S₆.keep) hri hg RO W B₆ ?_
      intro h₇ tk₇ t₇ kp₇
      rw [hwf]
      have S₇ := S₆.keeps kp₇
      kd_subs
      refine z_no (by simp) ?_
      kd_subs
      exact hgo _ _ (LoopEnd.turn (nw' := nw) S₇ (.cons _ (.refl _)) ⟨rfl, f0, f1, f2⟩)
    · rintro h₄ tk₄ f nw ⟨rfl, f0, f1, f2⟩ S₄
      kd_subs
      exact q _ _ S₄.keep
  kct_strs
end
section
variable {w : World} {A : Around} {E : Value → Shared → Prop} {h : Heap} {g : Array GenState} {dr : Drawn} {tk : Nat} {os : OsState} {Q : Value → Shared → Prop}
theorem s_place {n : Nat} {rows : List Row} {ws : List Int} {lay : Addr} {i : Nat} {u₁ u₂ : Tok} (G : GR (kk.heap_1 w.params) h) (M : Rm A (n + 2)) (Y : LayAt PySem.Challenge.pw_qd0112_01 w (kk.heap_1 w.params) h lay rows ws) (hi : i ≤ ws.length)
   (q : ∀ h' tk' t, (∀ b o, h.get? b = some o → h'.get? b = some o) → Q (.int (off ws i) t) ⟨h', g, dr, tk', os⟩) :
   wpAny (model PySem.Challenge.pw_qd0112_01 w) A (call (.ref 268) [.ref lay, .str ".text" u₁, .int (i : Nat) u₂]) Q E ⟨h, g, dr, tk, os⟩ := by
  refine wk ?_ ?_
  · refine enter (ps := ["self", "section", "piece"]) (rest := []) (vs := [.ref lay, .str ".text" u₁, .int (i : Nat) u₂]) ["self", "section", "piece"] [] [] G M (by k_is) (by k_is) (BindsTo.of_eq rfl) rfl rfl (by kernel_rfl) ?_
    intro A' env L' h₁ tk' M' V S
    obtain ⟨d1, d2, d3, xo, xw, t3, y1, y2, y3, b1, b2, b3, b4, D1, X1, D2, X2, D3⟩ := id Y
    kd_subs
    refine z_inP (i := i) M' b1 (DictOfH.keeps' D1 (SF.keep (by assumption))) (pk_is (SF.ob (by assumption) (by k_memK))) ?_
    have hnd : (xo.map (·.1)).Nodup := let ⟨_, _, _, _, _, _, _, _, hn⟩ := D1; hn
    rcases Nat.lt_or_ge i ws.length with hlt | hge
    · obtain ⟨T₁, t₁, hx⟩ := X1.get (j := i) (i := i) (x := off ws i) (by rw [List.getElem?_map, List.getElem?_range hlt]; rfl)
      rw [atKey_of_get hnd hx]
      kd_subs
      refine z_yes rfl ?_
      kd_subs
      refine z_getP (i := i) M' (DictOfH.keeps' D1 (SF.keep (by assumption))) (pk_is (SF.ob (by assumption) (by k_memK))) (atKey_of_get hnd hx) (by with_unfolding_all rfl) ?_
      kd_subs
      exact q _ _ _ (SF.keep (by assumption))
    · have : i = ws.length := by omega
      subst this
      have hno : atKey xo (pk ws.length) = none := atKey_none_of_get fun j p e => by
        refine X1.fresh (i := ws.length) (fun p hp => ?_) _ (List.mem_of_getElem? e) rfl
        obtain ⟨k, hk, rfl⟩ := List.mem_map.mp hp
        have := List.mem_range.mp hk
        show k ≠ ws.length
        omega
      rw [hno]
      kd_subs
      refine z_no rfl ?_
      kd_subs
      refine z_key (strKind_is _ _ _ _) (DictOf.keeps D3 (SF.keep (by assumption))) rfl (by with_unfolding_all rfl) ?_
      kd_subs
      exact q _ _ _ (SF.keep (by assumption))
  kct_strs
end
section
variable {w : World} {A : Around} {E : Value → Shared → Prop} {h : Heap} {g : Array GenState} {dr : Drawn} {tk : Nat} {os : OsState} {Q : Value → Shared → Prop}
theorem s_loffs {n : Nat} {ws : List Int} {lw : Addr} {vw : List Value} (G : GR (kk.heap_1 w.params) h) (M : Rm A (n + 2)) (hl : h.IsList lw vw.toArray) (hi : IntsAre vw ws) (hn : ws.length ≤ 8)
   (q : ∀ fo vo c h' tk', Own h h' [(fo, listOf (List.toArray vo) c)] → IntsAre vo ((List.range (ws.length + 1)).map (off ws)) → Q (.ref fo) ⟨h', g, dr, tk', os⟩) :
   wpAny (model PySem.Challenge.pw_qd0112_01 w) A (call (.ref 842) [.ref lw]) Q E ⟨h, g, dr, tk, os⟩ := by
  refine wk ?_ ?_
  · refine enter (ps := ["widths"]) (rest := ["found", "width"]) (vs := [.ref lw]) ["widths", "found", "width"] [] [] G M (by k_is) (by k_is) (BindsTo.of_eq rfl) rfl rfl (by kernel_rfl) ?_
    intro A' env L' h₁ tk' M' V S
    have hvl := hi.length
    kd_subs
    rename_i t₁ _ fo _ _ _ _ _ _ S₂
    refine z_forS ?_
    kd_subs
    refine z_listLoop (i₀ := 2) (vs := vw) (fun _ _ => False) (Er_none (Er := fun _ _ => False)) (fun j f nw => ∃ vo c, nw = [(fo, listOf (List.toArray vo) c)] ∧ f 1 = some (.ref fo) ∧ IntsAre vo ((List.range (j + 1)).map (off ws))) [] M'.handled V S₂ (by k_memK) (IsList.keeps' hl S₂.keep) (.inl (let ⟨o, ho, _⟩ := hl; ⟨o, ho⟩)) (fun _ _ _ _ _ hp => nomatch hp) ⟨_, _, rfl, rfl, ?_⟩ ?_ ?_
    · exact .cons _ _ .nil
    · rintro j v h₃ tk₃ f nw own Tg hgo hv ⟨vo, c, rfl, f1, hvo⟩ S₃
      have hj := (List.getElem?_eq_some_iff.mp hv).1
      have hol := hvo.length
      rw [List.length_map, List.length_range] at hol
      obtain ⟨x, hx⟩ : ∃ x, ws[j]? = some x := ⟨_, List.getElem?_eq_getElem (by omega)⟩
      obtain ⟨t, ht⟩ := Mine.IntsAre.get hi hx
      rw [hv] at ht
      obtain rfl := Option.some.inj ht
      obtain ⟨u, hu⟩ := Mine.IntsAre.get hvo (i := j) (x := off ws j) (by rw [List.getElem?_map, List.getElem?_range (by omega)]; rfl)
      dsimp only [List.cons_append, List.nil_append] at S₃
      kd_subs
      refine z_itemNeg (SF.lst (by assumption) (by k_memK)) (by omega) (by omega) (by omega) (by rw [hol, show ((-1 : Int) + ((j + 1 : Nat) : Int)).toNat = j by omega]; exact hu) (by with_unfolding_all rfl) ?_
      kd_subs
      refine z_appI (by assumption) (by k_memK) (by omega) fun h₆ S₆ => ?_
      dsimp only [List.set] at S₆
      kd_subs
      refine hgo _ _ (LoopEnd.turn (nw' := [(fo, _)]) S₆ (.refl _) ⟨_, _, rfl, f1, ?_⟩)
      rw [List.range_succ, List.map_append]
      rw [← off_succ hx]
      exact Mine.IntsAre.snoc hvo
    · rintro h₃ tk₃ f nw ⟨vo, c, rfl, f1, hvo⟩ S₃
      rw [hvl] at hvo
      kd_subs
      exact q _ _ _ _ _ S₃.toOwn hvo
  kct_strs
end
theorem grpS {x m : Int} (h1 : -80000 < x) (h2 : x < 80000) (h3 : 1 ≤ m) (h4 : m ≤ grp x true) : (0 - 64 * 128 ^ (m - 1).toNat ≤ x ∧ x < 64 * 128 ^ (m - 1).toNat) ↔ m = grp x true := by
  refine wk ?_ ?_
  · have hg := grp_range x true
    have h5 : m = 1 ∨ m = 2 ∨ m = 3 := by omega
    unfold grp at h4 hg ⊢
    rw [if_pos rfl] at h4 hg ⊢
    rcases h5 with rfl | rfl | rfl
    · rw [show (64 : Int) * 128 ^ ((1 : Int) - 1).toNat = 64 by decide]
      split
      · omega
      · split <;> omega
    · rw [show (64 : Int) * 128 ^ ((2 : Int) - 1).toNat = 8192 by decide]
      split
      · rename_i h; rw [if_pos h] at h4; omega
      · split <;> omega
    · rw [show (64 : Int) * 128 ^ ((3 : Int) - 1).toNat = 1048576 by decide]
      split
      · rename_i h; rw [if_pos h] at h4; omega
      · rename_i h; rw [if_neg h] at h4; split
        · rename_i h'; rw [if_pos h'] at h4; omega
        · omega
  kct_strs
theorem grpU {x m : Int} (h1 : -80000 < x) (h2 : x < 80000) (h3 : 1 ≤ m) (h4 : m ≤ grp x false) : (x < 128 ^ m.toNat) ↔ m = grp x false := by
  refine wk ?_ ?_
  · have hg := grp_range x false
    have h5 : m = 1 ∨ m = 2 ∨ m = 3 := by omega
    unfold grp at h4 hg ⊢
    rw [if_neg Bool.false_ne_true] at h4 hg ⊢
    rcases h5 with rfl | rfl | rfl
    · rw [show (128 : Int) ^ (1 : Int).toNat = 128 by decide]
      split
      · omega
      · split <;> omega
    · rw [show (128 : Int) ^ (2 : Int).toNat = 16384 by decide]
      split
      · rename_i h; rw [if_pos h] at h4; omega
      · split <;> omega
    · rw [show (128 : Int) ^ (3 : Int).toNat = 2097152 by decide]
      split
      · rename_i h; rw [if_pos h] at h4; omega
      · rename_i h; rw [if_neg h] at h4; split
        · rename_i h'; rw [if_pos h'] at h4; omega
        · omega
  kct_strs
section
variable {w : World} {A : Around} {E : Value → Shared → Prop} {h : Heap} {g : Array GenState} {dr : Drawn} {tk : Nat} {os : OsState} {Q : Value → Shared → Prop}
theorem s_lgroups {n : Nat} {x : Int} {s : Bool} {t : Tok} (G : GR (kk.heap_1 w.params) h) (M : Rm A (n + 2)) (hx : -80000 < x ∧ x < 80000)
   (q : ∀ h' t' tk', (∀ b o, h.get? b = some o → h'.get? b = some o) → Q (.int (grp x s) t') ⟨h', g, dr, tk', os⟩) :
   wpAny (model PySem.Challenge.pw_qd0112_01 w) A (call (.ref 849) [.int x t, .bool s]) Q E ⟨h, g, dr, tk, os⟩ := by
  refine wk ?_ ?_
  · refine enter (ps := ["worth", "is_signed"]) (rest := ["many"]) (vs := [.int x t, .bool s]) ["worth", "is_signed", "many"] [] [] G M (by k_is) (by k_is) (BindsTo.of_eq rfl) rfl rfl (by kernel_rfl) ?_
    intro A' env L' h₁ tk' M' V S
    have hg := grp_range x s
    kd_subs
    rename_i t₁ _ h₂ _ S₂
    refine z_whileI (j := 2) (fun j f nw => nw = [] ∧ f 0 = some (.int x t) ∧ f 1 = some (.bool s) ∧ ∃ (m : Int) (u : Tok), f 2 = some (.int m u) ∧ 1 ≤ m ∧ m ≤ grp x s ∧ (j : Int) = 3 - m) S₂ ⟨rfl, rfl, rfl, 1, t₁, rfl, by omega, hg.1, rfl⟩ ?_
    rintro j h₃ tk₃ f nw Tg hgo ⟨rfl, f0, f1, m, u, f2, h1, h2, hj⟩ S₃
    have hbits : ∀ k : Int, 0 ≤ k → k ≤ 3 → ((Builtin.Int.intBits 128 : Nat) : Int) * k ≤ 2 ^ 27 := fun k a c => by
      rw [show Builtin.Int.intBits 128 = 8 from by decide]; omega
    cases s with
    | true =>
      kd_subs
      refine z_pow (by omega) (hbits _ (by omega) (by omega)) ?_
      kd_subs
      refine z_mul (IntMulOk.of_left (by decide)) ?_
      kd_subs
      have hf := grpS hx.1 hx.2 h1 h2
      refine z_ite (fun e1 => ?_) (fun e1 => ?_)
      · rw [decide_eq_true_eq] at e1
        kd_subs
        refine z_pow (by omega) (hbits _ (by omega) (by omega)) ?_
        kd_subs
        refine z_mul (IntMulOk.of_left (by decide)) ?_
        kd_subs
        generalize hd : decide (x < 64 * 128 ^ (m - 1).toNat) = c
        cases c with
        | true =>
          rw [decide_eq_true_eq] at hd
          have := hf.mp ⟨e1, hd⟩
          subst this
          kd_subs
          exact q _ _ _ (SF.keep (by assumption))
        | false =>
          rw [decide_eq_false_iff_not] at hd
          have hne : m ≠ grp x true := fun e => hd (hf.mpr e).2
          kd_subs
          have S₉ := ‹SF h L' _ _ _›
          exact hgo _ _ ⟨j - 1, _, _, _, _, by omega, rfl, S₉, rfl, f0, f1, m + 1, _, rfl, by omega, by omega, by omega⟩
      · rw [decide_eq_false_iff_not] at e1
        have hne : m ≠ grp x true := fun e => e1 (hf.mpr e).1
        kd_subs
        have S₉ := ‹SF h L' _ _ _›
        exact hgo _ _ ⟨j - 1, _, _, _, _, by omega, rfl, S₉, rfl, f0, f1, m + 1, _, rfl, by omega, by omega, by omega⟩
    | false =>
      kd_subs
      refine z_pow (by omega) (hbits _ (by omega) (by omega)) ?_
      kd_subs
      have hf := grpU hx.1 hx.2 h1 h2
      generalize hd : decide (x < 128 ^ m.toNat) = c
      cases c with
      | true =>
        rw [decide_eq_true_eq] at hd
        have := hf.mp hd
        subst this
        kd_subs
        exact q _ _ _ (SF.keep (by assumption))
      | false =>
        rw [decide_eq_false_iff_not] at hd
        have hne : m ≠ grp x false := fun e => hd (hf.mpr e)
        kd_subs
        have S₉ := ‹SF h L' _ _ _›
        exact hgo _ _ ⟨j - 1, _, _, _, _, by omega, rfl, S₉, rfl, f0, f1, m + 1, _, rfl, by omega, by omega, by omega⟩
  kct_strs
end
/-- a row of the law's script in the heap -/
inductive RowV (h : Heap) : Value → Row → Prop
  | gap {a : Addr} {n : Int} {t u : Tok} : IsTup h a #[.str "gap" t, .int n u] → RowV h (.ref a) (.gap n)
  | jump {a : Addr} {j : Bool} {t : Nat} {c : Int} {t1 t2 t3 t4 : Tok} : IsTup h a #[.str "jump" t1, .str (if j then "jmp" else "jne") t2, .int (t : Nat) t3, .int c t4] → RowV h (.ref a) (.jump j t c)
  | leb {a : Addr} {s : Bool} {o p : Nat} {c : Int} {t1 t2 t3 t4 : Tok} : IsTup h a #[.str "leb" t1, .bool s, .int (o : Nat) t2, .int (p : Nat) t3, .int c t4] → RowV h (.ref a) (.leb s o p c)
theorem RowV.keeps {h h' : Heap} {v : Value} {r : Row} (x : RowV h v r) (kp : ∀ a o, h.get? a = some o → h'.get? a = some o) : RowV h' v r := by
  cases x with
  | gap a => exact .gap (IsTup.keeps' a kp)
  | jump a => exact .jump (IsTup.keeps' a kp)
  | leb a => exact .leb (IsTup.keeps' a kp)
section
variable {w : World} {A : Around} {E : Value → Shared → Prop} {h : Heap} {g : Array GenState} {dr : Drawn} {tk : Nat} {os : OsState} {Q : Value → Shared → Prop}
theorem s_lwanted {n : Nat} {rows : List Row} {ws : List Int} {i : Nat} {r : Row} {v : Value} {wd : Int} {lo : Addr} {vo : List Value} {u₁ u₂ : Tok} (G : GR (kk.heap_1 w.params) h) (M : Rm A (n + 3)) (X : RowV h v r) (hri : rows[i]? = some r) (W : WOk rows ws) (RO : RowsOk rows)
   (hl : h.IsList lo vo.toArray) (hvo : IntsAre vo ((List.range (ws.length + 1)).map (off ws)))
   (q : ∀ h' t' tk', (∀ b o, h.get? b = some o → h'.get? b = some o) → Q (.int (wanted ws i r wd) t') ⟨h', g, dr, tk', os⟩) :
   wpAny (model PySem.Challenge.pw_qd0112_01 w) A (call (.ref 856) [v, .int wd u₁, .ref lo, .int (i : Nat) u₂]) Q E ⟨h, g, dr, tk, os⟩ := by
  refine wk ?_ ?_
  · refine enter (ps := ["row", "width", "offsets", "at"]) (rest := ["worth"]) (vs := [v, .int wd u₁, .ref lo, .int (i : Nat) u₂]) ["row", "width", "offsets", "at", "worth"] [("_law_groups", .ref 849)] [("max", .builtin "max")] G M (by k_is) (by k_is) (BindsTo.of_eq rfl) rfl rfl (by kernel_rfl) ?_
    intro A' env L' h₁ tk' M' V S
    have hil := (List.getElem?_eq_some_iff.mp hri).1
    have hrl := RO.1
    have hwl := W.1
    have hro := RO.2 r (List.mem_of_getElem? hri)
    have hof : ∀ k : Nat, k ≤ rows.length → ∃ t, vo[k]? = some (.int (off ws k) t) := fun k hk => Mine.IntsAre.get hvo (by rw [List.getElem?_map, List.getElem?_range (by omega)]; rfl)
    cases X with
    | gap hT =>
      kd_subs
      refine z_tup (IsTup.keeps' hT (SF.keep (by assumption))) (by decide) (by decide) rfl (by with_unfolding_all rfl) ?_
      kd_subs
      refine z_yes (by with_unfolding_all rfl) ?_
      kd_subs
      exact q _ _ _ (SF.keep (by assumption))
    | @leb a s o p c t3 t4 t5 t6 hT =>
      have hw := worth_bound W RO hro
      obtain ⟨ho, hp, -⟩ := hro
      obtain ⟨t1, ht1⟩ := hof _ ho
      obtain ⟨t2, ht2⟩ := hof _ hp
      kd_subs
      refine z_tup (IsTup.keeps' hT (SF.keep (by assumption))) (by decide) (by decide) rfl (by with_unfolding_all rfl) ?_
      kd_subs
      refine z_no (by with_unfolding_all rfl) ?_
      kd_subs
      refine z_tup (IsTup.keeps' hT (SF.keep (by assumption))) (by decide) (by decide) rfl (by with_unfolding_all rfl) ?_
      kd_subs
      refine z_yes (by with_unfolding_all rfl) ?_
      kd_subs
      refine z_tup (IsTup.keeps' hT (SF.keep (by assumption))) (by decide) (by decide) rfl (by with_unfolding_all rfl) ?_
      kd_subs
      refine z_item (IsList.keeps' hl (SF.keep (by assumption))) (by omega) (by omega) (by rw [Int.toNat_natCast]; exact ht1) (by with_unfolding_all rfl) ?_
      kd_subs
      refine z_tup (IsTup.keeps' hT (SF.keep (by assumption))) (by decide) (by decide) rfl (by with_unfolding_all rfl) ?_
      kd_subs
      refine z_item (IsList.keeps' hl (SF.keep (by assumption))) (by omega) (by omega) (by rw [Int.toNat_natCast]; exact ht2) (by with_unfolding_all rfl) ?_
      kd_subs
      refine z_tup (IsTup.keeps' hT (SF.keep (by assumption))) (by decide) (by decide) rfl (by with_unfolding_all rfl) ?_
      kd_subs
      change -80000 < off ws o - off ws p + c ∧ off ws o - off ws p + c < 80000 at hw
      refine z_ite (fun e1 => ?_) (fun e1 => ?_)
      · rw [decide_eq_true_eq] at e1
        kd_subs
        refine z_tup (IsTup.keeps' hT (SF.keep (by assumption))) (by decide) (by decide) rfl (by with_unfolding_all rfl) ?_
        kd_subs
        cases s with
        | false =>
          have hwt : wanted ws i (.leb false o p c) wd = wd := by unfold wanted worth; simp [e1]
          kd_subs
          rw [hwt] at q
          exact q _ _ _ (SF.keep (by assumption))
        | true =>
          have hwt : wanted ws i (.leb true o p c) wd = max wd (grp (off ws o - off ws p + c) true) := by unfold wanted worth; simp
          kd_subs
          refine z_tup (IsTup.keeps' hT (SF.keep (by assumption))) (by decide) (by decide) rfl (by with_unfolding_all rfl) ?_
          kd_subs
          refine s_lgroups (n := n) (G.keeps (SF.keep (by assumption))) M' hw ?_
          intro h₈ t₈ tk₈ kp₈
          have S₈ := SF.keeps ‹SF h L' _ _ _› kp₈
          kd_subs
          refine z_max M'.handled S₈ ?_
          intro h₉ t₉ tk₉ S₉
          kd_subs
          rw [hwt] at q
          exact q _ _ _ S₉.keep
      · rw [decide_eq_false_iff_not] at e1
        have hwt : wanted ws i (.leb s o p c) wd = max wd (grp (off ws o - off ws p + c) s) := by unfold wanted worth; simp [e1]
        kd_subs
        refine z_tup (IsTup.keeps' hT (SF.keep (by assumption))) (by decide) (by decide) rfl (by with_unfolding_all rfl) ?_
        kd_subs
        refine s_lgroups (n := n) (G.keeps (SF.keep (by assumption))) M' hw ?_
        intro h₈ t₈ tk₈ kp₈
        have S₈ := SF.keeps ‹SF h L' _ _ _› kp₈
        kd_subs
        refine z_max M'.handled S₈ ?_
        intro h₉ t₉ tk₉ S₉
        kd_subs
        rw [hwt] at q
        exact q _ _ _ S₉.keep
    | @jump a j t c t3 t4 t5 t6 hT =>
      obtain ⟨ho, -⟩ := hro
      obtain ⟨t1, ht1⟩ := hof _ ho
      obtain ⟨t2, ht2⟩ := hof i (by omega)
      kd_subs
      refine z_tup (IsTup.keeps' hT (SF.keep (by assumption))) (by decide) (by decide) rfl (by with_unfolding_all rfl) ?_
      kd_subs
      refine z_no (by with_unfolding_all rfl) ?_
      kd_subs
      refine z_tup (IsTup.keeps' hT (SF.keep (by assumption))) (by decide) (by decide) rfl (by with_unfolding_all rfl) ?_
      kd_subs
      refine z_no (by with_unfolding_all rfl) ?_
      kd_subs
      refine z_ite (fun e1 => ?_) (fun e1 => ?_)
      · have hwt : wanted ws i (.jump j t c) wd = wd := by unfold wanted; simp at e1; simp [e1]
        kd_subs
        rw [hwt] at q
        exact q _ _ _ (SF.keep (by assumption))
      · have e1' : wd = 2 := by simpa using e1
        kd_subs
        refine z_tup (IsTup.keeps' hT (SF.keep (by assumption))) (by decide) (by decide) rfl (by with_unfolding_all rfl) ?_
        kd_subs
        refine z_item (IsList.keeps' hl (SF.keep (by assumption))) (by omega) (by omega) (by rw [Int.toNat_natCast]; exact ht1) (by with_unfolding_all rfl) ?_
        kd_subs
        refine z_tup (IsTup.keeps' hT (SF.keep (by assumption))) (by decide) (by decide) rfl (by with_unfolding_all rfl) ?_
        kd_subs
        refine z_item (IsList.keeps' hl (SF.keep (by assumption))) (by omega) (by omega) (by rw [Int.toNat_natCast]; exact ht2) (by with_unfolding_all rfl) ?_
        kd_subs
        refine z_ite (fun e2 => ?_) (fun e2 => ?_)
        · rw [decide_eq_true_eq] at e2
          kd_subs
          generalize hd : decide (off ws t + c - off ws i - 2 ≤ 127) = d
          cases d with
          | true =>
            rw [decide_eq_true_eq] at hd
            have hwt : wanted ws i (.jump j t c) wd = wd := by unfold wanted; dsimp only; rw [if_pos (by omega)]
            kd_subs
            rw [hwt] at q
            exact q _ _ _ (SF.keep (by assumption))
          | false =>
            rw [decide_eq_false_iff_not] at hd
            have hwt : wanted ws i (.jump j t c) wd = if j then 5 else 6 := by unfold wanted; dsimp only; rw [if_neg (by omega)]
            kd_subs
            refine z_tup (IsTup.keeps' hT (SF.keep (by assumption))) (by decide) (by decide) rfl (by with_unfolding_all rfl) ?_
            kd_subs
            cases j with
            | true =>
              refine z_yes (by with_unfolding_all rfl) ?_
              kd_subs
              rw [hwt] at q
              exact q _ _ _ (SF.keep (by assumption))
            | false =>
              refine z_no (by with_unfolding_all rfl) ?_
              kd_subs
              rw [hwt] at q
              exact q _ _ _ (SF.keep (by assumption))
        · rw [decide_eq_false_iff_not] at e2
          have hwt : wanted ws i (.jump j t c) wd = if j then 5 else 6 := by unfold wanted; dsimp only; rw [if_neg (by omega)]
          kd_subs
          refine z_tup (IsTup.keeps' hT (SF.keep (by assumption))) (by decide) (by decide) rfl (by with_unfolding_all rfl) ?_
          kd_subs
          cases j with
          | true =>
            refine z_yes (by with_unfolding_all rfl) ?_
            kd_subs
            rw [hwt] at q
            exact q _ _ _ (SF.keep (by assumption))
          | false =>
            refine z_no (by with_unfolding_all rfl) ?_
            kd_subs
            rw [hwt] at q
            exact q _ _ _ (SF.keep (by assumption))
  kct_strs
end
/-- objects that make a piece, whatever the heap -/
noncomputable def PO (K : Frag) (own : List (Addr × Obj)) (v : Value) (r : Row) : Prop := ∀ H : Heap, (∀ p ∈ own, H.get? p.1 = some p.2) → PieceAt K H v r
theorem PO.mono {K : Frag} {own own' : List (Addr × Obj)} {v : Value} {r : Row} (x : PO K own v r) (h : own ⊆ own') : PO K own' v r := fun H hp => x H fun p hq => hp p (h hq)
section
variable {w : World} {A : Around} {E : Value → Shared → Prop} {b h : Heap} {L : Addr} {m : Str → Option Value} {nw : List (Addr × Obj)} {g : Array GenState} {dr : Drawn} {tk : Nat} {os : OsState} {Q : Value → Shared → Prop}
theorem s_piece {n : Nat} {C a dx : Addr} {wy : Str} {t : Tok} (S : SF b L h m ((a, instObj C dx) :: (dx, dictOf [] 0) :: nw)) (G : GR (kk.heap_1 w.params) b) (M : Rm A (n + 1)) (hc1 : stChk (kk.heap_1 w.params) C "way" = true) (hc2 : stChk (kk.heap_1 w.params) C "at" = true)
   (q : ∀ h' tk' t₁ t₂, SF b L h' m ((a, instObj C dx) :: (dx, dictOf [⟨PyData.keyHash w.params "way", .str "way" t₁, .str wy t⟩, ⟨PyData.keyHash w.params "at", .str "at" t₂, .none⟩] 2) :: nw) → Q .none ⟨h', g, dr, tk', os⟩) :
   wpAny (model PySem.Challenge.pw_qd0112_01 w) A (call (.ref 565) [.ref a, .str wy t, .none]) Q E ⟨h, g, dr, tk, os⟩ := by
  refine wk ?_ ?_
  · refine wpAny_call (enterI (ps := ["self", "way", "at"]) (rest := []) (vs := [.ref a, .str wy t, .none]) ["self", "way", "at"] [] [] S G M (by k_is) (by k_is) (BindsTo.of_eq rfl) rfl rfl (by kernel_rfl) ?_)
    intro A₃ env₃ L₃ gb h₃ tk₃ M₃ V₃ G₃ k₃ S₃
    kd_subs
    refine z_setA (by assumption) (by assumption) (by k_memK) (by k_memK) hc1 (by k_get) (by k_put) (Nat.le_of_ble_eq_true rfl) (by k_memK) ?_
    intro h₄ tk₄ S₄
    kd_subs
    refine z_setA (by assumption) (by assumption) (by k_memK) (by k_memK) hc2 (by k_get) (by k_put) (Nat.le_of_ble_eq_true rfl) (by k_memK) ?_
    intro h₅ tk₅ S₅
    kd_subs
    refine z_back (by assumption) fun S₆ => ?_
    exact q _ _ _ _ S₆
  kct_strs
theorem s_space {n : Nat} {x : Int} {t u : Tok} (S : SF b L h m nw) (G : GR (kk.heap_1 w.params) b) (M : Rm A (n + 3))
   (q : ∀ a own h' tk', SF b L h' m (own ++ nw) → PO (kk.heap_1 w.params) own (.ref a) (.gap x) → Q (.ref a) ⟨h', g, dr, tk', os⟩) :
   wpAny (model PySem.Challenge.pw_qd0112_01 w) A (call (.ref 645) [.int x t, .int 144 u]) Q E ⟨h, g, dr, tk, os⟩ := by
  refine wk ?_ ?_
  · refine z_make (fI := 628) S G M (by kernel_rfl) ?_
    intro a dx h₂ A₂ M₂ S₂
    refine enterI (ps := ["self", "count", "fill", "at"]) (rest := []) (vs := [.ref a, .int x t, .int 144 u, .none]) ["self", "count", "fill", "at"] [("Piece", .ref 575)] [] S₂ G M₂ (by k_is) (by k_is) (by exact binds_K ((G.keeps S₂.keep).inK) rfl (by k_is) rfl rfl rfl) rfl rfl (by kernel_rfl) ?_
    intro A₃ env₃ L₃ gb h₃ tk₃ M₃ V₃ G₃ k₃ S₃
    kd_subs
    refine z_clsM S₃ G₃ (f := 565) (by kernel_rfl) ?_ (by with_unfolding_all rfl) (by with_unfolding_all rfl)
    kd_subs
    refine s_piece (n := n) S₃ G₃ M₃ (by kernel_rfl) (by kernel_rfl) ?_
    intro h₄ tk₄ t₁ t₂ S₄
    kd_subs
    kcf_m
    kd_subs
    kcf_m
    kd_subs
    refine z_back (by assumption) fun S₅ => ⟨rfl, ?_⟩
    refine q a [_, _] _ _ S₅ fun H hp => ?_
    have H1 := hp _ (.head _)
    have H2 := hp _ (.tail _ (.head _))
    exact .gap ⟨_, _, _, H1, H2, by with_unfolding_all k_get, rfl, by kernel_rfl⟩ ⟨_, _, _, H1, H2, by with_unfolding_all k_get, rfl, by kernel_rfl⟩
  kct_strs
end
theorem lbl_all : ((List.range 9).all fun i => (List.range 9).all fun j => lbl i != lbl j || i == j) = true := by decide +kernel
theorem lbl_inj {i j : Nat} (hi : i ≤ 8) (hj : j ≤ 8) (h : lbl i = lbl j) : i = j := by
  have h1 := List.all_eq_true.mp lbl_all i (List.mem_range.mpr (by omega))
  have h2 := List.all_eq_true.mp h1 j (List.mem_range.mpr (by omega))
  simpa [h] using h2
noncomputable def AfO (K : Frag) (own : List (Addr × Obj)) (f : Addr) (c : Int) (o p : Nat) : Prop := ∀ H : Heap, (∀ q ∈ own, H.get? q.1 = some q.2) → ∃ t2 t3 t4, AttrIs K H f 192 "worth" (.int c t2) ∧ AttrIs K H f 192 "plus" (.str (if o = p then "" else lbl o) t3) ∧ AttrIs K H f 192 "minus" (.str (if o = p then "" else lbl p) t4)
section
variable {w : World} {A : Around} {E : Value → Shared → Prop} {b h : Heap} {L : Addr} {m : Str → Option Value} {nw : List (Addr × Obj)} {g : Array GenState} {dr : Drawn} {tk : Nat} {os : OsState} {Q : Value → Shared → Prop}
theorem s_affine {n : Nat} {c : Int} {o p : Nat} {t t1 t2 : Tok} (S : SF b L h m nw) (G : GR (kk.heap_1 w.params) b) (M : Rm A (n + 3)) (ho : o ≤ 8) (hp : p ≤ 8)
   (q : ∀ f own h' tk', SF b L h' m (own ++ nw) → AfO (kk.heap_1 w.params) own f c o p → Q (.ref f) ⟨h', g, dr, tk', os⟩) :
   wpAny (model PySem.Challenge.pw_qd0112_01 w) A (call (.ref 192) [.int c t, .str (lbl o) t1, .str (lbl p) t2]) Q E ⟨h, g, dr, tk, os⟩ := by
  refine wk ?_ ?_
  · refine z_make (fI := 147) S G M (by kernel_rfl) ?_
    intro x dx h₂ A₂ M₂ S₂
    refine enterI (ps := ["self", "worth", "plus", "minus"]) (rest := []) (vs := [.ref x, .int c t, .str (lbl o) t1, .str (lbl p) t2]) ["self", "worth", "plus", "minus"] [] [] S₂ G M₂ (by k_is) (by k_is) (by exact binds_K ((G.keeps S₂.keep).inK) rfl (by k_is) rfl rfl rfl) rfl rfl (by kernel_rfl) ?_
    intro A₃ env₃ L₃ gb h₃ tk₃ M₃ V₃ G₃ k₃ S₃
    kd_subs
    kcf_m
    kd_subs
    by_cases e : o = p
    · subst e
      refine z_no (by simp) ?_
      kd_subs
      kcf_m
      kd_subs
      refine z_no (by simp) ?_
      kd_subs
      kcf_m
      kd_subs
      refine z_back (by assumption) fun S₄ => ⟨rfl, ?_⟩
      refine q x [_, _] _ _ S₄ fun H hp => ?_
      have H1 := hp _ (.head _)
      have H2 := hp _ (.tail _ (.head _))
      rw [if_pos rfl]
      exact ⟨_, _, _, ⟨_, _, _, H1, H2, by with_unfolding_all k_get, rfl, by kernel_rfl⟩, ⟨_, _, _, H1, H2, by with_unfolding_all k_get, rfl, by kernel_rfl⟩, ⟨_, _, _, H1, H2, by with_unfolding_all k_get, rfl, by kernel_rfl⟩⟩
    · have hne : lbl o ≠ lbl p := fun z => e (lbl_inj ho hp z)
      refine z_yes (by simpa using hne) ?_
      kd_subs
      kcf_m
      kd_subs
      refine z_yes (by simpa using hne) ?_
      kd_subs
      kcf_m
      kd_subs
      refine z_back (by assumption) fun S₄ => ⟨rfl, ?_⟩
      refine q x [_, _] _ _ S₄ fun H hp => ?_
      have H1 := hp _ (.head _)
      have H2 := hp _ (.tail _ (.head _))
      rw [if_neg e, if_neg e]
      exact ⟨_, _, _, ⟨_, _, _, H1, H2, by with_unfolding_all k_get, rfl, by kernel_rfl⟩, ⟨_, _, _, H1, H2, by with_unfolding_all k_get, rfl, by kernel_rfl⟩, ⟨_, _, _, H1, H2, by with_unfolding_all k_get, rfl, by kernel_rfl⟩⟩
  kct_strs
theorem s_leb {n : Nat} {c : Int} {o p : Nat} {s : Bool} {f : Addr} {nf : List (Addr × Obj)} (S : SF b L h m (nf ++ nw)) (G : GR (kk.heap_1 w.params) b) (M : Rm A (n + 3)) (Y : AfO (kk.heap_1 w.params) nf f c o p)
   (q : ∀ a own h' tk', SF b L h' m (own ++ nw) → PO (kk.heap_1 w.params) own (.ref a) (.leb s o p c) → Q (.ref a) ⟨h', g, dr, tk', os⟩) :
   wpAny (model PySem.Challenge.pw_qd0112_01 w) A (call (.ref 672) [.ref f, .bool s]) Q E ⟨h, g, dr, tk, os⟩ := by
  refine wk ?_ ?_
  · refine z_make (fI := 662) S G M (by kernel_rfl) ?_
    intro a dx h₂ A₂ M₂ S₂
    refine enterI (ps := ["self", "affine", "is_signed", "at"]) (rest := []) (vs := [.ref a, .ref f, .bool s, .none]) ["self", "affine", "is_signed", "at"] [("Piece", .ref 575)] [] S₂ G M₂ (by k_is) (by k_is) (by exact binds_K ((G.keeps S₂.keep).inK) rfl (by k_is) rfl rfl rfl) rfl rfl (by kernel_rfl) ?_
    intro A₃ env₃ L₃ gb h₃ tk₃ M₃ V₃ G₃ k₃ S₃
    kd_subs
    refine z_clsM S₃ G₃ (f := 565) (by kernel_rfl) ?_ (by with_unfolding_all rfl) (by with_unfolding_all rfl)
    kd_subs
    refine s_piece (n := n) S₃ G₃ M₃ (by kernel_rfl) (by kernel_rfl) ?_
    intro h₄ tk₄ t₁ t₂ S₄
    kd_subs
    kcf_m
    kd_subs
    kcf_m
    kd_subs
    refine z_back (by assumption) fun S₅ => ⟨rfl, ?_⟩
    refine q a (_ :: _ :: nf) _ _ S₅ fun H hp => ?_
    have H1 := hp _ (.head _)
    have H2 := hp _ (.tail _ (.head _))
    obtain ⟨t2, t3, t4, y1, y2, y3⟩ := Y H fun x hx => hp x (.tail _ (.tail _ hx))
    exact .leb ⟨_, _, _, H1, H2, by with_unfolding_all k_get, rfl, by kernel_rfl⟩ ⟨_, _, _, H1, H2, by with_unfolding_all k_get, rfl, by kernel_rfl⟩ ⟨_, _, _, H1, H2, by with_unfolding_all k_get, rfl, by kernel_rfl⟩ ⟨_, _, _, H1, H2, by with_unfolding_all k_get, rfl, by kernel_rfl⟩ y1 y2 y3
  kct_strs
end
section
variable {w : World} {A : Around} {E : Value → Shared → Prop} {b h : Heap} {L : Addr} {m : Str → Option Value} {nw : List (Addr × Obj)} {g : Array GenState} {dr : Drawn} {tk : Nat} {os : OsState} {Q : Value → Shared → Prop}
theorem z_tupOf {l : Addr} {vs : List Value} (S : SF b L h m nw) (hl : h.IsList l vs.toArray) (hz : vs.length ≤ 1000)
   (q : ∀ T h', SF b L h' m ((T, ⟨.type "tuple", none, .seq vs.toArray 0, #[]⟩) :: nw) → Q (.ref T) ⟨h', g, dr, tk, os⟩) :
   wpAny (model PySem.Challenge.pw_qd0112_01 w) A (call (.type "tuple") [.ref l]) Q E ⟨h, g, dr, tk, os⟩ :=
  call_tuple_list (s := ⟨h, g, dr, tk, os⟩) hl (fun h' kp => q _ _ ((S.keeps kp).push _ rfl)) (by rw [sizeLine_eq, List.size_toArray]; omega)
noncomputable def ReO (K : Frag) (own : List (Addr × Obj)) (r : Addr) (c : Int) (t : Nat) : Prop := ∀ H : Heap, (∀ q ∈ own, H.get? q.1 = some q.2) → ∃ t3 t4, AttrIs K H r 494 "worth" (.int c t3) ∧ AttrIs K H r 494 "name" (.str (lbl t) t4)
theorem s_rel {n : Nat} {c : Int} {t' : Nat} {t t1 : Tok} (S : SF b L h m nw) (G : GR (kk.heap_1 w.params) b) (M : Rm A (n + 3))
   (q : ∀ r own h' tk', SF b L h' m (own ++ nw) → ReO (kk.heap_1 w.params) own r c t' → Q (.ref r) ⟨h', g, dr, tk', os⟩) :
   wpAny (model PySem.Challenge.pw_qd0112_01 w) A (call (.ref 494) [.int c t, .str (lbl t') t1]) Q E ⟨h, g, dr, tk, os⟩ := by
  refine wk ?_ ?_
  · refine z_make (fI := 470) S G M (by kernel_rfl) ?_
    intro x dx h₂ A₂ M₂ S₂
    refine enterI (ps := ["self", "worth", "name"]) (rest := []) (vs := [.ref x, .int c t, .str (lbl t') t1]) ["self", "worth", "name"] [("Operand", .ref 451)] [] S₂ G M₂ (by k_is) (by k_is) (by exact binds_K ((G.keeps S₂.keep).inK) rfl (by k_is) rfl rfl rfl) rfl rfl (by kernel_rfl) ?_
    intro A₃ env₃ L₃ gb h₃ tk₃ M₃ V₃ G₃ k₃ S₃
    kd_subs
    refine z_clsM S₃ G₃ (f := 427) (by kernel_rfl) ?_ (by with_unfolding_all rfl) (by with_unfolding_all rfl)
    kd_subs
    rename_i t₅ _
    refine wpAny_call (enterI (ps := ["self", "kind"]) (rest := []) (vs := [.ref x, .str "rel" t₅]) ["self", "kind"] [] [] S₃ G₃ M₃ (by k_is) (by k_is) (BindsTo.of_eq rfl) rfl rfl (by kernel_rfl) ?_)
    intro A₄ env₄ L₄ gb₄ h₄ tk₄ M₄ V₄ G₄ k₄ S₄
    kd_subs
    kcf_m
    kd_subs
    refine z_back (by assumption) fun S₅ => ?_
    dsimp only [retv]
    kd_subs
    kcf_m
    kd_subs
    kcf_m
    kd_subs
    refine z_back (by assumption) fun S₆ => ⟨rfl, ?_⟩
    refine q x [_, _] _ _ S₆ fun H hp => ?_
    have H1 := hp _ (.head _)
    have H2 := hp _ (.tail _ (.head _))
    exact ⟨_, _, ⟨_, _, _, H1, H2, by with_unfolding_all k_get, rfl, by kernel_rfl⟩, ⟨_, _, _, H1, H2, by with_unfolding_all k_get, rfl, by kernel_rfl⟩⟩
  kct_strs
noncomputable def InO (K : Frag) (own : List (Addr × Obj)) (i : Addr) (j : Bool) (c : Int) (t : Nat) : Prop := ∀ H : Heap, (∀ q ∈ own, H.get? q.1 = some q.2) → ∃ o r t2 t3 t4, AttrIs K H i 547 "name" (.str (if j then "jmp" else "jne") t2) ∧ AttrIs K H i 547 "operands" (.ref o) ∧ IsTup H o #[.ref r] ∧ AttrIs K H r 494 "worth" (.int c t3) ∧ AttrIs K H r 494 "name" (.str (lbl t) t4)
theorem s_instr {n : Nat} {j : Bool} {c : Int} {t' : Nat} {r l : Addr} {cc : Nat} {t : Tok} {nf : List (Addr × Obj)} (S : SF b L h m ((l, listOf [Value.ref r].toArray cc) :: (nf ++ nw))) (G : GR (kk.heap_1 w.params) b) (M : Rm A (n + 3)) (Y : ReO (kk.heap_1 w.params) nf r c t')
   (q : ∀ i own h' tk', SF b L h' m (own ++ nw) → InO (kk.heap_1 w.params) own i j c t' → Q (.ref i) ⟨h', g, dr, tk', os⟩) :
   wpAny (model PySem.Challenge.pw_qd0112_01 w) A (call (.ref 547) [.str (if j then "jmp" else "jne") t, .ref l]) Q E ⟨h, g, dr, tk, os⟩ := by
  refine wk ?_ ?_
  · refine z_make (fI := 511) S G M (by kernel_rfl) ?_
    intro x dx h₂ A₂ M₂ S₂
    refine enterI (ps := ["self", "name", "operands", "prefix"]) (rest := []) (vs := [.ref x, .str (if j then "jmp" else "jne") t, .ref l, _]) ["self", "name", "operands", "prefix"] [] [("tuple", .type "tuple")] S₂ G M₂ (by k_is) (by k_is) (by exact binds_K ((G.keeps S₂.keep).inK) rfl (by k_is) rfl rfl rfl) rfl rfl (by kernel_rfl) ?_
    intro A₃ env₃ L₃ gb h₃ tk₃ M₃ V₃ G₃ k₃ S₃
    kd_subs
    kcf_m
    kd_subs
    refine z_tupOf (vs := [.ref r]) (by assumption) (SF.lst (by assumption) (by k_memK)) (Nat.le_of_ble_eq_true rfl) ?_
    intro T h₄ S₄
    kd_subs
    kcf_m
    kd_subs
    kcf_m
    kd_subs
    refine z_back (by assumption) fun S₅ => ⟨rfl, ?_⟩
    have S₆ := SF.sub (nw' := (_ :: _ :: _ :: nf) ++ nw) S₅ (.cons_cons _ (.cons_cons _ (.cons_cons _ (.cons _ (.refl _)))))
    refine q x (_ :: _ :: _ :: nf) _ _ S₆ fun H hp => ?_
    have H1 := hp _ (.head _)
    have H2 := hp _ (.tail _ (.head _))
    have H3 := hp _ (.tail _ (.tail _ (.head _)))
    obtain ⟨t3, t4, y1, y2⟩ := Y H fun x hx => hp x (.tail _ (.tail _ (.tail _ hx)))
    exact ⟨T, r, _, t3, t4, ⟨_, _, _, H2, H3, by with_unfolding_all k_get, rfl, by kernel_rfl⟩, ⟨_, _, _, H2, H3, by with_unfolding_all k_get, rfl, by kernel_rfl⟩, ⟨_, H1, rfl, _, rfl⟩, y1, y2⟩
  kct_strs
theorem s_branch {n : Nat} {j : Bool} {c : Int} {t' : Nat} {i : Addr} {nf : List (Addr × Obj)} (S : SF b L h m (nf ++ nw)) (G : GR (kk.heap_1 w.params) b) (M : Rm A (n + 3)) (Y : InO (kk.heap_1 w.params) nf i j c t')
   (q : ∀ a own h' tk', SF b L h' m (own ++ nw) → PO (kk.heap_1 w.params) own (.ref a) (.jump j t' c) → Q (.ref a) ⟨h', g, dr, tk', os⟩) :
   wpAny (model PySem.Challenge.pw_qd0112_01 w) A (call (.ref 611) [.ref i]) Q E ⟨h, g, dr, tk, os⟩ := by
  refine wk ?_ ?_
  · refine z_make (fI := 594) S G M (by kernel_rfl) ?_
    intro a dx h₂ A₂ M₂ S₂
    refine enterI (ps := ["self", "instruction", "at"]) (rest := []) (vs := [.ref a, .ref i, .none]) ["self", "instruction", "at"] [("Piece", .ref 575)] [] S₂ G M₂ (by k_is) (by k_is) (by exact binds_K ((G.keeps S₂.keep).inK) rfl (by k_is) rfl rfl rfl) rfl rfl (by kernel_rfl) ?_
    intro A₃ env₃ L₃ gb h₃ tk₃ M₃ V₃ G₃ k₃ S₃
    kd_subs
    refine z_clsM S₃ G₃ (f := 565) (by kernel_rfl) ?_ (by with_unfolding_all rfl) (by with_unfolding_all rfl)
    kd_subs
    refine s_piece (n := n) S₃ G₃ M₃ (by kernel_rfl) (by kernel_rfl) ?_
    intro h₄ tk₄ t₁ t₂ S₄
    kd_subs
    kcf_m
    kd_subs
    refine z_back (by assumption) fun S₅ => ⟨rfl, ?_⟩
    refine q a (_ :: _ :: nf) _ _ S₅ fun H hp => ?_
    have H1 := hp _ (.head _)
    have H2 := hp _ (.tail _ (.head _))
    obtain ⟨o, r, t2, t3, t4, y1, y2, y3, y4, y5⟩ := Y H fun x hx => hp x (.tail _ (.tail _ hx))
    exact .jump ⟨_, _, _, H1, H2, by with_unfolding_all k_get, rfl, by kernel_rfl⟩ ⟨_, _, _, H1, H2, by with_unfolding_all k_get, rfl, by kernel_rfl⟩ y1 y2 y3 y4 y5
  kct_strs
end
theorem strI_all : ((List.range 9).all fun i => decide ((Str.ofString (toString (i : Int))).length ≤ 20) && decide ((i : Int).natAbs.log2 < 1920)) = true := by decide +kernel
theorem strI_len {i : Nat} (hi : i ≤ 8) : (Str.ofString (toString (i : Int))).length ≤ 20 ∧ (i : Int).natAbs.log2 < 1920 := by
  have h1 := List.all_eq_true.mp strI_all i (List.mem_range.mpr (by omega))
  rw [Bool.and_eq_true, decide_eq_true_eq, decide_eq_true_eq] at h1
  exact h1
section
variable {w : World} {A : Around} {E : Value → Shared → Prop} {b h : Heap} {L : Addr} {m : Str → Option Value} {nw : List (Addr × Obj)} {g : Array GenState} {dr : Drawn} {tk : Nat} {os : OsState} {Q : Value → Shared → Prop}
theorem z_strI {i : Nat} {t : Tok} (hi : i ≤ 8) (q : ∀ t' tk', Q (.str (Str.ofString (toString (i : Int))) t') ⟨h, g, dr, tk', os⟩) : wpAny (model PySem.Challenge.pw_qd0112_01 w) A (call (.type "str") [.int (i : Nat) t]) Q E ⟨h, g, dr, tk, os⟩ :=
  PySem.P.str_of_int (strI_len hi).2 (q _ _)
theorem z_lbl {i : Nat} {t u : Tok} (hi : i ≤ 8) (q : ∀ t' tk', Q (.str (lbl i) t') ⟨h, g, dr, tk', os⟩) : wpAny (model PySem.Challenge.pw_qd0112_01 w) A (binaryOp .Add (.str "l" t) (.str (Str.ofString (toString (i : Int))) u)) Q E ⟨h, g, dr, tk, os⟩ :=
  PyProof.Rows.add_str (fun t' tk' => q t' tk') (by have := (strI_len hi).1; rw [sizeLine_eq, show (Str.ofString "l").length = 1 from by kernel_rfl]; omega)
/-- text.mark(name) -/
theorem s_mark {n : Nat} {sec dsec lp dl : Addr} {esS : List DictEntry} {vs : List Value} {c : Nat} {o : Obj} {kvs : List (Str × Value)} {nm : Str} {t₀ : Tok} (S : SF b L h m ((dl, o) :: (lp, listOf vs.toArray c) :: (sec, instObj 733 dsec) :: (dsec, dictOf esS 3) :: nw)) (G : GR (kk.heap_1 w.params) b) (M : Rm A (n + 1))
   (e1 : getL "pieces" esS = some (some (.ref lp))) (e2 : getL "labels" esS = some (some (.ref dl))) (hD : DObj (strKind PySem.Challenge.pw_qd0112_01 w) o kvs) (ha : valueAt kvs nm = none) (hz : kvs.length ≤ 1000) (hv : vs.length ≤ 1000)
   (q : ∀ T t u h' tk' o', SF b L h' m ((dl, o') :: (lp, listOf vs.toArray c) :: (sec, instObj 733 dsec) :: (dsec, dictOf esS 3) :: (T, ⟨.type "tuple", none, .seq #[.int (vs.length : Nat) t, .int 0 u] 0, #[]⟩) :: nw) → DObj (strKind PySem.Challenge.pw_qd0112_01 w) o' (kvs ++ [(nm, .ref T)]) → Q .none ⟨h', g, dr, tk', os⟩) :
   wpAny (model PySem.Challenge.pw_qd0112_01 w) A (call (.ref 716) [.ref sec, .str nm t₀]) Q E ⟨h, g, dr, tk, os⟩ := by
  refine wk ?_ ?_
  · refine wpAny_call (enterI (ps := ["self", "name"]) (rest := []) (vs := [.ref sec, .str nm t₀]) ["self", "name"] [] [("len", .builtin "len")] S G M (by k_is) (by k_is) (BindsTo.of_eq rfl) rfl rfl (by kernel_rfl) ?_)
    intro A₄ env₄ L₄ gb₄ h₄ tk₄ M₄ V₄ G₄ k₄ S₄
    kd_subs
    refine z_atL (by assumption) (by assumption) (by k_memK) (by k_memK) e1 rfl (by kernel_rfl) ?_
    kd_subs
    refine z_len (SF.lst (by assumption) (by k_memK)) (by omega) ?_
    kd_subs
    refine z_atL (by assumption) (by assumption) (by k_memK) (by k_memK) e2 rfl (by kernel_rfl) ?_
    kd_subs
    refine z_setkey (by assumption) (by k_memK) hD (strKind_is _ _ _ _) hz ?_
    intro h₅ tk₅ o' S₅ hD'
    dsimp only [List.set] at S₅
    rw [stored_absent ha] at hD'
    kd_subs
    refine z_back (by assumption) fun S₆ => ?_
    exact q _ _ _ _ _ _ (S₆.perm (List.perm_middle (l₁ := [_, _, _, _])).symm) hD'
  kct_strs
/-- text.add(piece) -/
theorem s_add {n : Nat} {sec dsec lp dl : Addr} {esS : List DictEntry} {vs : List Value} {c : Nat} {o : Obj} {v : Value} (S : SF b L h m ((dl, o) :: (lp, listOf vs.toArray c) :: (sec, instObj 733 dsec) :: (dsec, dictOf esS 3) :: nw)) (G : GR (kk.heap_1 w.params) b) (M : Rm A (n + 1))
   (e1 : getL "pieces" esS = some (some (.ref lp))) (hv : vs.length ≤ 1000)
   (q : ∀ h' tk', SF b L h' m ((dl, o) :: (lp, listOf (vs ++ [v]).toArray (c + 1)) :: (sec, instObj 733 dsec) :: (dsec, dictOf esS 3) :: nw) → Q .none ⟨h', g, dr, tk', os⟩) :
   wpAny (model PySem.Challenge.pw_qd0112_01 w) A (call (.ref 709) [.ref sec, v]) Q E ⟨h, g, dr, tk, os⟩ := by
  refine wk ?_ ?_
  · refine wpAny_call (enterI (ps := ["self", "piece"]) (rest := []) (vs := [.ref sec, v]) ["self", "piece"] [] [] S G M (by k_is) (by k_is) (BindsTo.of_eq rfl) rfl rfl (by kernel_rfl) ?_)
    intro A₄ env₄ L₄ gb₄ h₄ tk₄ M₄ V₄ G₄ k₄ S₄
    kd_subs
    refine z_atL (by assumption) (by assumption) (by k_memK) (by k_memK) e1 rfl (by kernel_rfl) ?_
    kd_subs
    refine z_appI (by assumption) (by k_memK) hv fun h₆ S₆ => ?_
    dsimp only [List.set] at S₆
    kd_subs
    exact z_back (by assumption) fun S₇ => q _ _ S₇
  kct_strs
theorem s_newProg {n : Nat} (S : SF b L h m nw) (G : GR (kk.heap_1 w.params) b) (M : Rm A (n + 2))
   (q : ∀ p dp ds ln de lg esP h' tk', SF b L h' m ((lg, listOf #[] 0) :: (de, dictOf [] 0) :: (ln, listOf #[] 0) :: (ds, dictOf [] 0) :: (p, instObj 796 dp) :: (dp, dictOf esP 4) :: nw) → getL "sections" esP = some (some (.ref ds)) → getL "names" esP = some (some (.ref ln)) → getL "equates" esP = some (some (.ref de)) → getL "section" esP = some none → (ds == sysModules) = false → (de == sysModules) = false → Q (.ref p) ⟨h', g, dr, tk', os⟩) :
   wpAny (model PySem.Challenge.pw_qd0112_01 w) A (call (.ref 796) []) Q E ⟨h, g, dr, tk, os⟩ := by
  refine wk ?_ ?_
  · refine z_make (fI := 751) S G M (by kernel_rfl) ?_
    intro p dp h₂ A₂ M₂ S₂
    refine enterI (ps := ["self"]) (rest := []) (vs := [.ref p]) ["self"] [] [] S₂ G M₂ (by k_is) (by k_is) (BindsTo.of_eq rfl) rfl rfl (by kernel_rfl) ?_
    intro A₃ env₃ L₃ gb h₃ tk₃ M₃ V₃ G₃ k₃ S₃
    kd_subs
    refine z_newdictS (by assumption) (SF.big (fa := 401) (by assumption) G₃ (by k_is) rfl) ?_
    intro ds h₈ S₈ hd1
    kd_subs
    kcf_m
    kd_subs
    kcf_m
    kd_subs
    refine z_newdictS (by assumption) (SF.big (fa := 401) (by assumption) G₃ (by k_is) rfl) ?_
    intro de h₉ S₉ hd2
    kd_subs
    kcf_m
    kd_subs
    kcf_m
    kd_subs
    refine z_back (by assumption) fun S₁₁ => ⟨rfl, ?_⟩
    exact q _ _ _ _ _ _ _ _ _ S₁₁ (by with_unfolding_all k_get) (by with_unfolding_all k_get) (by with_unfolding_all k_get) (by with_unfolding_all k_get) hd1 hd2
  kct_strs
/-- program.section(".text") on a new program -/
theorem s_section {n : Nat} {p dp ds ln : Addr} {esP : List DictEntry} {t₀ : Tok} (S : SF b L h m ((ln, listOf #[] 0) :: (ds, dictOf [] 0) :: (p, instObj 796 dp) :: (dp, dictOf esP 4) :: nw)) (G : GR (kk.heap_1 w.params) b) (M : Rm A (n + 3))
   (e1 : getL "sections" esP = some (some (.ref ds))) (e2 : getL "names" esP = some (some (.ref ln))) (hs : (ds == sysModules) = false)
   (q : ∀ sec dsec lp dl esS ods t₁ h' tk', SF b L h' m ((dl, dictOf [] 0) :: (lp, listOf #[] 0) :: (sec, instObj 733 dsec) :: (dsec, dictOf esS 3) :: (ln, listOf #[.str ".text" t₁] 1) :: (ds, ods) :: (p, instObj 796 dp) :: (dp, dictOf esP 4) :: nw) → getL "pieces" esS = some (some (.ref lp)) → getL "labels" esS = some (some (.ref dl)) → getL "mark" esS = some none → getL "add" esS = some none → (dl == sysModules) = false → DObj (strKind PySem.Challenge.pw_qd0112_01 w) ods [(".text", .ref sec)] → Q (.ref sec) ⟨h', g, dr, tk', os⟩) :
   wpAny (model PySem.Challenge.pw_qd0112_01 w) A (call (.ref 758) [.ref p, .str ".text" t₀]) Q E ⟨h, g, dr, tk, os⟩ := by
  refine wk ?_ ?_
  · refine wpAny_call (enterI (ps := ["self", "name"]) (rest := []) (vs := [.ref p, .str ".text" t₀]) ["self", "name"] [("Section", .ref 733)] [] S G M (by k_is) (by k_is) (BindsTo.of_eq rfl) rfl rfl (by kernel_rfl) ?_)
    intro A₄ env₄ L₄ gb₄ h₄ tk₄ M₄ V₄ G₄ k₄ S₄
    kd_subs
    refine z_atL (by assumption) (by assumption) (by k_memK) (by k_memK) e1 rfl (by kernel_rfl) ?_
    kd_subs
    refine z_notin (strKind_is _ _ _ _) hs (DObj.nil.at (by assumption) (by k_memK)) ?_
    kd_subs
    refine z_yes rfl ?_
    kd_subs
    refine z_make (fI := 688) S₄ G₄ M₄ (by kernel_rfl) ?_
    intro sec dsec h₅ A₅ M₅ S₅
    refine enterI (ps := ["self", "name"]) (rest := []) (vs := [.ref sec, .str ".text" t₀]) ["self", "name"] [] [] S₅ G₄ M₅ (by k_is) (by k_is) (BindsTo.of_eq rfl) rfl rfl (by kernel_rfl) ?_
    intro A₆ env₆ L₆ gb₆ h₆ tk₆ M₆ V₆ G₆ k₆ S₆
    kd_subs
    kcf_m
    kd_subs
    kcf_m
    kd_subs
    refine z_newdictS (by assumption) (SF.big (fa := 401) (by assumption) G₆ (by k_is) rfl) ?_
    intro dl h₇ S₇ hdl
    kd_subs
    kcf_m
    kd_subs
    refine z_back (by assumption) fun S₈ => ⟨rfl, ?_⟩
    kd_subs
    refine z_atL S₈ G₄ (by k_memK) (by k_memK) e1 rfl (by kernel_rfl) ?_
    kd_subs
    refine z_setkey S₈ (by k_memK) DObj.nil (strKind_is _ _ _ _) (by decide) ?_
    intro h₉ tk₉ ods S₉ hD
    dsimp only [List.set] at S₉
    kd_subs
    refine z_atL S₉ G₄ (by k_memK) (by k_memK) e2 rfl (by kernel_rfl) ?_
    kd_subs
    refine z_appI (vs := []) S₉ (by k_memK) (by decide) fun h₁₀ S₁₀ => ?_
    dsimp only [List.set, List.nil_append] at S₁₀
    kd_subs
    refine z_atL S₁₀ G₄ (by k_memK) (by k_memK) e1 rfl (by kernel_rfl) ?_
    kd_subs
    have hD' : DObj (strKind PySem.Challenge.pw_qd0112_01 w) ods [(".text", .ref sec)] := hD
    refine z_key (v := .ref sec) (strKind_is _ _ _ _) (hD'.at S₁₀ (by k_memK)) rfl (by with_unfolding_all rfl) ?_
    kd_subs
    refine z_back (by assumption) fun S₁₁ => ?_
    exact q _ _ _ _ _ _ _ _ _ S₁₁ (by with_unfolding_all k_get) (by with_unfolding_all k_get) (by with_unfolding_all k_get) (by with_unfolding_all k_get) hdl hD'
  kct_strs
end
noncomputable abbrev tupII (i : Nat) (t u : Tok) : Obj := ⟨.type "tuple", none, .seq #[.int (i : Nat) t, .int 0 u] 0, #[]⟩
noncomputable def RowsV (h : Heap) (vr : List Value) (rows : List Row) : Prop := vr.length = rows.length ∧ ∀ (i : Nat) (v : Value) (r : Row), vr[i]? = some v → rows[i]? = some r → RowV h v r
theorem RowsV.keeps {h h' : Heap} {vr : List Value} {rows : List Row} (x : RowsV h vr rows) (kp : ∀ a o, h.get? a = some o → h'.get? a = some o) : RowsV h' vr rows := ⟨x.1, fun i v r a c => (x.2 i v r a c).keeps kp⟩
theorem Lab_snoc : ∀ {Ts : List Addr} {k : Nat} {T : Addr}, LabKvs k (Ts ++ [T]) = LabKvs k Ts ++ [(lbl (k + Ts.length), .ref T)]
  | [], k, T => rfl
  | U :: r, k, T => by
    show (lbl k, Value.ref U) :: LabKvs (k + 1) (r ++ [T]) = _
    rw [Lab_snoc, show k + (U :: r).length = k + 1 + r.length by simp; omega]
    rfl
theorem Lab_len : ∀ {Ts : List Addr} {k : Nat}, (LabKvs k Ts).length = Ts.length
  | [], _ => rfl
  | _ :: r, k => by show (LabKvs (k + 1) r).length + 1 = _; rw [Lab_len]; rfl
theorem Lab_absent {i : Nat} (hi : i ≤ 8) : ∀ {Ts : List Addr} {k : Nat}, k + Ts.length ≤ i → valueAt (LabKvs k Ts) (lbl i) = none
  | [], _, _ => rfl
  | T :: r, k, h => by
    have hne : ¬ lbl k = lbl i := fun e => by have := lbl_inj (by simp at h; omega) hi e; simp at h; omega
    show valueAt ((lbl k, Value.ref T) :: LabKvs (k + 1) r) (lbl i) = none
    unfold valueAt
    rw [List.find?_cons_of_neg (by simpa using hne)]
    exact Lab_absent hi (by simp at h; omega)
section
variable {w : World} {A : Around} {E : Value → Shared → Prop} {h : Heap} {g : Array GenState} {dr : Drawn} {tk : Nat} {os : OsState} {Q : Value → Shared → Prop}
inductive LpI (w : World) (K : Frag) (rows : List Row) (lr p sec : Addr) (nwOf : List Value → Nat → Obj → List (Addr × Obj) → List (Addr × Obj)) (j : Nat) (f : Nat → Option Value) (nw : List (Addr × Obj)) : Prop
  | mk (vs : List Value) (c : Nat) (odl : Obj) (Ts : List Addr) (rest : List (Addr × Obj)) (en : nw = nwOf vs c odl rest) (f0 : f 0 = some (.ref lr)) (f1 : f 1 = some (.ref p)) (f2 : f 2 = some (.ref sec)) (hvl : vs.length = j) (hvs : ∀ (i : Nat) (v : Value) (r : Row), vs[i]? = some v → rows[i]? = some r → PO K rest v r)
    (hD : DObj (strKind PySem.Challenge.pw_qd0112_01 w) odl (LabKvs 0 Ts)) (hTl : Ts.length = j) (hTs : ∀ (i : Nat) (T : Addr), Ts[i]? = some T → ∃ t u, (T, (⟨.type "tuple", none, .seq #[.int (i : Nat) t, .int 0 u] 0, #[]⟩ : Obj)) ∈ rest) : LpI w K rows lr p sec nwOf j f nw
theorem s_lprogram {n : Nat} {rows : List Row} {lr : Addr} {vr : List Value} (G : GR (kk.heap_1 w.params) h) (M : Rm A (n + 5)) (hl : h.IsList lr vr.toArray) (RV : RowsV h vr rows) (RO : RowsOk rows)
   (q : ∀ p ds ln de sec lp dl vs Ts tx own h' tk', Own h h' own → (∀ H : Heap, (∀ x ∈ own, H.get? x.1 = some x.2) → Prog PySem.Challenge.pw_qd0112_01 w (kk.heap_1 w.params) H p rows ds ln de sec lp dl vs Ts tx) → Q (.ref p) ⟨h', g, dr, tk', os⟩) :
   wpAny (model PySem.Challenge.pw_qd0112_01 w) A (call (.ref 835) [.ref lr]) Q E ⟨h, g, dr, tk, os⟩ := by
  refine wk ?_ ?_
  · refine enter (ps := ["rows"]) (rest := ["program", "text", "at", "row"]) (vs := [.ref lr]) ["rows", "program", "text", "at", "row"] [("Program", .ref 796), ("Space", .ref 645), ("Branch", .ref 611), ("Instruction", .ref 547), ("Rel", .ref 494), ("Leb", .ref 672), ("Affine", .ref 192)] [("enumerate", .type "enumerate"), ("str", .type "str"), ("len", .builtin "len")] G M (by k_is) (by k_is) (BindsTo.of_eq rfl) rfl rfl (by kernel_rfl) ?_
    intro A' env L' h₁ tk' M' V S
    kd_subs
    refine s_newProg (n := n + 2) S G M' ?_
    intro p dp ds ln de lg esP h₂ tk₂ S₂ e1 e2 e3 e4 hds hde
    replace S₂ := S₂.perm (List.perm_append_comm_assoc [_, _] [_, _, _, _] [])
    dsimp only [List.cons_append, List.nil_append] at S₂
    kd_subs
    refine z_meth (G.keeps (SF.keep (by assumption))) (MethIs.of (f := 758) (by assumption) (by k_memK) (by k_memK) e4 (by kernel_rfl)) ?_ (by with_unfolding_all rfl) (by with_unfolding_all rfl)
    kd_subs
    refine s_section (n := n + 1) (by assumption) G M' e1 e2 hds ?_
    intro sec dsec lp dl esS ods t₁ h₃ tk₃ S₃ e5 e6 e7 e8 hdl hDs
    kd_subs
    have S₄ := ‹SF h L' _ _ _›
    refine z_forS ?_
    kd_subs
    have hvrl := RV.1
    have hr8 := RO.1
    refine z_enumLoop (i₀ := 3) (j₀ := 4) (vs := vr) (fun _ _ => False) (Er_none (Er := fun _ _ => False)) (LpI w (kk.heap_1 w.params) rows lr p sec (fun vs c odl rest => (dl, odl) :: (lp, listOf (List.toArray vs) c) :: (sec, instObj 733 dsec) :: (dsec, dictOf esS 3) :: (rest ++ [(ln, listOf #[.str ".text" t₁] 1), (ds, ods), (p, instObj 796 dp), (dp, dictOf esP 4), (lg, listOf #[] 0), (de, dictOf [] 0)])))
      [] M'.handled V S₄ (by k_memK) (by k_memK) (IsList.keeps' hl S₄.keep) (.inl (let ⟨o, ho, _⟩ := hl; ⟨o, ho⟩)) (fun _ _ _ _ _ hp => nomatch hp) ⟨[], 0, _, [], [], rfl, rfl, rfl, rfl, rfl, fun i v r hv => by simp at hv, DObj.nil, rfl, fun i T hT => by simp at hT⟩ ?_ ?_
    · rintro j t v h₅ tk₅ f nw own Tg hgo hv ⟨vs, c, odl, Ts, rest, rfl, f0, f1, f2, hvl, hvs, hD, hTl, hTs⟩ S₅
      have hj : j < rows.length := by rw [← hvrl]; exact (List.getElem?_eq_some_iff.mp hv).1
      obtain ⟨r, hri⟩ : ∃ r, rows[j]? = some r := ⟨_, List.getElem?_eq_getElem hj⟩
      have X := RV.2 j v r hv hri
      have hro := RO.2 r (List.mem_of_getElem? hri)
      have hll := Lab_len (Ts := Ts) (k := 0)
      dsimp only [List.cons_append, List.nil_append] at S₅
      kd_subs
      refine z_meth (G.keeps (SF.keep (by assumption))) (MethIs.of (f := 716) (by assumption) (by k_memK) (by k_memK) e7 (by kernel_rfl)) ?_ (by with_unfolding_all rfl) (by with_unfolding_all rfl)
      kd_subs
      refine z_strI (by omega) ?_
      kd_subs
      refine z_lbl (by omega) ?_
      kd_subs
      refine s_mark (n := n + 3) S₅ G M' e5 e6 hD (Lab_absent (by omega) (by omega)) (by omega) (by omega) ?_
      intro T tT uT h₆ tk₆ odl' S₆ hD'
      rw [hvl] at S₆
      kd_subs
      cases X with
      | @gap ra x t3 t4 hT =>
        refine z_tup (IsTup.keeps' hT (SF.keep (by assumption))) (by decide) (by decide) rfl (by with_unfolding_all rfl) ?_
        kd_subs
        refine z_yes (by with_unfolding_all rfl) ?_
        kd_subs
        refine z_meth (G.keeps (SF.keep (by assumption))) (MethIs.of (f := 709) (by assumption) (by k_memK) (by k_memK) e8 (by kernel_rfl)) ?_ (by with_unfolding_all rfl) (by with_unfolding_all rfl)
        kd_subs
        refine z_tup (IsTup.keeps' hT (SF.keep (by assumption))) (by decide) (by decide) rfl (by with_unfolding_all rfl) ?_
        kd_subs
        refine s_space (n := n + 1) (by assumption) G M' ?_
        intro a own₁ h₇ tk₇ S₇ hPO
        have S₈ := S₇.perm (List.perm_append_comm_assoc own₁ [_, _, _, _] _)
        dsimp only [List.cons_append, List.nil_append] at S₈
        kd_subs
        refine s_add (n := n + 3) S₈ G M' e5 (by omega) ?_
        intro h₉ tk₉ S₉
        kd_subs
        refine hgo _ _ (LoopEnd.turn (nw' := (dl, _) :: (lp, _) :: (sec, instObj 733 dsec) :: (dsec, dictOf esS 3) :: ((own₁ ++ (T, tupII j tT uT) :: rest) ++ [(ln, listOf #[.str ".text" t₁] 1), (ds, ods), (p, instObj 796 dp), (dp, dictOf esP 4), (lg, listOf #[] 0), (de, dictOf [] 0)])) S₉ (by simp) ⟨vs ++ [.ref a], c + 1, odl', Ts ++ [T], own₁ ++ (T, tupII j tT uT) :: rest, rfl, f0, f1, f2, by simp [hvl], ?_, ?_, by simp [hTl], ?_⟩)
        · intro i v' r' hv' hr'
          rcases Nat.lt_or_ge i vs.length with hlt | hge
          · rw [List.getElem?_append_left hlt] at hv'
            exact (hvs i v' r' hv' hr').mono (fun x hx => List.mem_append_right _ (.tail _ hx))
          · have hi : i = j := by
              have := (List.getElem?_eq_some_iff.mp hv').1
              rw [List.length_append, List.length_singleton] at this; omega
            subst hi
            rw [List.getElem?_append_right hge, hvl, Nat.sub_self] at hv'
            cases hv'
            rw [hri] at hr'
            cases hr'
            exact hPO.mono (List.subset_append_left _ _)
        · rw [Lab_snoc, hTl, Nat.zero_add]; exact hD'
        · intro i T' hT'
          rcases Nat.lt_or_ge i Ts.length with hlt | hge
          · rw [List.getElem?_append_left hlt] at hT'
            obtain ⟨a1, a2, a3⟩ := hTs i T' hT'
            exact ⟨a1, a2, List.mem_append_right _ (.tail _ a3)⟩
          · have hi : i = j := by
              have := (List.getElem?_eq_some_iff.mp hT').1
              rw [List.length_append, List.length_singleton] at this; omega
            subst hi
            rw [List.getElem?_append_right hge, hTl, Nat.sub_self] at hT'
            cases hT'
            exact ⟨tT, uT, List.mem_append_right _ (.head _)⟩
      | @jump ra jj tt cc t3 t4 t5 t6 hT =>
        have htt : tt ≤ 8 := by have := hro.1; omega
        refine z_tup (IsTup.keeps' hT (SF.keep (by assumption))) (by decide) (by decide) rfl (by with_unfolding_all rfl) ?_
        kd_subs
        refine z_no (by with_unfolding_all rfl) ?_
        kd_subs
        refine z_tup (IsTup.keeps' hT (SF.keep (by assumption))) (by decide) (by decide) rfl (by with_unfolding_all rfl) ?_
        kd_subs
        refine z_yes (by with_unfolding_all rfl) ?_
        kd_subs
        refine z_meth (G.keeps (SF.keep (by assumption))) (MethIs.of (f := 709) (by assumption) (by k_memK) (by k_memK) e8 (by kernel_rfl)) ?_ (by with_unfolding_all rfl) (by with_unfolding_all rfl)
        kd_subs
        refine z_tup (IsTup.keeps' hT (SF.keep (by assumption))) (by decide) (by decide) rfl (by with_unfolding_all rfl) ?_
        kd_subs
        refine z_tup (IsTup.keeps' hT (SF.keep (by assumption))) (by decide) (by decide) rfl (by with_unfolding_all rfl) ?_
        kd_subs
        refine z_tup (IsTup.keeps' hT (SF.keep (by assumption))) (by decide) (by decide) rfl (by with_unfolding_all rfl) ?_
        kd_subs
        refine z_strI (by omega) ?_
        kd_subs
        refine z_lbl (by omega) ?_
        kd_subs
        refine s_rel (n := n + 1) (by assumption) G M' ?_
        intro rr nf h₁₀ tk₁₀ S₁₀ hRe
        kd_subs
        refine s_instr (n := n + 1) (j := jj) (by assumption) G M' hRe ?_
        intro ii nf2 h₁₁ tk₁₁ S₁₁ hIn
        kd_subs
        refine s_branch (n := n + 1) S₁₁ G M' hIn ?_
        intro a own₁ h₇ tk₇ S₇ hPO
        have S₈ := S₇.perm (List.perm_append_comm_assoc own₁ [_, _, _, _] _)
        dsimp only [List.cons_append, List.nil_append] at S₈
        kd_subs
        refine s_add (n := n + 3) S₈ G M' e5 (by omega) ?_
        intro h₉ tk₉ S₉
        kd_subs
        refine hgo _ _ (LoopEnd.turn (nw' := (dl, _) :: (lp, _) :: (sec, instObj 733 dsec) :: (dsec, dictOf esS 3) :: ((own₁ ++ (T, tupII j tT uT) :: rest) ++ [(ln, listOf #[.str ".text" t₁] 1), (ds, ods), (p, instObj 796 dp), (dp, dictOf esP 4), (lg, listOf #[] 0), (de, dictOf [] 0)])) S₉ (by simp) ⟨vs ++ [.ref a], c + 1, odl', Ts ++ [T], own₁ ++ (T, tupII j tT uT) :: rest, rfl, f0, f1, f2, by simp [hvl], ?_, ?_, by simp [hTl], ?_⟩)
        · intro i v' r' hv' hr'
          rcases Nat.lt_or_ge i vs.length with hlt | hge
          · rw [List.getElem?_append_left hlt] at hv'
            exact (hvs i v' r' hv' hr').mono (fun x hx => List.mem_append_right _ (.tail _ hx))
          · have hi : i = j := by
              have := (List.getElem?_eq_some_iff.mp hv').1
              rw [List.length_append, List.length_singleton] at this; omega
            subst hi
            rw [List.getElem?_append_right hge, hvl, Nat.sub_self] at hv'
            cases hv'
            rw [hri] at hr'
            cases hr'
            exact hPO.mono (List.subset_append_left _ _)
        · rw [Lab_snoc, hTl, Nat.zero_add]; exact hD'
        · intro i T' hT'
          rcases Nat.lt_or_ge i Ts.length with hlt | hge
          · rw [List.getElem?_append_left hlt] at hT'
            obtain ⟨a1, a2, a3⟩ := hTs i T' hT'
            exact ⟨a1, a2, List.mem_append_right _ (.tail _ a3)⟩
          · have hi : i = j := by
              have := (List.getElem?_eq_some_iff.mp hT').1
              rw [List.length_append, List.length_singleton] at this; omega
            subst hi
            rw [List.getElem?_append_right hge, hTl, Nat.sub_self] at hT'
            cases hT'
            exact ⟨tT, uT, List.mem_append_right _ (.head _)⟩
      | @leb ra ss oo pp cc t3 t4 t5 t6 hT =>
        have h1 : oo ≤ 8 := by have := hro.1; omega
        have h2 : pp ≤ 8 := by have := hro.2.1; omega
        refine z_tup (IsTup.keeps' hT (SF.keep (by assumption))) (by decide) (by decide) rfl (by with_unfolding_all rfl) ?_
        kd_subs
        refine z_no (by with_unfolding_all rfl) ?_
        kd_subs
        refine z_tup (IsTup.keeps' hT (SF.keep (by assumption))) (by decide) (by decide) rfl (by with_unfolding_all rfl) ?_
        kd_subs
        refine z_no (by with_unfolding_all rfl) ?_
        kd_subs
        refine z_meth (G.keeps (SF.keep (by assumption))) (MethIs.of (f := 709) (by assumption) (by k_memK) (by k_memK) e8 (by kernel_rfl)) ?_ (by with_unfolding_all rfl) (by with_unfolding_all rfl)
        kd_subs
        refine z_tup (IsTup.keeps' hT (SF.keep (by assumption))) (by decide) (by decide) rfl (by with_unfolding_all rfl) ?_
        kd_subs
        refine z_tup (IsTup.keeps' hT (SF.keep (by assumption))) (by decide) (by decide) rfl (by with_unfolding_all rfl) ?_
        kd_subs
        refine z_strI (by omega) ?_
        kd_subs
        refine z_lbl (by omega) ?_
        kd_subs
        refine z_tup (IsTup.keeps' hT (SF.keep (by assumption))) (by decide) (by decide) rfl (by with_unfolding_all rfl) ?_
        kd_subs
        refine z_strI (by omega) ?_
        kd_subs
        refine z_lbl (by omega) ?_
        kd_subs
        refine s_affine (n := n + 1) (by assumption) G M' h1 h2 ?_
        intro ff nf h₁₀ tk₁₀ S₁₀ hAf
        kd_subs
        refine z_tup (IsTup.keeps' hT (SF.keep (by assumption))) (by decide) (by decide) rfl (by with_unfolding_all rfl) ?_
        kd_subs
        refine s_leb (n := n + 1) S₁₀ G M' hAf ?_
        intro a own₁ h₇ tk₇ S₇ hPO
        have S₈ := S₇.perm (List.perm_append_comm_assoc own₁ [_, _, _, _] _)
        dsimp only [List.cons_append, List.nil_append] at S₈
        kd_subs
        refine s_add (n := n + 3) S₈ G M' e5 (by omega) ?_
        intro h₉ tk₉ S₉
        kd_subs
        refine hgo _ _ (LoopEnd.turn (nw' := (dl, _) :: (lp, _) :: (sec, instObj 733 dsec) :: (dsec, dictOf esS 3) :: ((own₁ ++ (T, tupII j tT uT) :: rest) ++ [(ln, listOf #[.str ".text" t₁] 1), (ds, ods), (p, instObj 796 dp), (dp, dictOf esP 4), (lg, listOf #[] 0), (de, dictOf [] 0)])) S₉ (by simp) ⟨vs ++ [.ref a], c + 1, odl', Ts ++ [T], own₁ ++ (T, tupII j tT uT) :: rest, rfl, f0, f1, f2, by simp [hvl], ?_, ?_, by simp [hTl], ?_⟩)
        · intro i v' r' hv' hr'
          rcases Nat.lt_or_ge i vs.length with hlt | hge
          · rw [List.getElem?_append_left hlt] at hv'
            exact (hvs i v' r' hv' hr').mono (fun x hx => List.mem_append_right _ (.tail _ hx))
          · have hi : i = j := by
              have := (List.getElem?_eq_some_iff.mp hv').1
              rw [List.length_append, List.length_singleton] at this; omega
            subst hi
            rw [List.getElem?_append_right hge, hvl, Nat.sub_self] at hv'
            cases hv'
            rw [hri] at hr'
            cases hr'
            exact hPO.mono (List.subset_append_left _ _)
        · rw [Lab_snoc, hTl, Nat.zero_add]; exact hD'
        · intro i T' hT'
          rcases Nat.lt_or_ge i Ts.length with hlt | hge
          · rw [List.getElem?_append_left hlt] at hT'
            obtain ⟨a1, a2, a3⟩ := hTs i T' hT'
            exact ⟨a1, a2, List.mem_append_right _ (.tail _ a3)⟩
          · have hi : i = j := by
              have := (List.getElem?_eq_some_iff.mp hT').1
              rw [List.length_append, List.length_singleton] at this; omega
            subst hi
            rw [List.getElem?_append_right hge, hTl, Nat.sub_self] at hT'
            cases hT'
            exact ⟨tT, uT, List.mem_append_right _ (.head _)⟩
    · rintro h₅ tk₅ f nw ⟨vs, c, odl, Ts, rest, rfl, f0, f1, f2, hvl, hvs, hD, hTl, hTs⟩ S₅
      have hll := Lab_len (Ts := Ts) (k := 0)
      kd_subs
      refine z_meth (G.keeps (SF.keep (by assumption))) (MethIs.of (f := 716) (by assumption) (by k_memK) (by k_memK) e7 (by kernel_rfl)) ?_ (by with_unfolding_all rfl) (by with_unfolding_all rfl)
      kd_subs
      refine z_len (IsList.keeps' hl (SF.keep (by assumption))) (by omega) ?_
      kd_subs
      refine z_strI (by omega) ?_
      kd_subs
      refine z_lbl (by omega) ?_
      kd_subs
      refine s_mark (n := n + 3) S₅ G M' e5 e6 hD (Lab_absent (by omega) (by omega)) (by omega) (by omega) ?_
      intro T tT uT h₆ tk₆ odl' S₆ hD'
      rw [hvl] at S₆
      kd_subs
      refine q p ds ln de sec lp dl vs (Ts ++ [T]) t₁ _ _ _ S₆.toOwn fun H hp => ?_
      have at1 : ∀ {a : Addr} {o : Obj}, At (a, o) ((dl, odl') :: (lp, listOf (List.toArray vs) c) :: (sec, instObj 733 dsec) :: (dsec, dictOf esS 3) :: (T, tupII vr.length tT uT) :: []) → H.get? a = some o := fun {a o} x => hp (a, o) (List.mem_append_left (rest ++ [(ln, listOf #[.str ".text" t₁] 1), (ds, ods), (p, instObj 796 dp), (dp, dictOf esP 4), (lg, listOf #[] 0), (de, dictOf [] 0)]) x.mem)
      have at2 : ∀ {a : Addr} {o : Obj}, At (a, o) [(ln, listOf #[Value.str ".text" t₁] 1), (ds, ods), (p, instObj 796 dp), (dp, dictOf esP 4), (lg, listOf #[] 0), (de, dictOf [] 0)] → H.get? a = some o := fun {a o} x => hp (a, o) (.tail _ (.tail _ (.tail _ (.tail _ (.tail _ (List.mem_append_right _ x.mem))))))
      have at3 : ∀ x ∈ rest, H.get? x.1 = some x.2 := fun x hx => hp x (.tail _ (.tail _ (.tail _ (.tail _ (.tail _ (List.mem_append_left _ hx))))))
      refine ⟨⟨dp, esP, 4, at2 (by k_memK), at2 (by k_memK), e1, rfl, by kernel_rfl⟩, ⟨dp, esP, 4, at2 (by k_memK), at2 (by k_memK), e2, rfl, by kernel_rfl⟩, ⟨dp, esP, 4, at2 (by k_memK), at2 (by k_memK), e3, rfl, by kernel_rfl⟩,
        hDs H ds (at2 (by k_memK)), ⟨_, at2 (a := ln) (o := listOf #[.str ".text" t₁] 1) (by k_memK), rfl, _, rfl⟩, DObj.nil H de (at2 (by k_memK)), ⟨dsec, esS, 3, at1 (by k_memK), at1 (by k_memK), e5, rfl, by kernel_rfl⟩, ⟨dsec, esS, 3, at1 (by k_memK), at1 (by k_memK), e6, rfl, by kernel_rfl⟩,
        ⟨_, at1 (a := lp) (o := listOf (List.toArray vs) c) (by k_memK), rfl, _, rfl⟩, by omega, fun i v r hv hr => hvs i v r hv hr H at3, by rw [Lab_snoc, Nat.zero_add, hTl]; exact hD' H dl (at1 (by k_memK)), by simp; omega, fun i T' hT' => ?_, hde, hdl⟩
      rcases Nat.lt_or_ge i Ts.length with hlt | hge
      · rw [List.getElem?_append_left hlt] at hT'
        obtain ⟨a1, a2, a3⟩ := hTs i T' hT'
        exact ⟨a1, a2, _, at3 _ a3, rfl, _, rfl⟩
      · have hi : i = Ts.length := by
          have := (List.getElem?_eq_some_iff.mp hT').1
          rw [List.length_append, List.length_singleton] at this; omega
        subst hi
        rw [List.getElem?_append_right hge, Nat.sub_self] at hT'
        cases hT'
        rw [hTl]
        exact ⟨tT, uT, _, at1 (a := T) (o := tupII vr.length tT uT) (by k_memK), rfl, _, rfl⟩
  kct_strs
end
noncomputable def LB : Int := 10 ^ 30 + 57
theorem LB_pos : 0 < LB := by unfold LB; decide +kernel
theorem LB_lt : LB < 2 ^ 101 := by unfold LB; decide +kernel
section
variable {w : World} {A : Around} {E : Value → Shared → Prop} {h : Heap} {g : Array GenState} {dr : Drawn} {tk : Nat} {os : OsState} {Q : Value → Shared → Prop}
theorem s_lbase {n : Nat} (G : GR (kk.heap_1 w.params) h) (M : Rm A (n + 1))
   (q : ∀ h' t tk', (∀ b o, h.get? b = some o → h'.get? b = some o) → Q (.int LB t) ⟨h', g, dr, tk', os⟩) :
   wpAny (model PySem.Challenge.pw_qd0112_01 w) A (call (.ref 807) []) Q E ⟨h, g, dr, tk, os⟩ := by
  refine wk ?_ ?_
  · refine enter (ps := []) (rest := []) (vs := []) [] [] [] G M (by k_is) (by k_is) (BindsTo.of_eq rfl) rfl rfl (by kernel_rfl) ?_
    intro A' env L' h₁ tk' M' V S
    kd_subs
    refine z_pow (by decide) (by rw [show Builtin.Int.intBits 10 = 4 from by decide]; decide) ?_
    kd_subs
    exact q _ _ _ (SF.keep (by assumption))
  kct_strs
theorem pen_mul {st : Int} {j : Nat} (h0 : 0 ≤ st) (h1 : st < 2 ^ (101 * j)) (hj : j ≤ 40) : IntMulOk st LB := by
  refine wk ?_ ?_
  · unfold IntMulOk
    have hb : Builtin.Int.intBits st ≤ 4100 := by
      unfold Builtin.Int.intBits
      split
      · exact Nat.zero_le _
      · rename_i hne
        have hn : st.natAbs < 2 ^ (101 * j) := by
          have : (st.natAbs : Int) = st := Int.natAbs_of_nonneg h0
          have h2 : ((st.natAbs : Nat) : Int) < ((2 ^ (101 * j) : Nat) : Int) := by rw [this]; push_cast; exact h1
          exact Int.ofNat_lt.mp h2
        have hz : st.natAbs ≠ 0 := by simpa using hne
        have := (Nat.log2_lt hz).mpr hn
        omega
    have hc : Builtin.Int.intBits LB ≤ 4100 := by unfold LB; decide +kernel
    have : Builtin.Int.intTooBig (Builtin.Int.intBits st + Builtin.Int.intBits LB) = false := by
      unfold Builtin.Int.intTooBig
      refine decide_eq_false ?_
      rw [show bitsLine = 2 ^ 27 from rfl]
      omega
    rw [this, Bool.and_false]
    exact Bool.false_ne_true
  kct_strs
theorem pen_next {st x : Int} {j : Nat} (h0 : 0 ≤ st) (h1 : st < 2 ^ (101 * j)) : 0 ≤ st * LB + x % LB ∧ st * LB + x % LB < 2 ^ (101 * (j + 1)) := by
  refine wk ?_ ?_
  · have hp := LB_pos
    have hl := LB_lt
    have h2 := Int.emod_nonneg x (show LB ≠ 0 by omega)
    have h3 := Int.emod_lt_of_pos x hp
    refine ⟨by have := Int.mul_nonneg h0 (Int.le_of_lt hp); omega, ?_⟩
    have h4 : (st + 1) * LB ≤ 2 ^ (101 * j) * 2 ^ 101 := Int.mul_le_mul (by omega) (Int.le_of_lt hl) (Int.le_of_lt hp) (Int.le_of_lt (Int.pow_pos (by decide)))
    rw [← Int.pow_add] at h4
    rw [show 101 * (j + 1) = 101 * j + 101 by omega]
    have : (st + 1) * LB = st * LB + LB := by rw [Int.add_mul, Int.one_mul]
    omega
  kct_strs
theorem s_lpen {n : Nat} {l : Addr} {vs : List Value} {xs : List Int} (G : GR (kk.heap_1 w.params) h) (M : Rm A (n + 2)) (hl : h.IsList l vs.toArray) (hi : IntsAre vs xs) (hn : xs.length ≤ 63)
   (q : ∀ pn a b ta tb tc h' tk', Own h h' [(pn, listOf [Value.int a ta, .int b tb, .int 0 tc].toArray 0)] → 0 ≤ a → 0 ≤ b → Q (.ref pn) ⟨h', g, dr, tk', os⟩) :
   wpAny (model PySem.Challenge.pw_qd0112_01 w) A (call (.ref 814) [.ref l]) Q E ⟨h, g, dr, tk, os⟩ := by
  refine wk ?_ ?_
  · refine enter (ps := ["script"]) (rest := ["store", "cell"]) (vs := [.ref l]) ["script", "store", "cell"] [("_law_base", .ref 807)] [("int", .type "int"), ("len", .builtin "len")] G M (by k_is) (by k_is) (BindsTo.of_eq rfl) rfl rfl (by kernel_rfl) ?_
    intro A' env L' h₁ tk' M' V S
    have hvl := hi.length
    kd_subs
    have S₂ := ‹SF h L' _ _ _›
    refine z_forS ?_
    kd_subs
    have hz : vs.length ≤ 1000 := by omega
    refine z_slice (b := h) (L := L') (lo := none) (hi := some 40) (st := none) ?_ (by decide) hz (fun i => ⟨_, by with_unfolding_all rfl⟩)
    rw [evalPart_none, evalPart_some]
    refine wpAny_pure ?_
    kd_subs
    refine wpAny_pure ⟨.none, .int _ _, .none, _, _, _, _, rfl, S₂, IsList.keeps' hl S₂.keep, ?_⟩
    intro D h₃ S₃
    have hk := kmk_upto (y := 40) hi (by decide)
    generalize hP : slicePick vs.toArray none (some 40) none = P at S₃ hk
    obtain ⟨ys⟩ := P
    change IntsAre ys (xs.take 40) at hk
    have hyl := hk.length
    rw [List.length_take] at hyl
    refine z_slice (b := h) (L := L') (vs := ys) (lo := none) (hi := none) (st := some (-1)) ?_ (by decide) (by omega) (fun i => ⟨_, by with_unfolding_all rfl⟩)
    rw [evalPart_none, evalPart_some]
    refine wpAny_pure (wpAny_pure ?_)
    kd_subs
    refine ⟨.none, .none, .int _ _, _, _, _, _, rfl, S₃, SF.lst S₃ (by k_memK), ?_⟩
    intro D₂ h₄ S₄
    rw [krv_pick] at S₄
    have hk₂ := hk.reverse
    have hrz : ys.reverse.length ≤ 40 := by rw [List.length_reverse, hyl]; exact Nat.min_le_left _ _
    change SF h L' h₄ _ ((D₂, listOf ys.reverse.toArray 0) :: _) at S₄
    generalize ys.reverse = zs at S₄ hk₂ hrz
    generalize (xs.take 40).reverse = us at hk₂
    have hul := hk₂.length
    refine z_listLoop (i₀ := 2) (vs := zs) (fun _ _ => False) (Er_none (Er := fun _ _ => False)) (fun j f nw => ∃ st t, nw = [(D₂, listOf zs.toArray 0)] ∧ f 0 = some (.ref l) ∧ f 1 = some (.int st t) ∧ 0 ≤ st ∧ st < 2 ^ (101 * j)) [(D₂, listOf zs.toArray 0)] M'.handled V (S₄.sub (.cons_cons _ (List.nil_sublist _))) (by k_memK) (SF.lst S₄ (by k_memK)) (.inr (by simp)) (by rintro j f nw ⟨_, _, rfl, _⟩ p hp; exact hp) ⟨0, _, rfl, rfl, rfl, Int.le_refl _, by decide⟩ ?_ ?_
    · rintro j v h₅ tk₅ f nw own Tg hgo hv ⟨st, t, rfl, f0, f1, h0, h1⟩ S₅
      have hj := (List.getElem?_eq_some_iff.mp hv).1
      obtain ⟨x, hx⟩ : ∃ x, us[j]? = some x := ⟨_, List.getElem?_eq_getElem (by omega)⟩
      obtain ⟨tx, htx⟩ := Mine.IntsAre.get hk₂ hx
      rw [hv] at htx
      obtain rfl := Option.some.inj htx
      dsimp only [List.cons_append, List.nil_append] at S₅
      have hn := pen_next (x := x) h0 h1
      kd_subs
      refine s_lbase (n := n) (G.keeps (SF.keep (by assumption))) M' ?_
      intro h₆ t₆ tk₆ kp₆
      have S₆ := S₅.keeps kp₆
      kd_subs
      refine z_mul (pen_mul h0 h1 (by omega)) ?_
      kd_subs
      refine call_int_int ?_
      kd_subs
      refine s_lbase (n := n) (G.keeps S₆.keep) M' ?_
      intro h₇ t₇ tk₇ kp₇
      have S₇ := S₆.keeps kp₇
      kd_subs
      refine z_mod LB_pos ?_
      kd_subs
      have S₈ := ‹SF h L' _ _ _›
      exact hgo _ _ (LoopEnd.turn (nw' := [_]) S₈ (.refl _) ⟨_, _, rfl, f0, rfl, hn.1, hn.2⟩)
    · rintro h₅ tk₅ f nw ⟨st, t, rfl, f0, f1, h0, h1⟩ S₅
      kd_subs
      refine z_len (IsList.keeps' hl (SF.keep (by assumption))) (by omega) ?_
      kd_subs
      refine z_mod (by decide) ?_
      kd_subs
      have S₈ := ‹SF h L' _ _ _›
      exact q _ _ _ _ _ _ _ _ (S₈.sub (.cons_cons _ (List.nil_sublist _))).toOwn h0 (by have := Int.emod_nonneg (vs.length : Int) (show (1000 : Int) ≠ 0 by decide); omega)
  kct_strs
end
/-- the pen: three numbers, the last one at most k -/
noncomputable def PenIs (o : Obj) (k : Int) : Prop := ∃ a b c ta tb tc, LObj o [Value.int a ta, .int b tb, .int c tc].toArray ∧ 0 ≤ a ∧ 0 ≤ b ∧ 0 ≤ c ∧ c ≤ k
theorem AtI.toAt {α : Type} {a : α} {l : List α} {i : Nat} (x : AtI a l i) : At a l := by
  induction x with
  | head => exact .head
  | tail _ ih => exact .tail ih
theorem AtI.set {α : Type} {a b : α} {l : List α} {i : Nat} (x : AtI a l i) : AtI b (l.set i b) i := by
  induction x with
  | head => exact .head
  | tail _ ih => exact .tail ih
theorem PenIs.mono {o : Obj} {k k' : Int} (x : PenIs o k) (h : k ≤ k') : PenIs o k' := by
  obtain ⟨a, b, c, ta, tb, tc, D, h0, h1, h2, h3⟩ := x
  exact ⟨a, b, c, ta, tb, tc, D, h0, h1, h2, Int.le_trans h3 h⟩
section
variable {w : World} {A : Around} {E : Value → Shared → Prop} {b h : Heap} {L : Addr} {m : Str → Option Value} {nw : List (Addr × Obj)} {g : Array GenState} {dr : Drawn} {tk : Nat} {os : OsState} {Q : Value → Shared → Prop}
theorem s_take {n i : Nat} {pn : Addr} {o : Obj} {many k : Int} {t : Tok} (S : SF b L h m nw) (hi : AtI (pn, o) nw i) (G : GR (kk.heap_1 w.params) b) (M : Rm A (n + 1)) (P : PenIs o k) (hm : 0 < many) (hm2 : many < 1000) (hk : k < 1000)
   (q : ∀ r t h' tk' o', SF b L h' m (nw.set i (pn, o')) → PenIs o' (k + 1) → 0 ≤ r → r < many → Q (.int r t) ⟨h', g, dr, tk', os⟩) :
   wpAny (model PySem.Challenge.pw_qd0112_01 w) A (call (.ref 821) [.ref pn, .int many t]) Q E ⟨h, g, dr, tk, os⟩ := by
  refine wk ?_ ?_
  · obtain ⟨a, b₁, c, ta, tb, tc, D, h0, h1, h2, h3⟩ := P
    refine wpAny_call (enterI (ps := ["pen", "many"]) (rest := ["found"]) (vs := [.ref pn, .int many t]) ["pen", "many", "found"] [] [] S G M (by k_is) (by k_is) (BindsTo.of_eq rfl) rfl rfl (by kernel_rfl) ?_)
    intro A₄ env₄ L₄ gb₄ h₄ tk₄ M₄ V₄ G₄ k₄ S₄
    kd_subs
    refine z_item (D.at (by assumption) hi.toAt) (by decide) (by decide) rfl (by with_unfolding_all rfl) ?_
    kd_subs
    refine z_ite (fun e1 => ?_) (fun e1 => ?_)
    · rw [decide_eq_true_eq] at e1
      kd_subs
      refine z_item (D.at (by assumption) hi.toAt) (by decide) (by decide) rfl (by with_unfolding_all rfl) ?_
      kd_subs
      refine z_mod hm ?_
      kd_subs
      refine z_item (D.at (by assumption) hi.toAt) (by decide) (by decide) rfl (by with_unfolding_all rfl) ?_
      kd_subs
      refine z_fdiv hm (by omega) ?_
      kd_subs
      have S₅ := ‹SF gb₄ L₄ _ _ _›
      refine z_setL S₅ hi D (by decide) (by show (0 : Int) < 3; decide) (Nat.le_of_ble_eq_true rfl) ?_
      intro h₆ o' S₆ D'
      kd_subs
      refine z_back (by assumption) fun S₇ => ?_
      exact q _ _ _ _ _ S₇ ⟨_, _, _, _, _, _, D', Int.ediv_nonneg h0 (by omega), h1, h2, by omega⟩ (Int.emod_nonneg _ (by omega)) (Int.emod_lt_of_pos _ hm)
    · kd_subs
      refine z_item (D.at (by assumption) hi.toAt) (by decide) (by decide) rfl (by with_unfolding_all rfl) ?_
      kd_subs
      have S₅ := ‹SF gb₄ L₄ _ _ _›
      refine z_setL S₅ hi D (by decide) (by show (2 : Int) < 3; decide) (Nat.le_of_ble_eq_true rfl) ?_
      intro h₆ o' S₆ D'
      change LObj o' [Value.int a ta, .int b₁ tb, .int (c + 1) _].toArray at D'
      kd_subs
      refine z_item (D'.at (by assumption) hi.set.toAt) (by decide) (by decide) rfl (by with_unfolding_all rfl) ?_
      kd_subs
      refine z_mul (IntMulOk.of_right (by decide)) ?_
      kd_subs
      refine z_item (D'.at (by assumption) hi.set.toAt) (by decide) (by decide) rfl (by with_unfolding_all rfl) ?_
      kd_subs
      refine z_item (D'.at (by assumption) hi.set.toAt) (by decide) (by decide) rfl (by with_unfolding_all rfl) ?_
      kd_subs
      refine z_mul (IntMulOk.of_left (PySem.intBits_le_64 (by omega) (by omega))) ?_
      kd_subs
      refine z_mod (by decide) ?_
      kd_subs
      have S₇ := ‹SF gb₄ L₄ _ _ _›
      refine z_setL S₇ hi.set D' (by decide) (by show (1 : Int) < 3; decide) (Nat.le_of_ble_eq_true rfl) ?_
      intro h₈ o₂ S₈ D₂
      rw [List.set_set] at S₈
      change LObj o₂ [Value.int a ta, .int _ _, .int (c + 1) _].toArray at D₂
      kd_subs
      refine z_item (D₂.at (by assumption) hi.set.toAt) (by decide) (by decide) rfl (by with_unfolding_all rfl) ?_
      kd_subs
      refine z_fdiv (by decide) (by decide) ?_
      kd_subs
      refine z_mod hm ?_
      kd_subs
      refine z_back (by assumption) fun S₉ => ?_
      exact q _ _ _ _ _ S₉ ⟨_, _, _, _, _, _, D₂, h0, Int.emod_nonneg _ (by decide), by omega, by omega⟩ (Int.emod_nonneg _ (by omega)) (Int.emod_lt_of_pos _ hm)
  kct_strs
end
section
variable {w : World} {A : Around} {E : Value → Shared → Prop} {h : Heap} {g : Array GenState} {dr : Drawn} {tk : Nat} {os : OsState} {Q : Value → Shared → Prop}
/-- objects that make a row -/
noncomputable def RwO (own : List (Addr × Obj)) (v : Value) (r : Row) : Prop := ∀ H : Heap, (∀ p ∈ own, H.get? p.1 = some p.2) → RowV H v r
theorem RwO.mono {own own' : List (Addr × Obj)} {v : Value} {r : Row} (x : RwO own v r) (h : own ⊆ own') : RwO own' v r := fun H hp => x H fun p hq => hp p (h hq)
noncomputable def nums : List Int := [0, 1, -3, 60, -60, 130, -130, 9]
noncomputable def gaps : List Int := [0, 60, 119, 200, 126, 128, 3, 9000]
theorem nums_ok : ∀ x ∈ nums, -130 ≤ x ∧ x ≤ 130 := by decide
theorem gaps_ok : ∀ x ∈ gaps, 0 ≤ x ∧ x ≤ 9000 := by decide
theorem z_ifC {env : Env} {test : Expr} {body orelse rest : List Stmt} {pos : Pos} {Q : Flow → Shared → Prop} (c : Bool) (ht : ∀ (Q' : Bool → Shared → Prop), (∀ tk', Q' c ⟨h, g, dr, tk', os⟩) → wpAny (model PySem.Challenge.pw_qd0112_01 w) A (PySem.isTrue test env (eval test env)) Q' E ⟨h, g, dr, tk, os⟩)
   (yes : c = true → ∀ tk, wpAny (model PySem.Challenge.pw_qd0112_01 w) A (execs body env) (seqK (model PySem.Challenge.pw_qd0112_01 w) A rest env Q E) E ⟨h, g, dr, tk, os⟩) (no : c = false → ∀ tk, wpAny (model PySem.Challenge.pw_qd0112_01 w) A (execs orelse env) (seqK (model PySem.Challenge.pw_qd0112_01 w) A rest env Q E) E ⟨h, g, dr, tk, os⟩) :
   wpAny (model PySem.Challenge.pw_qd0112_01 w) A (execs (.If test body orelse pos :: rest) env) Q E ⟨h, g, dr, tk, os⟩ := by
  refine z_if (ht _ fun tk' => ?_)
  cases c with
  | true => rw [if_pos rfl]; exact yes rfl _
  | false => rw [if_neg Bool.false_ne_true]; exact no rfl _
theorem pick8 {vs : List Value} {l : List Int} {lo hi r : Int} (hI : IntsAre vs l) (hok : ∀ x ∈ l, lo ≤ x ∧ x ≤ hi) (h0 : 0 ≤ r) (h1 : r < l.length) : ∃ x tx, vs[r.toNat]? = some (.int x tx) ∧ lo ≤ x ∧ x ≤ hi := by
  have hlt : r.toNat < l.length := by omega
  obtain ⟨t, ht⟩ := Mine.IntsAre.get hI (List.getElem?_eq_getElem hlt)
  exact ⟨_, t, ht, hok _ (List.getElem_mem hlt)⟩
theorem z_pick {value slice : Expr} {a : Addr} {u : Tok} {vs : List Value} {l : List Int} {lo hi r : Int} (hl : h.IsList a vs.toArray) (hI : IntsAre vs l) (hok : ∀ x ∈ l, lo ≤ x ∧ x ≤ hi) (h0 : 0 ≤ r) (h1 : r < l.length) (hz : l.length ≤ 1000) (hs : SubOk slice (.ref a) (.int r u))
   (q : ∀ x tx, lo ≤ x → x ≤ hi → Q (.int x tx) ⟨h, g, dr, tk, os⟩) : wpAny (model PySem.Challenge.pw_qd0112_01 w) A (subscriptTail value slice (.ref a) (.int r u)) Q E ⟨h, g, dr, tk, os⟩ := by
  obtain ⟨x, tx, hx, h2, h3⟩ := pick8 hI hok h0 h1
  exact z_item hl h0 (by omega) hx hs (q x tx h2 h3)
theorem z_pickJ {value slice : Expr} {a : Addr} {u t1 t2 : Tok} {r : Int} (hl : h.IsList a [Value.str "jmp" t1, Value.str "jne" t2].toArray) (h0 : 0 ≤ r) (h1 : r < 2) (hs : SubOk slice (.ref a) (.int r u))
   (q : ∀ (jj : Bool) tj, Q (.str (if jj then "jmp" else "jne") tj) ⟨h, g, dr, tk, os⟩) : wpAny (model PySem.Challenge.pw_qd0112_01 w) A (subscriptTail value slice (.ref a) (.int r u)) Q E ⟨h, g, dr, tk, os⟩ := by
  have : r = 0 ∨ r = 1 := by omega
  rcases this with rfl | rfl
  · exact z_item hl (by decide) (by decide) rfl hs (q true t1)
  · exact z_item hl (by decide) (by decide) rfl hs (q false t2)
inductive LrI (pn lr : Addr) (nw : List (Addr × Obj)) (mN : Nat) (j : Nat) (f : Nat → Option Value) (nw' : List (Addr × Obj)) : Prop
  | mk (o' : Obj) (vr : List Value) (c : Nat) (rows : List Row) (rest : List (Addr × Obj)) (left : Int) (tl : Tok) (en : nw' = (pn, o') :: (lr, listOf (List.toArray vr) c) :: (rest ++ nw)) (f0 : f 0 = some (.ref pn)) (f1 : ∃ t, f 1 = some (.int (mN : Nat) t)) (f2 : f 2 = some (.ref lr)) (f3 : f 3 = some (.int left tl)) (PP : PenIs o' (1 + 5 * (j : Nat))) (hrl : rows.length = j) (hvl : vr.length = rows.length) (hro : ∀ r ∈ rows, RowOk mN r)
    (hrw : ∀ (i : Nat) (v : Value) (r : Row), vr[i]? = some v → rows[i]? = some r → RwO rest v r) : LrI pn lr nw mN j f nw'
theorem s_lrows {n : Nat} {pn : Addr} {o : Obj} {hb : Heap} {L : Addr} {m : Str → Option Value} {nw : List (Addr × Obj)} (S : SF hb L h m ((pn, o) :: nw)) (G : GR (kk.heap_1 w.params) hb) (M : Rm A (n + 2)) (P : PenIs o 0)
   (q : ∀ lr vr c rows own h' tk', SF hb L h' m ((lr, listOf (List.toArray vr) c) :: (own ++ nw)) → RowsOk rows → vr.length = rows.length → (∀ (i : Nat) (v : Value) (r : Row), vr[i]? = some v → rows[i]? = some r → RwO own v r) → Q (.ref lr) ⟨h', g, dr, tk', os⟩) :
   wpAny (model PySem.Challenge.pw_qd0112_01 w) A (call (.ref 828) [.ref pn]) Q E ⟨h, g, dr, tk, os⟩ := by
  refine wk ?_ ?_
  · refine wpAny_call (enterI (ps := ["pen"]) (rest := ["many", "rows", "left", "at", "kind", "number"]) (vs := [.ref pn]) ["pen", "many", "rows", "left", "at", "kind", "number"] [("_law_take", .ref 821)] [("range", .type "range")] S G M (by k_is) (by k_is) (BindsTo.of_eq rfl) rfl rfl (by kernel_rfl) ?_)
    intro A' env L' gb h₁ tk₁ M' V G' kp S₁
    kd_subs
    refine s_take (n := n) (k := 0) S₁ .head G' M' P (by decide) (by decide) (by decide) ?_
    intro r0 t0 h₂ tk₂ o₂ S₂ P₂ hr1 hr2
    dsimp only [List.set] at S₂
    kd_subs
    rename_i lr _ _ _ _ t4 _ _ _ _ _ _ _ _ S₃₀
    obtain ⟨mN, hmN⟩ : ∃ mN : Nat, (3 : Int) + r0 = (mN : Int) := ⟨(3 + r0).toNat, by omega⟩
    have hm8 : 3 ≤ mN ∧ mN ≤ 8 := by omega
    have S₃ := ‹SF gb L' _ _ _›
    refine z_forS ?_
    kd_subs
    rw [hmN]
    refine z_rangeLoop (i₀ := 4) (fun _ _ => False) (Er_none (Er := fun _ _ => False)) (LrI pn lr nw mN) M'.handled V ((S₃.sub (.cons _ (.refl _))).perm (.swap _ _ _)) (by k_memK) (by omega) ⟨_, [], 0, [], [], 4, _, rfl, rfl, ⟨_, by show some (Value.int (3 + r0) _) = _; rw [hmN]⟩, rfl, rfl, P₂.mono (by simp), rfl, rfl, (fun r hr => by simp at hr), (fun i v r hv => by simp at hv)⟩ ?_ ?_
    · rintro j t5 h₅ tk₅ f nwj own Tg hgo hj ⟨o', vr, c, rows, rest, left, tl, rfl, f0, ⟨tm, f1⟩, f2, f3, PP, hrl, hvl, hro, hrw⟩ S₅
      dsimp only [List.cons_append, List.nil_append] at S₅
      kd_subs
      refine s_take (n := n) (by assumption) .head G' M' PP (by decide) (by decide) (by omega) ?_
      intro r11 t11 h11 tk11 o11 S11 P11 hl11 hu11
      dsimp only [List.set] at S11
      kd_subs
      refine s_take (n := n) (by assumption) (.tail .head) G' M' P11 (by decide) (by decide) (by omega) ?_
      intro r12 t12 h12 tk12 o12 S12 P12 hl12 hu12
      dsimp only [List.set] at S12
      kd_subs
      refine z_pick (lo := -130) (hi := 130) (l := nums) (SF.lst (by assumption) (by k_memK)) (by repeat constructor) nums_ok hl12 hu12 (Nat.le_of_ble_eq_true rfl) (by with_unfolding_all rfl) ?_
      intro x tx hx1 hx2
      refine z_store V (by assumption) (by k_memK) ?_
      intro h₇ tk₇ S₇
      refine z_ifC (decide (r11 < 2 ∧ 0 < left)) (fun Q' hq => ?_) (fun e1 tk₈ => ?_) (fun e1 tk₈ => ?_)
      · kd_subs
        refine z_ite (fun e2 => ?_) (fun e2 => ?_)
        · rw [decide_eq_true_eq] at e2
          simp only [e2, true_and] at hq
          kd_subs
          refine z_ite (fun e3 => ?_) (fun e3 => ?_)
          · rw [e3] at hq
            kd_subs
            exact hq _
          · rw [e3] at hq
            exact hq _
        · rw [decide_eq_false_iff_not] at e2
          simp only [e2, false_and, decide_false] at hq
          kd_subs
          exact hq _
      · kd_subs
        refine s_take (n := n) (by assumption) (.tail (.tail .head)) G' M' P12 (by decide) (by decide) (by omega) ?_
        intro r13 t13 h13 tk13 o13 S13 P13 hl13 hu13
        dsimp only [List.set] at S13
        kd_subs
        refine z_pickJ (SF.lst (by assumption) (by k_memK)) hl13 hu13 (by with_unfolding_all rfl) ?_
        intro jj tj
        kd_subs
        refine s_take (n := n) (by assumption) (.tail (.tail .head)) G' M' P13 (by omega) (by omega) (by omega) ?_
        intro r14 t14 h14 tk14 o14 S14 P14 hl14 hu14
        dsimp only [List.set] at S14
        kd_subs
        obtain ⟨tt, htt⟩ : ∃ tt : Nat, r14 = (tt : Int) := ⟨r14.toNat, by omega⟩
        subst htt
        refine z_appI (by assumption) (by k_memK) (by omega) fun h₆ S₆ => ?_
        dsimp only [List.set] at S₆
        kd_subs
        have S₈ := ‹SF gb L' _ _ _›
        have S₉ := SF.sub (nw' := _ :: (pn, _) :: (lr, _) :: (rest ++ nw ++ own)) S₈ (.cons_cons _ (.cons _ (.cons _ (.refl _))))
        replace S₉ := S₉.perm (List.perm_middle (l₁ := [_, _])).symm
        refine hgo _ _ (LoopEnd.turn (nw' := (pn, _) :: (lr, _) :: ((_ :: rest) ++ nw)) S₉ (.refl _) ⟨_, _, _, rows ++ [.jump jj tt x], _ :: rest, _, _, rfl, f0, ⟨tm, f1⟩, f2, rfl, P14.mono (by push_cast; omega), by simp [hrl], by simp [hvl], fun r hr => ?_, fun i v r hv hr => ?_⟩)
        · rcases List.mem_append.mp hr with hr | hr
          · exact hro r hr
          · rw [List.mem_singleton.mp hr]
            exact ⟨by omega, hx1, hx2⟩
        · rcases Nat.lt_or_ge i vr.length with hlt | hge
          · rw [List.getElem?_append_left hlt] at hv
            rw [List.getElem?_append_left (by omega)] at hr
            exact (hrw i v r hv hr).mono (fun x hx => .tail _ hx)
          · have hi : i = vr.length := by
              have := (List.getElem?_eq_some_iff.mp hv).1
              rw [List.length_append, List.length_singleton] at this; omega
            subst hi
            rw [List.getElem?_append_right hge, Nat.sub_self] at hv
            rw [List.getElem?_append_right (by omega), show vr.length - rows.length = 0 by omega] at hr
            cases hv
            cases hr
            exact fun H hp => .jump ⟨_, hp _ (.head _), rfl, _, rfl⟩
      · refine z_ifC (decide (r11 = 2 ∧ 0 < left)) (fun Q' hq => ?_) (fun e2 tk₉ => ?_) (fun e2 tk₉ => ?_)
        · kd_subs
          refine z_ite (fun e2 => ?_) (fun e2 => ?_)
          · have e2' : r11 = 2 := by simpa using e2
            simp only [e2', true_and] at hq
            kd_subs
            refine z_ite (fun e3 => ?_) (fun e3 => ?_)
            · rw [e3] at hq
              kd_subs
              exact hq _
            · rw [e3] at hq
              exact hq _
          · have e2' : r11 ≠ 2 := by simpa using e2
            simp only [e2', false_and, decide_false] at hq
            kd_subs
            exact hq _
        · kd_subs
          refine s_take (n := n) (by assumption) (.tail .head) G' M' P12 (by decide) (by decide) (by omega) ?_
          intro r15 t15 h15 tk15 o15 S15 P15 hl15 hu15
          dsimp only [List.set] at S15
          kd_subs
          refine s_take (n := n) (by assumption) (.tail .head) G' M' P15 (by omega) (by omega) (by omega) ?_
          intro r16 t16 h16 tk16 o16 S16 P16 hl16 hu16
          dsimp only [List.set] at S16
          kd_subs
          refine s_take (n := n) (by assumption) (.tail .head) G' M' P16 (by omega) (by omega) (by omega) ?_
          intro r17 t17 h17 tk17 o17 S17 P17 hl17 hu17
          dsimp only [List.set] at S17
          kd_subs
          obtain ⟨oo, hoo⟩ : ∃ oo : Nat, r16 = (oo : Int) := ⟨r16.toNat, by omega⟩
          subst hoo
          obtain ⟨pp, hpp⟩ : ∃ pp : Nat, r17 = (pp : Int) := ⟨r17.toNat, by omega⟩
          subst hpp
          refine z_appI (by assumption) (by k_memK) (by omega) fun h₆ S₆ => ?_
          dsimp only [List.set] at S₆
          kd_subs
          have S₈ := ‹SF gb L' _ _ _›
          have S₉ := SF.sub (nw' := _ :: (pn, _) :: (lr, _) :: (rest ++ nw ++ own)) S₈ (.cons_cons _ (.cons _ (.refl _)))
          replace S₉ := S₉.perm (List.perm_middle (l₁ := [_, _])).symm
          refine hgo _ _ (LoopEnd.turn (nw' := (pn, _) :: (lr, _) :: ((_ :: rest) ++ nw)) S₉ (.refl _) ⟨_, _, _, rows ++ [.leb (decide (r15 = 0)) oo pp x], _ :: rest, _, _, rfl, f0, ⟨tm, f1⟩, f2, rfl, P17.mono (by push_cast; omega), by simp [hrl], by simp [hvl], fun r hr => ?_, fun i v r hv hr => ?_⟩)
          · rcases List.mem_append.mp hr with hr | hr
            · exact hro r hr
            · rw [List.mem_singleton.mp hr]
              exact ⟨by omega, by omega, hx1, hx2⟩
          · rcases Nat.lt_or_ge i vr.length with hlt | hge
            · rw [List.getElem?_append_left hlt] at hv
              rw [List.getElem?_append_left (by omega)] at hr
              exact (hrw i v r hv hr).mono (fun x hx => .tail _ hx)
            · have hi : i = vr.length := by
                have := (List.getElem?_eq_some_iff.mp hv).1
                rw [List.length_append, List.length_singleton] at this; omega
              subst hi
              rw [List.getElem?_append_right hge, Nat.sub_self] at hv
              rw [List.getElem?_append_right (by omega), show vr.length - rows.length = 0 by omega] at hr
              cases hv
              cases hr
              exact fun H hp => .leb ⟨_, hp _ (.head _), rfl, _, rfl⟩
        · kd_subs
          refine s_take (n := n) (by assumption) (.tail (.tail .head)) G' M' P12 (by decide) (by decide) (by omega) ?_
          intro r18 t18 h18 tk18 o18 S18 P18 hl18 hu18
          dsimp only [List.set] at S18
          kd_subs
          refine z_pick (lo := 0) (hi := 9000) (l := gaps) (SF.lst (by assumption) (by k_memK)) (by repeat constructor) gaps_ok hl18 hu18 (Nat.le_of_ble_eq_true rfl) (by with_unfolding_all rfl) ?_
          intro y ty hy1 hy2
          kd_subs
          refine z_appI (by assumption) (by k_memK) (by omega) fun h₆ S₆ => ?_
          dsimp only [List.set] at S₆
          kd_subs
          have S₈ := ‹SF gb L' _ _ _›
          have S₉ := SF.sub (nw' := _ :: (pn, _) :: (lr, _) :: (rest ++ nw ++ own)) S₈ (.cons_cons _ (.cons _ (.cons _ (.refl _))))
          replace S₉ := S₉.perm (List.perm_middle (l₁ := [_, _])).symm
          refine hgo _ _ (LoopEnd.turn (nw' := (pn, _) :: (lr, _) :: ((_ :: rest) ++ nw)) S₉ (.refl _) ⟨_, _, _, rows ++ [.gap y], _ :: rest, _, _, rfl, f0, ⟨tm, f1⟩, f2, f3, P18.mono (by push_cast; omega), by simp [hrl], by simp [hvl], fun r hr => ?_, fun i v r hv hr => ?_⟩)
          · rcases List.mem_append.mp hr with hr | hr
            · exact hro r hr
            · rw [List.mem_singleton.mp hr]
              exact ⟨hy1, hy2⟩
          · rcases Nat.lt_or_ge i vr.length with hlt | hge
            · rw [List.getElem?_append_left hlt] at hv
              rw [List.getElem?_append_left (by omega)] at hr
              exact (hrw i v r hv hr).mono (fun x hx => .tail _ hx)
            · have hi : i = vr.length := by
                have := (List.getElem?_eq_some_iff.mp hv).1
                rw [List.length_append, List.length_singleton] at this; omega
              subst hi
              rw [List.getElem?_append_right hge, Nat.sub_self] at hv
              rw [List.getElem?_append_right (by omega), show vr.length - rows.length = 0 by omega] at hr
              cases hv
              cases hr
              exact fun H hp => .gap ⟨_, hp _ (.head _), rfl, _, rfl⟩
    · rintro h₅ tk₅ f nwj ⟨o', vr, c, rows, rest, left, tl, rfl, f0, ⟨tm, f1⟩, f2, f3, PP, hrl, hvl, hro, hrw⟩ S₅
      kd_subs
      refine z_back (by assumption) fun S₆ => ?_
      refine q lr vr c rows rest _ _ (S₆.sub (.cons _ (.refl _))) ⟨by omega, fun r hr => by rw [hrl]; exact hro r hr⟩ hvl hrw
  kct_strs
end
noncomputable def DueI (nw : List (Addr × Obj)) (ys : List Value) (l : List (Nat × Int)) : Prop := ∃ xs, PX xs l ∧ ys.length = xs.length ∧ (∀ (j : Nat) (v : Value) (x : List (Str ⊕ Int) × Addr × Value), ys[j]? = some v → xs[j]? = some x → ∃ T, v = .ref T ∧ (T, (⟨.type "tuple", none, .seq #[.ref x.2.1, x.2.2] 0, #[]⟩ : Obj)) ∈ nw) ∧ (∀ x ∈ xs, ∃ i t u, x.1 = pk i ∧ (x.2.1, pkO i t u) ∈ nw)
theorem DueI.nil : DueI [] [] [] := ⟨[], .nil, rfl, fun j v x h => by simp at h, fun x h => by simp at h⟩
theorem DueI.snoc {nw : List (Addr × Obj)} {ys : List Value} {l : List (Nat × Int)} {i : Nat} {x : Int} {T Kk : Addr} {t u v : Tok} (D : DueI nw ys l) :
    DueI ((T, (⟨.type "tuple", none, .seq #[.ref Kk, .int x t] 0, #[]⟩ : Obj)) :: (Kk, pkO i u v) :: nw) (ys ++ [.ref T]) (l ++ [(i, x)]) := by
  refine wk ?_ ?_
  · obtain ⟨xs, P, hl, h1, h2⟩ := D
    refine ⟨xs ++ [(pk i, Kk, .int x t)], P.snoc, by simp [hl], fun j a b ha hb => ?_, fun y hy => ?_⟩
    · rcases Nat.lt_or_ge j ys.length with hlt | hge
      · rw [List.getElem?_append_left hlt] at ha
        rw [List.getElem?_append_left (by omega)] at hb
        obtain ⟨T', e, hm⟩ := h1 j a b ha hb
        exact ⟨T', e, .tail _ (.tail _ hm)⟩
      · have hj : j = ys.length := by
          have := (List.getElem?_eq_some_iff.mp ha).1
          rw [List.length_append, List.length_singleton] at this; omega
        subst hj
        rw [List.getElem?_append_right hge, Nat.sub_self] at ha
        rw [List.getElem?_append_right (by omega), show ys.length - xs.length = 0 by omega] at hb
        cases ha
        cases hb
        exact ⟨T, rfl, .head _⟩
    · rcases List.mem_append.mp hy with hy | hy
      · obtain ⟨a, b, c, e, hm⟩ := h2 y hy
        exact ⟨a, b, c, e, .tail _ (.tail _ hm)⟩
      · rw [List.mem_singleton.mp hy]
        exact ⟨i, u, v, rfl, .tail _ (.head _)⟩
  kct_strs
theorem PX.nd {xs : List (List (Str ⊕ Int) × Addr × Value)} {l : List (Nat × Int)} (P : PX xs l) (hn : (l.map (·.1)).Nodup) : (xs.map (·.1)).Nodup := by
  rw [P.keys]
  exact List.Pairwise.map _ (fun a b h e => h (pk_inj e)) hn
theorem PX.both {xs ys : List (List (Str ⊕ Int) × Addr × Value)} {l : List (Nat × Int)} (P : PX xs l) : PX ys l → ∀ x ∈ xs, ∃ T n t u, (x.1, T, Value.int n t) ∈ ys ∧ x.2.2 = .int n u := by
  refine wk ?_ ?_
  · induction P generalizing ys with
    | nil => intro _ x hx; cases hx
    | cons i n T t P ih =>
      intro P' x hx
      cases P' with
      | cons _ _ T' t' P' =>
      rcases List.mem_cons.mp hx with rfl | hx
      · exact ⟨T', n, t', t, .head _, rfl⟩
      · obtain ⟨a, b, c, d, h1, h2⟩ := ih P' x hx
        exact ⟨a, b, c, d, .tail _ h1, h2⟩
  kct_strs
theorem DueI.pairs {prog : Program} {w : World} {nw : List (Addr × Obj)} {ys : List Value} {l : List (Nat × Int)} {H : Heap} (D : DueI nw ys l) (hp : ∀ p ∈ nw, H.get? p.1 = some p.2) :
    ∃ xs, PX xs l ∧ PairsAt prog w H ys xs ∧ (∀ x ∈ xs, ∃ i t u, x.1 = pk i ∧ (x.2.1, pkO i t u) ∈ nw) := by
  obtain ⟨xs, P, hl, h1, h2⟩ := D
  refine ⟨xs, P, ⟨hl, fun j v x hv hx => ?_⟩, h2⟩
  obtain ⟨T, e, hT⟩ := h1 j v x hv hx
  obtain ⟨i, t, u, e1, hk⟩ := h2 x (List.mem_of_getElem? hx)
  exact ⟨T, e, ⟨_, hp _ hT, rfl, _, rfl⟩, by rw [e1]; exact pk_is (hp _ hk)⟩
theorem eq_int {A : Around} {s : Shared} {n : Int} {t u : Tok} : SeqAt.EqAt A s (.int n t) (.int n u) true := by
  have := SeqAt.EqAt.int_int (A := A) (s := s) n t n u
  rwa [beq_self_eq_true] at this
theorem sw_cell {env : Env} {x y : Str} {px py p2 tpos : Pos} {k k2 : Nat} {v1 v2 : Expr} (h : env.kindOf x = some .cell) : swappedStores [.Tuple [.Name x px, .Name y py] k tpos] (.Tuple [v1, v2] k2 p2) env = pure none := by
  refine wk ?_ ?_
  · have h0 : (some NameKind.cell == some NameKind.local) = false := rfl
    unfold swappedStores
    dsimp only
    simp only [List.filterMap_cons, List.filterMap_nil, h, h0, Bool.false_and, Bool.false_eq_true, if_false]
    split
    · rfl
    split
    · rfl
    split <;> rw [if_pos (by rfl)]
  kct_strs
theorem below_no {α : Type} {ws : List Int} {rs : List Row} {r : Row} {ys : List α} (hys : ys = [] ↔ ∀ r ∈ rs, isBelow ws r = false) (h : isBelow ws r = false) : ys = [] ↔ ∀ x ∈ rs ++ [r], isBelow ws x = false :=
  hys.trans ⟨fun z x hx => (List.mem_append.mp hx).elim (z x) (fun e => by rw [List.mem_singleton.mp e]; exact h), fun z x hx => z x (List.mem_append_left _ hx)⟩
theorem below_yes {α : Type} {ws : List Int} {rs : List Row} {r : Row} {ys : List α} {v : α} (h : isBelow ws r = true) : ys ++ [v] = [] ↔ ∀ x ∈ rs ++ [r], isBelow ws x = false :=
  ⟨fun z => absurd (List.append_eq_nil_iff.mp z).2 (by simp), fun z => by have := z r (by simp); rw [h] at this; cases this⟩
section
variable {w : World} {A : Around} {E : Value → Shared → Prop} {h : Heap} {g : Array GenState} {dr : Drawn} {tk : Nat} {os : OsState} {Q : Value → Shared → Prop}
inductive LwI (rows : List Row) (lr : Addr) (vr : List Value) (c : Nat) (c3 : Addr) (o3 : Obj) (c2 c1 : Addr) (own : List (Addr × Obj)) (j : Nat) (f : Nat → Option Value) (nw : List (Addr × Obj)) : Prop
  | mk (ll : Addr) (vl : List Value) (cl : Nat) (lw : Addr) (vw : List Value) (cw : Nat) (ws wp : List Int) (o2' o1' : Obj) (en : nw = (ll, listOf (List.toArray vl) cl) :: (lw, listOf (List.toArray vw) cw) :: (lr, listOf vr.toArray c) :: (c3, o3) :: (c2, o2') :: (c1, o1') :: own) (f2 : f 2 = some (.ref lr)) (f3 : f 3 = some (.ref ll))
    (h2 : ∃ v, o2'.data = .cell v) (h1 : o1'.data = .cell (some (.ref lw))) (i1 : IntsAre vl ws) (i2 : IntsAre vw wp) (RW : Reach rows ws) (hfx : wp = ws → step rows ws = ws) (hj : 2 * mu rows ws + (if wp = ws then 0 else 1) ≤ j) : LwI rows lr vr c c3 o3 c2 c1 own j f nw
theorem codeAny_hide {M : Model} {A : Around} {c : Code} {R : Result → Shared → Prop} {s : Shared} (q : ∀ R' : Result → Shared → Prop, (∀ r s, R r s → R' r s) → codeAny M A c R' s) : codeAny M A c R s := q R fun _ _ x => x
set_option maxHeartbeats 4000000 in
theorem s_law {n : Nat} {l : Addr} {vs : List Value} {xs : List Int} (G : GR (kk.heap_1 w.params) h) (M : Rm A (n + 13)) (hfo : A.frames = some []) (hl : h.IsList l vs.toArray) (hi : IntsAre vs xs) (hn : xs.length ≤ 63)
   (q : ∀ h' tk', (∀ b o, h.get? b = some o → h'.get? b = some o) → Q (.bool true) ⟨h', g, dr, tk', os⟩) :
   wpAny (model PySem.Challenge.pw_qd0112_01 w) A (call (.ref 861) [.ref l]) Q E ⟨h, g, dr, tk, os⟩ := by
  refine wk ?_ ?_
  · refine wpAny_call (codeAny_hide fun R hR => enterCR (binds := [("script", .ref l)]) (ps := ["script"]) (rest := ["pen", "rows", "later", "below", "program", "due"]) (vs := [.ref l]) ["script", "pen", "rows", "later", "below", "program", "due"] [("_law_pen", .ref 814), ("_law_rows", .ref 828), ("_law_offsets", .ref 842), ("_law_program", .ref 835), ("relax", .ref 401), ("EncodeError", .ref 59), ("all_reach", .ref 413)] [("enumerate", .type "enumerate"), ("zip", .type "zip"), ("range", .type "range"), ("len", .builtin "len"), ("dict", .type "dict")] G M (by k_is) (by k_is) (BindsTo.of_eq rfl) (by kernel_rfl) (by kernel_rfl) rfl rfl (by kernel_rfl) ?_)
    intro env L' h₁ tk' cells M' V hfr hsc hcl hcs S
    generalize hA : A.deeper env = A' at M' ⊢
    obtain ⟨c3, c2, c1, hcl, hcs⟩ : ∃ c3 c2 c1 : Addr, env.cells = [(("layout" : Str), c3), (("offsets" : Str), c2), (("widths" : Str), c1)] ∧ CellsAre (bindC (fun x => env.scope.names.lookup x) [("script", .ref l)] fun _ => none) [("layout", c3), ("offsets", c2), ("widths", c1)] cells := ⟨_, _, _, hcl, by rw [hsc]; exact hcs⟩
    obtain ⟨o3, o2, o1, rfl, ho3, ho2, ho1⟩ := hcs.three
    replace ho1 : o1.data = .cell none := by rw [ho1, hsc]; rfl
    replace ho2 : o2.data = .cell none := by rw [ho2, hsc]; rfl
    replace ho3 : o3.data = .cell none := by rw [ho3, hsc]; rfl
    kd_subs
    refine s_lpen (n := n + 10) (G.keeps (SF.keep (by assumption))) M' (IsList.keeps' hl (SF.keep (by assumption))) hi hn ?_
    intro pn a b ta tb tc h₂ tk₂ O ha hb
    have S₂ := SF.ownOf ‹SF h L' _ _ _› O
    dsimp only [List.cons_append, List.nil_append] at S₂
    kd_subs
    have S₃ := ‹SF h L' _ _ ((pn, _) :: _)›
    refine s_lrows (n := n + 10) S₃ G M' ⟨_, _, _, _, _, _, LObj.listOf, ha, hb, Int.le_refl 0, Int.le_refl 0⟩ ?_
    intro lr vr c rows own h₄ tk₄ S₄ RO hvl hRw
    replace S₄ := S₄.perm (.cons _ List.perm_append_comm)
    dsimp only [List.cons_append, List.nil_append] at S₄
    kd_subs
    have RVof : ∀ {H : Heap} {m : Str → Option Value} {nw : List (Addr × Obj)}, SF h L' H m nw → (∀ p ∈ own, p ∈ nw) → RowsV H vr rows := fun S hs => ⟨hvl, fun i v r h1 h2 => hRw i v r h1 h2 _ fun p hp => (S.news p (hs p hp)).1⟩
    have RV₄ : RowsV h₄ vr rows := ⟨hvl, fun i v r h1 h2 => hRw i v r h1 h2 h₄ fun p hp => (S₄.news p (.tail _ (.tail _ (.tail _ (.tail _ hp))))).1⟩
    have hl₄ : h₄.IsList lr vr.toArray := S₄.lst .head
    have hrl := RO.1
    refine z_assignT (hw := sw_cell (by unfold Env.kindOf; rw [hsc]; rfl)) ?_
    kd_subs
    have S₅ := ‹SF h L' _ _ (_ :: (lr, _) :: _)›
    refine z_cList (i₀ := 0) ["row"] [] [] (fun i _ nw ys => nw = [] ∧ IntsAre ys ((rows.take i).map first)) M'.handled V (relS_eq hsc) (by kernel_rfl) (cell0 (by kernel_rfl)) rfl (by k_memK) (S₅.lst (.tail .head)) (by omega) ⟨rfl, .nil⟩ ?_ ?_
    · rintro C i v h₇ tk₇ f nw₁ own₁ ys Tg hgo hv ⟨rfl, hys⟩ V' hsc' S₇
      --(
      refine z_tests0 ?_
      dsimp only [List.nil_append] at S₇
      have hil : i < rows.length := by rw [← hvl]; exact (List.getElem?_eq_some_iff.mp hv).1
      have hri : rows[i]? = some rows[i] := List.getElem?_eq_getElem hil
      have X := hRw i v _ hv hri _ fun p hp => (S₅.news p (.tail _ (.tail _ (.tail _ (.tail _ (.tail _ hp)))))).1
      have hnx : (rows.take (i + 1)).map first = (rows.take i).map first ++ [first rows[i]] := by rw [List.take_add_one, hri, List.map_append]; rfl
      generalize rows[i] = r at X hnx
      rw [if_pos rfl]
      cases X with
      | gap hT =>
        kd_subs
        refine z_tup (IsTup.keeps' hT (SF.keep (by assumption))) (by decide) (by decide) rfl (by with_unfolding_all rfl) ?_
        kd_subs
        refine z_yes (by with_unfolding_all rfl) ?_
        kd_subs
        refine z_tup (IsTup.keeps' hT (SF.keep (by assumption))) (by decide) (by decide) rfl (by with_unfolding_all rfl) ?_
        have S₉ := ‹SF _ C _ _ _›
        refine hgo _ _ (CompEnd.of (nw' := []) S₉ (.refl _) ⟨rfl, ?_⟩)
        rw [hnx]
        exact Mine.IntsAre.snoc hys
      | jump hT =>
        kd_subs
        refine z_tup (IsTup.keeps' hT (SF.keep (by assumption))) (by decide) (by decide) rfl (by with_unfolding_all rfl) ?_
        kd_subs
        refine z_no (by with_unfolding_all rfl) ?_
        kd_subs
        refine z_tup (IsTup.keeps' hT (SF.keep (by assumption))) (by decide) (by decide) rfl (by with_unfolding_all rfl) ?_
        kd_subs
        refine z_yes (by with_unfolding_all rfl) ?_
        kd_subs
        have S₉ := ‹SF _ C _ _ _›
        refine hgo _ _ (CompEnd.of (nw' := []) S₉ (.refl _) ⟨rfl, ?_⟩)
        rw [hnx]
        exact Mine.IntsAre.snoc hys
      | leb hT =>
        kd_subs
        refine z_tup (IsTup.keeps' hT (SF.keep (by assumption))) (by decide) (by decide) rfl (by with_unfolding_all rfl) ?_
        kd_subs
        refine z_no (by with_unfolding_all rfl) ?_
        kd_subs
        refine z_tup (IsTup.keeps' hT (SF.keep (by assumption))) (by decide) (by decide) rfl (by with_unfolding_all rfl) ?_
        kd_subs
        refine z_no (by with_unfolding_all rfl) ?_
        kd_subs
        have S₉ := ‹SF _ C _ _ _›
        refine hgo _ _ (CompEnd.of (nw' := []) S₉ (.refl _) ⟨rfl, ?_⟩)
        rw [hnx]
        exact Mine.IntsAre.snoc hys
      --)
    · rintro D C oC h₇ tk₇ f nw₁ ys ⟨rfl, hys⟩ O hN
      rw [hvl, List.take_length] at hys
      refine post_none (ys := ys) S₅ O hN fun h₈ S₈ _ => ?_
      dsimp only [List.cons_append, List.nil_append] at S₈
      kd_subs
      have S₉ := ‹SF h L' _ _ ((_, _) :: (D, _) :: _)›
      refine z_unpack2 M'.handled S₉ (S₉.tup .head) ?_
      intro h₁₀ S₁₀ _
      refine z_storeX V S₁₀ hsc hcl (by with_unfolding_all rfl) (by with_unfolding_all rfl) (by k_memK) ho1 ?_
      intro h₁₁ o1' S₁₁ ho1'
      dsimp only [List.set] at S₁₁
      kd_subs
      have S₁₂ := SF.sub (nw' := (_, listOf ys.toArray _) :: (_, listOf [].toArray _) :: (lr, listOf vr.toArray c) :: (c3, o3) :: (c2, o2) :: (c1, o1') :: own) ‹SF h L' _ _ _› (.cons _ (.refl _))
      refine z_whileI (j := 2 * mu rows (rows.map first) + 1) (LwI rows lr vr c c3 o3 c2 c1 own) S₁₂ ⟨D, ys, _, _, [], _, _, [], o2, o1', rfl, rfl, rfl, ⟨_, ho2⟩, ho1', hys, .nil, .base, ?_, ?_⟩ ?_
      · intro e
        rw [← e]
        cases rows with
        | nil => rfl
        | cons => exact nomatch e
      · split <;> omega
      rintro j h₁₃ tk₁₃ f nw Tg hgo ⟨ll, vl, cl, lw, vw, cw, ws, wp, o2', o1'', rfl, f2, f3, ⟨v2, ho2'⟩, ho1'', hvl', hvw, RW, hfx, hj⟩ S₁₃
      kd_subs
      refine ne_intsK (s := ⟨_, g, dr, _, os⟩) (SF.lst (by assumption) (by k_memK)) hvl' (SF.lst (by assumption) (by k_memK)) hvw (by have := M'.units; rw [cLine_is]; omega) ?_
      have hwl := RW.ok.1
      have hvll := hvl'.length
      generalize hd : decide (ws = wp) = eq
      cases eq with
      | false =>
        rw [decide_eq_false_iff_not] at hd
        kd_subs
        refine z_storeX V (by assumption) hsc hcl (by with_unfolding_all rfl) (by with_unfolding_all rfl) (by k_memK) ho1'' ?_
        intro h₁₄ o1' S₁₄ ho1'
        dsimp only [List.set] at S₁₄
        kd_subs
        refine s_loffs (n := n + 10) (G.keeps (SF.keep (by assumption))) M' (SF.lst (by assumption) (by k_memK)) hvl' (by omega) ?_
        intro fo vo co h₁₅ tk₁₅ O hvo
        have S₁₅ := SF.ownOf ‹SF h L' _ _ _› O
        dsimp only [List.cons_append, List.nil_append] at S₁₅
        kd_subs
        refine z_storeX V (by assumption) hsc hcl (by with_unfolding_all rfl) (by with_unfolding_all rfl) (by k_memK) ho2' ?_
        intro h₁₆ o2' S₁₆ ho2'
        dsimp only [List.set] at S₁₆
        kd_subs
        have RV₁₆ := RVof S₁₆ (fun p hp => by with_reducible kcj_m)
        have hb2 : h₁₆.IsCell c2 (some (.ref fo)) := ⟨_, S₁₆.ob (by k_memK), ho2'⟩
        have hlo : h₁₆.IsList fo vo.toArray := S₁₆.lst (by k_memK)
        have G' := G.keeps S₁₆.keep
        have hsl : (step rows ws).length = rows.length := (stepFrom_len ws rows ws 0 hwl.symm).trans hwl
        refine z_spl ?_
        refine z_cEnumZ (i₀ := 0) (j₀ := 1) (k₀ := 2) ["at", "row", "width"] [("_law_wanted", .ref 856)] [] (fun i _ nw ys => nw = [] ∧ IntsAre ys ((step rows ws).take i)) M'.handled V (relS_eq hsc) (by kernel_rfl) (cell0 (by kernel_rfl)) rfl (by k_memK) (by k_memK) (by k_memK) (S₁₆.lst (by k_memK)) (S₁₆.lst (by k_memK)) (by omega) (by omega) ⟨rfl, .nil⟩ ?_ ?_
        · rintro C i t vx vy h₁₇ tk₁₇ f' nw₁ own₁ ys Tg hgo hvx hvy ⟨rfl, hys⟩ V' hsc' S₁₇
          --(
          have hcl' := cellsOf V'
          refine z_tests0 ?_
          dsimp only [List.nil_append] at S₁₇
          have hil : i < rows.length := by rw [← hvl]; exact (List.getElem?_eq_some_iff.mp hvx).1
          have hri : rows[i]? = some rows[i] := List.getElem?_eq_getElem hil
          have hwi : ws[i]? = some (ws[i]'(by omega)) := List.getElem?_eq_getElem _
          have X := RV₁₆.2 i vx _ hvx hri
          have hnx := stepFrom_get ws (k := 0) hri hwi
          rw [Nat.zero_add] at hnx
          replace hnx : (step rows ws).take (i + 1) = (step rows ws).take i ++ [wanted ws i rows[i] (ws[i]'(by omega))] := by rw [List.take_add_one]; exact congrArg _ (by rw [show (step rows ws)[i]? = _ from hnx]; rfl)
          generalize hr : rows[i] = r at X hnx hri
          generalize hw : (ws[i]'(by omega)) = wd at hwi hnx
          obtain ⟨u, hu⟩ := Mine.IntsAre.get hvl' hwi
          rw [hu] at hvy
          cases hvy
          rw [if_pos rfl]
          kd_subs
          refine s_lwanted (n := n + 9) (rows := rows) (ws := ws) (r := r) (G'.keeps (SF.keep (by assumption))) M' (X.keeps (SF.keep (by assumption))) hri RW.ok RO (IsList.keeps' hlo (SF.keep (by assumption))) hvo ?_
          intro h₁₈ t₁₈ tk₁₈ kp
          have S₁₈ := (‹SF h₁₆ C _ _ _›).keeps kp
          refine hgo _ _ (CompEnd.of (nw' := []) S₁₈ (.refl _) ⟨rfl, ?_⟩)
          rw [hnx]
          exact Mine.IntsAre.snoc hys
          --)
        · rintro D C oC h₁₈ tk₁₈ f' nw₁ ys ⟨rfl, hys⟩ O hN
          rw [hvl, ← hsl, List.take_length] at hys
          refine post_store V S₁₆ (by k_memK) O hN fun h₁₉ tk₁₉ S₁₉ => ?_
          dsimp only [List.cons_append, List.nil_append] at S₁₉
          kd_subs
          have S₂₀ := SF.sub (nw' := (D, listOf ys.toArray _) :: (ll, listOf vl.toArray cl) :: (lr, listOf vr.toArray c) :: (c3, o3) :: (c2, o2') :: (c1, o1') :: own) ‹SF h L' _ _ _› (.cons_cons _ (.cons _ (.cons_cons _ (.cons _ (.refl _)))))
          refine hgo _ _ ⟨2 * mu rows (step rows ws) + (if ws = step rows ws then 0 else 1), _, _, _, _, ?_, rfl, S₂₀, D, ys, _, ll, vl, cl, step rows ws, ws, o2', o1', rfl, f2, rfl, ⟨_, ho2'⟩, ho1', hys, hvl', .next RW, fun e => by rw [← e]; exact e.symm, Nat.le_refl _⟩
          rw [if_neg (fun e => hd e.symm)] at hj
          split
          · rename_i e; rw [← e]; omega
          · rename_i e
            have := mu_lt RW.ok (fun z => e z.symm)
            omega
      | true =>
        rw [decide_eq_true_eq] at hd
        subst hd
        have hfx := hfx rfl
        kd_subs
        refine s_loffs (n := n + 10) (G.keeps (SF.keep (by assumption))) M' (SF.lst (by assumption) (by k_memK)) hvw (by omega) ?_
        intro fo vo co h₁₅ tk₁₅ O hvo
        have S₁₅ := SF.ownOf ‹SF h L' _ _ _› O
        dsimp only [List.cons_append, List.nil_append] at S₁₅
        kd_subs
        refine z_storeX V (by assumption) hsc hcl (by with_unfolding_all rfl) (by with_unfolding_all rfl) (by k_memK) ho2' ?_
        intro h₁₆ o2'' S₁₆ ho2''
        dsimp only [List.set] at S₁₆
        kd_subs
        have RV₁₆ := RVof S₁₆ (fun p hp => by with_reducible kcj_m)
        have hb2 : h₁₆.IsCell c2 (some (.ref fo)) := ⟨_, S₁₆.ob (by k_memK), ho2''⟩
        have hlo : h₁₆.IsList fo vo.toArray := S₁₆.lst (by k_memK)
        have G' := G.keeps S₁₆.keep
        have hof : ∀ k : Nat, k ≤ rows.length → ∃ t, vo[k]? = some (.int (off ws k) t) := fun k hk => Mine.IntsAre.get hvo (by rw [List.getElem?_map, List.getElem?_range (by omega)]; rfl)
        refine z_cList (i₀ := 0) ["row"] [] [] (fun i _ nw ys => nw = [] ∧ (ys = [] ↔ ∀ r ∈ rows.take i, isBelow ws r = false)) M'.handled V (relS_eq hsc) (by kernel_rfl) (cell0 (by kernel_rfl)) rfl (by k_memK) (S₁₆.lst (by k_memK)) (by omega) ⟨rfl, by simp⟩ ?_ ?_
        · rintro C i v h₁₇ tk₁₇ f' nw₁ own₁ ys Tg hgo hv ⟨rfl, hys⟩ V' hsc' S₁₇
          --(
          have hcl' := cellsOf V'
          dsimp only [List.nil_append] at S₁₇
          have hil : i < rows.length := by rw [← hvl]; exact (List.getElem?_eq_some_iff.mp hv).1
          have hri : rows[i]? = some rows[i] := List.getElem?_eq_getElem hil
          have X := RV₁₆.2 i v _ hv hri
          have hro := RO.2 _ (List.getElem_mem hil)
          have hnx : rows.take (i + 1) = rows.take i ++ [rows[i]] := by rw [List.take_add_one, hri]; rfl
          generalize rows[i] = r at X hnx hro
          refine z_tests1 ?_
          cases X with
          | gap hT =>
            kd_subs
            refine z_tup (IsTup.keeps' hT (SF.keep (by assumption))) (by decide) (by decide) rfl (by with_unfolding_all rfl) ?_
            kd_subs
            refine z_no (by with_unfolding_all rfl) ?_
            kd_subs
            have S₉ := ‹SF h₁₆ C _ _ _›
            refine hgo _ _ (CompEnd.of (nw' := []) S₉ (.refl _) ⟨rfl, ?_⟩)
            rw [hnx]
            exact below_no hys rfl
          | jump hT =>
            kd_subs
            refine z_tup (IsTup.keeps' hT (SF.keep (by assumption))) (by decide) (by decide) rfl (by with_unfolding_all rfl) ?_
            kd_subs
            refine z_no (by with_unfolding_all rfl) ?_
            kd_subs
            have S₉ := ‹SF h₁₆ C _ _ _›
            refine hgo _ _ (CompEnd.of (nw' := []) S₉ (.refl _) ⟨rfl, ?_⟩)
            rw [hnx]
            exact below_no hys rfl
          | @leb a s o p c t3 t4 t5 t6 hT =>
            obtain ⟨ho, hp, -⟩ := hro
            obtain ⟨t1, ht1⟩ := hof _ ho
            obtain ⟨t2, ht2⟩ := hof _ hp
            kd_subs
            refine z_tup (IsTup.keeps' hT (SF.keep (by assumption))) (by decide) (by decide) rfl (by with_unfolding_all rfl) ?_
            kd_subs
            refine z_yes (by with_unfolding_all rfl) ?_
            kd_subs
            refine z_tup (IsTup.keeps' hT (SF.keep (by assumption))) (by decide) (by decide) rfl (by with_unfolding_all rfl) ?_
            kd_subs
            cases s with
            | true =>
              kd_subs
              have S₉ := ‹SF h₁₆ C _ _ _›
              refine hgo _ _ (CompEnd.of (nw' := []) S₉ (.refl _) ⟨rfl, ?_⟩)
              rw [hnx]
              exact below_no hys rfl
            | false =>
              kd_subs
              refine z_tup (IsTup.keeps' hT (SF.keep (by assumption))) (by decide) (by decide) rfl (by with_unfolding_all rfl) ?_
              kd_subs
              refine z_item (IsList.keeps' hlo (SF.keep (by assumption))) (by omega) (by omega) (by rw [Int.toNat_natCast]; exact ht1) (by with_unfolding_all rfl) ?_
              kd_subs
              refine z_tup (IsTup.keeps' hT (SF.keep (by assumption))) (by decide) (by decide) rfl (by with_unfolding_all rfl) ?_
              kd_subs
              refine z_item (IsList.keeps' hlo (SF.keep (by assumption))) (by omega) (by omega) (by rw [Int.toNat_natCast]; exact ht2) (by with_unfolding_all rfl) ?_
              kd_subs
              refine z_tup (IsTup.keeps' hT (SF.keep (by assumption))) (by decide) (by decide) rfl (by with_unfolding_all rfl) ?_
              kd_subs
              generalize hd : decide (off ws o - off ws p + c < 0) = cc
              cases cc with
              | false =>
                kd_subs
                have S₉ := ‹SF h₁₆ C _ _ _›
                refine hgo _ _ (CompEnd.of (nw' := []) S₉ (.refl _) ⟨rfl, ?_⟩)
                rw [hnx]
                exact below_no hys hd
              | true =>
                kd_subs
                have S₉ := ‹SF h₁₆ C _ _ _›
                refine hgo _ _ (CompEnd.of (nw' := []) S₉ (.refl _) ⟨rfl, ?_⟩)
                rw [hnx]
                exact below_yes hd
          --)
        · rintro D C oC h₁₈ tk₁₈ f' nw₁ ys ⟨rfl, hys⟩ O hN
          rw [hvl, List.take_length] at hys
          refine post_store V S₁₆ (by k_memK) O hN fun h₁₉ tk₁₉ S₁₉ => ?_
          dsimp only [List.cons_append, List.nil_append] at S₁₉
          kd_subs
          refine s_lprogram (n := n + 7) (G.keeps (SF.keep (by assumption))) M' (SF.lst (by assumption) (by k_memK)) (RVof (by assumption) (fun p hp => by with_reducible kcj_m)) RO ?_
          intro p ds ln de sec lp dl pvs Ts tx own2 h₂₀ tk₂₀ O2 hP
          have S₂₀ := (SF.ownOf ‹SF h L' _ _ _› O2).perm List.perm_append_comm
          dsimp only [List.cons_append, List.nil_append] at S₂₀
          kd_subs
          refine z_tryR ?_
          kd_subs
          have S₂₁ := ‹SF h L' _ _ ((D, _) :: _)›
          have P₂₁ := hP _ fun x hx => (S₂₁.news x (by with_reducible kcj_m)).1
          have hff : Heap.FunFrames _ h [env] := Heap.FunFrames.cons (by rw [hsc]; decide) hfr S₂₁.fr.ns (Heap.get?_none_of_le S₂₁.fr.above) trivial
          have hfs : A'.frames = some [env] := by rw [← hA]; exact Around.frames_deeper hfo
          refine wpAny_call (s_relax (n := n + 1) (outer := [env]) (hb := h) (G.keeps S₂₁.keep) M' P₂₁ RO hfs hff ?_ ?_)
          · intro ws' e h₂₂ tk₂₂ RW' hfx' hbl hE hU
            have hws : ws' = ws := fix_eq RW' RW hfx' hfx
            subst hws
            refine z_catch hfs hfr V G S₂₁ (by k_memK) (by kernel_rfl) hE hU ?_
            intro h₂₃ S₂₃
            kd_subs
            have hys1 : ys ≠ [] := fun z => by
              obtain ⟨r, hr, hb⟩ := hbl
              rw [hys.mp z r hr] at hb
              cases hb
            refine z_neLens (s := ⟨_, g, dr, _, os⟩) (SF.lst (by assumption) (by k_memK)) (SF.lst (by assumption) (by k_memK)) (by cases ys with | nil => exact absurd rfl hys1 | cons => rfl) M'.room' ?_
            exact hR _ _ (q _ _ (SF.keep (by assumption)))
          · intro ws' lay own3 h₂₂ tk₂₂ RW' hfx' hnb O3 hLO
            have hws : ws' = ws := fix_eq RW' RW hfx' hfx
            subst hws
            have hys0 : ys = [] := hys.mpr hnb
            subst hys0
            have S₂₂ := (SF.ownOf S₂₁ O3).perm List.perm_append_comm
            dsimp only [List.cons_append, List.nil_append] at S₂₂
            show wpAny (model PySem.Challenge.pw_qd0112_01 w) A' (storeName env "layout" (.ref lay)) _ _ _
            refine z_storeX V S₂₂ hsc hcl (by with_unfolding_all rfl) (by with_unfolding_all rfl) (by k_memK) ho3 ?_
            intro h₂₄ o3' S₂₄ ho3'
            dsimp only [List.set] at S₂₄
            have hu : A'.units + 64 < cLine := by have := M'.units; rw [cLine_is]; omega
            kd_subs
            refine ne_intsK (s := ⟨_, g, dr, _, os⟩) (SF.lst (by assumption) (by k_memK)) .nil (SF.lst (by assumption) (by k_memK)) .nil hu ?_
            rw [show (!decide (([] : List Int) = [])) = false from rfl]
            kd_subs
            refine z_len (SF.lst (by assumption) (by k_memK)) (by omega) ?_
            kd_subs
            have S₂₅ := ‹SF h L' _ _ ((_, _) :: (D, _) :: _)›
            have Y₂₅ := hLO _ fun x hx => (S₂₅.news x (by with_reducible kcj_m)).1
            have hb3 : Heap.IsCell _ c3 (some (.ref lay)) := ⟨_, S₂₅.ob (by k_memK), ho3'⟩
            rw [show ((vr.length : Nat) : Int) + 1 = ((rows.length + 1 : Nat) : Int) by omega]
            refine z_cRange (i₀ := 0) ["at"] [] [] (fun i _ nw ys => nw = [] ∧ IntsAre ys ((List.range i).map (off ws'))) M'.handled V (relS_eq hsc) (by kernel_rfl) (cell0 (by kernel_rfl)) rfl (by k_memK) (by omega) ⟨rfl, .nil⟩ ?_ ?_
            · rintro C i t h₂₆ tk₂₆ f' nw₁ own₁ ys Tg hgo hil ⟨rfl, hys⟩ V' hsc' S₂₆
              have hcl' := cellsOf V'
              have G' := G.keeps S₂₅.keep
              refine z_tests0 ?_
              dsimp only [List.nil_append] at S₂₆
              kd_subs
              have Y₂₆ := Y₂₅.keeps (SF.keep S₂₆)
              obtain ⟨_, _, _, _, _, _, _, _, _, _, _, _, hm, _⟩ := id Y₂₆
              refine z_meth (G'.keeps (SF.keep (by assumption))) hm ?_ (by with_unfolding_all rfl) (by with_unfolding_all rfl)
              kd_subs
              refine s_place (n := n + 10) (G'.keeps (SF.keep (by assumption))) M' (Y₂₅.keeps (SF.keep (by assumption))) (by omega) ?_
              intro h₂₇ tk₂₇ t₂₇ kp
              have S₂₈ := (‹SF _ C _ _ _›).keeps kp
              refine hgo _ _ (CompEnd.of (nw' := []) S₂₈ (.refl _) ⟨rfl, ?_⟩)
              rw [List.range_succ, List.map_append]
              exact Mine.IntsAre.snoc hys
            · rintro D C oC h₂₆ tk₂₆ f' nw₁ ys ⟨rfl, hys⟩ O hN
              refine post_none (ys := ys) S₂₅ O hN fun h₂₇ S₂₇ _ => ?_
              dsimp only [List.cons_append, List.nil_append] at S₂₇
              kd_subs
              refine ne_intsK (s := ⟨_, g, dr, _, os⟩) (SF.lst (by assumption) (by k_memK)) hys (SF.lst (by assumption) (by k_memK)) hvo hu ?_
              rw [hwl, decide_eq_true rfl, Bool.not_true]
              kd_subs
              have Y₂₇ := hLO _ fun x hx => (S₂₇.news x (by with_reducible kcj_m)).1
              obtain ⟨d1, d2, d3, xo, xw, t3, y1, y2, y3, b1, b2, b3, hm, D1, X1, D2, X2, D3⟩ := id Y₂₇
              refine z_attrH (G.keeps S₂₇.keep) y3 fun tk₂₈ => ?_
              kd_subs
              refine z_dict1 S₂₇ (SF.big (fa := 861) S₂₇ G (by k_is) rfl) ?_
              intro D₂ H₂₈ S₂₈ hD2 hDn kp₂₈
              have hvol := hvo.length
              rw [List.length_map, List.length_range] at hvol
              obtain ⟨tl, htl⟩ := hof rows.length (Nat.le_refl _)
              kd_subs
              refine z_itemNeg (SF.lst (by assumption) (by k_memK)) (by decide) (by omega) (by omega) (by rw [show ((-1 : Int) + vo.length).toNat = rows.length by omega]; exact htl) (by with_unfolding_all rfl) ?_
              refine ⟨_, _, _, _, _, rfl, rfl, S₂₈, fun H₃₀ tk₃₀ o₃₀ S₃₀ hd₃₀ kp₃₀ => ?_⟩
              have kp₃ : ∀ a o, Heap.get? _ a = some o → H₃₀.get? a = some o := fun a o e => kp₃₀ a o (fun z => by rw [z, hDn] at e; cases e) (kp₂₈ a o e)
              refine PySem.W.keq_ne (s := ⟨_, g, dr, _, os⟩) b3 hD2 (DictOf.keeps D3 kp₃) hd₃₀ M'.room' (fun _ => .hit rfl (by rw [← hwl]; exact eq_int) .nil) ?_
              rw [show (!(([((".text" : Str), Value.int (off ws' ws'.length) t3)] : List (Str × Value)).length == ([((".text" : Str), Value.int (off ws' rows.length) tl)] : List (Str × Value)).length && (true && true))) = false from rfl]
              kd_subs
              have S₃₁ := ‹SF h L' H₃₀ _ _›
              have RV₃₁ := RVof S₃₁ (fun p hp => by with_reducible kcj_m)
              have hb1 : H₃₀.IsCell c1 (some (.ref lw)) := ⟨_, S₃₁.ob (by k_memK), ho1''⟩
              have hlw : H₃₀.IsList lw vw.toArray := S₃₁.lst (by k_memK)
              refine z_cEnum (i₀ := 0) (j₀ := 1) ["at", "row"] [] [] (fun i _ nw ys => DueI nw ys (wps 0 (rows.take i) (ws'.take i))) M'.handled V (relS_eq hsc) (by kernel_rfl) (cell0 (by kernel_rfl)) rfl (by k_memK) (by k_memK) (S₃₁.lst (by k_memK)) (by omega) (by simpa [wps] using DueI.nil) ?_ ?_
              · rintro C i t v h₃₂ tk₃₂ f' nw₁ own₁ ys Tg hgo hv hI V' hsc' S₃₂
                --(
                have hcl' := cellsOf V'
                have hil : i < rows.length := by rw [← hvl]; exact (List.getElem?_eq_some_iff.mp hv).1
                have hri : rows[i]? = some rows[i] := List.getElem?_eq_getElem hil
                have hwi : ws'[i]? = some (ws'[i]'(by omega)) := List.getElem?_eq_getElem _
                have X := RV₃₁.2 i v _ hv hri
                have hnx : wps 0 (rows.take (i + 1)) (ws'.take (i + 1)) = wps 0 (rows.take i) (ws'.take i) ++ wps i [rows[i]] [ws'[i]'(by omega)] := by
                  rw [List.take_add_one, List.take_add_one, hri, hwi]
                  have hll : (rows.take i).length = (ws'.take i).length := by rw [List.length_take, List.length_take]; omega
                  have := wps_snoc (k := 0) (r := rows[i]) (x := ws'[i]'(by omega)) hll
                  rw [show 0 + (rows.take i).length = i by rw [List.length_take]; omega] at this
                  exact this
                generalize rows[i] = r at X hnx
                generalize (ws'[i]'(by omega)) = wd at hwi hnx
                obtain ⟨tw, hwt⟩ := Mine.IntsAre.get hvw hwi
                refine z_tests1 ?_
                cases X with
                | gap hT =>
                  kd_subs
                  refine z_tup (IsTup.keeps' hT (SF.keep (by assumption))) (by decide) (by decide) rfl (by with_unfolding_all rfl) ?_
                  kd_subs
                  refine z_no (by with_unfolding_all rfl) ?_
                  kd_subs
                  have S₉ := ‹SF H₃₀ C _ _ _›
                  refine hgo _ _ (CompEnd.of (nw' := nw₁) S₉ (.refl _) ?_)
                  rw [hnx]
                  simpa [wps] using hI
                | jump hT =>
                  kd_subs
                  refine z_tup (IsTup.keeps' hT (SF.keep (by assumption))) (by decide) (by decide) rfl (by with_unfolding_all rfl) ?_
                  kd_subs
                  refine z_yes (by with_unfolding_all rfl) ?_
                  kd_subs
                  refine z_item (IsList.keeps' hlw (SF.keep (by assumption))) (by omega) (by omega) (by rw [Int.toNat_natCast]; exact hwt) (by with_unfolding_all rfl) ?_
                  kd_subs
                  have S₉ := ‹SF H₃₀ C _ _ _›
                  refine hgo _ _ (CompEnd.of (nw' := _ :: _ :: nw₁) S₉ (.refl _) ?_)
                  rw [hnx]
                  exact hI.snoc
                | leb hT =>
                  kd_subs
                  refine z_tup (IsTup.keeps' hT (SF.keep (by assumption))) (by decide) (by decide) rfl (by with_unfolding_all rfl) ?_
                  kd_subs
                  refine z_yes (by with_unfolding_all rfl) ?_
                  kd_subs
                  refine z_item (IsList.keeps' hlw (SF.keep (by assumption))) (by omega) (by omega) (by rw [Int.toNat_natCast]; exact hwt) (by with_unfolding_all rfl) ?_
                  kd_subs
                  have S₉ := ‹SF H₃₀ C _ _ _›
                  refine hgo _ _ (CompEnd.of (nw' := _ :: _ :: nw₁) S₉ (.refl _) ?_)
                  rw [hnx]
                  exact hI.snoc
                --)
              · rintro D₃ C oC h₃₂ tk₃₂ f' nw₁ ys hI O hN
                rw [hvl, List.take_length, ← hwl, List.take_length] at hI
                refine post_none (ys := ys) S₃₁ O hN fun h₃₃ S₃₃ _ => ?_
                replace S₃₃ := S₃₃.perm (.cons _ List.perm_append_comm)
                dsimp only [List.cons_append, List.nil_append] at S₃₃
                refine z_spl0 ?_
                obtain ⟨xs', PX', hPA, hkx⟩ := hI.pairs (prog := PySem.Challenge.pw_qd0112_01) (w := w) (H := h₃₃) fun p hp => (S₃₃.news p (by with_reducible kcj_m)).1
                have hnd := wps_nodup rows ws' 0
                have hlen := wps_len rows ws' 0
                refine call_dictPairs (s := ⟨h₃₃, g, dr, _, os⟩) (S₃₃.ob .head) M'.handled (by have := M'.units; rw [cLine_is]; omega) (PX'.nd hnd) (by rw [PX'.length]; omega) hPA (SF.big (fa := 861) S₃₃ G (by k_is) rfl) ?_
                intro h₃₄ du tk₃₄ hdu hdn hds kp₃₄
                dsimp only at hdu hdn kp₃₄ ⊢
                obtain ⟨od, hod, hHO⟩ := HO.of hdu hkx
                have S₃₄ := S₃₃.res kp₃₄ hdn hod
                kd_subs
                have S₃₅ := ‹SF h L' _ _ ((du, od) :: _)›
                have Y₃₅ := hLO _ fun x hx => (S₃₅.news x (by with_reducible kcj_m)).1
                have P₃₅ := hP _ fun x hx => (S₃₅.news x (by with_reducible kcj_m)).1
                obtain ⟨e1, e2, e3, yo, yw, u3, -, w2, -, -, f2', -, -, -, -, E2, Z2, -⟩ := id Y₃₅
                refine z_attrH (G.keeps S₃₅.keep) w2 fun tk₃₆ => ?_
                kd_subs
                have hDu := hHO _ du (S₃₅.ob .head) fun p hp => (S₃₅.news p (by with_reducible kcj_m)).1
                refine eqP (s := ⟨_, g, dr, _, os⟩) (in1_P (n := n + 11) M') f2' hds E2 hDu M'.room' (by rw [Z2.length, PX'.length]) (fun x hx => ?_) ?_
                · obtain ⟨T, m, t, u, hm, hxv⟩ := Z2.both PX' x hx
                  exact ⟨_, atKey_PX (PX'.nd hnd) hm, by rw [hxv]; exact eq_int⟩
                kd_subs
                refine s_reach (n := n + 2) (G.keeps S₃₅.keep) M' P₃₅ RO RW.ok Y₃₅ hfx hnb ?_
                intro h₃₇ tk₃₇ kp₃₇
                kd_subs
                exact hR _ _ (q _ _ fun b o e => kp₃₇ b o (S₃₅.keep b o e))
  kct_strs
end
theorem rm0 : Rm callerA (0 + 13) := ⟨rfl, by decide, by decide⟩
theorem theWalk {w : World} {s₀ s₁ : Shared} {mg mb : Str → Option Value} {p : Program} {loose : List Str} {fa l : Addr} {xs : List Int} {vs : List Value} (T : TopRead p loose mg mb s₁.heap) (KX : (kk.heap_1 w.params).In s₁.heap) (hmg : mg "law" = some (.ref fa)) (hg : s₁.gens = #[])
    (hL : s₁.heap.IsList l vs.toArray) (hI : IntsAre vs xs) (hlen : xs.length ≤ 63) :
    wpAny (model PySem.Challenge.rw_qd0112_01.row.prog w) callerA (call (.ref fa) [.ref l]) (fun v s' => GoodWG PySem.Challenge.rw_qd0112_01.row.claim (classAt s₀.heap) (ExcName.means s₀.heap) [ofPy (PyData.list (xs.map PyData.int))] s₁ (.ok (.ret v)) s')
      (fun e s' => GoodWG PySem.Challenge.rw_qd0112_01.row.claim (classAt s₀.heap) (ExcName.means s₀.heap) [ofPy (PyData.list (xs.map PyData.int))] s₁ (.error e) s') s₁ := by
  have h1 : mg "law" = some (.ref 861) := mg_of KX T.g (by kernel_rfl)
  rw [h1] at hmg
  cases hmg
  obtain ⟨h, g, dr, tk, os⟩ := s₁
  refine s_law (n := 0) (vs := vs) (xs := xs) ⟨KX, _, _, mg, mb, T⟩ rm0 rfl hL hI hlen ?_
  intro h' tk' kp
  refine GoodW.toG ⟨.inl ⟨_, ofPy (.bool true), [], rfl, fun _ => rfl, by constructor, ?_, fun _ => ⟨List.nodup_nil, by simp⟩⟩, kp, rfl, hg⟩
  exact postW_of (by wrow_shape) (by wtm_val) (by w_fin)
theorem hdt.tw12272303267912196801 : True := trivial
theorem hdt.tw17452317899356985457 : True := trivial
theorem hdt.tw13669261898584346759 : True := trivial
theorem hdt.tw4170442634074658923 : True := trivial
theorem hdt.tw15478419263155205638 : True := trivial
theorem hdt.tw16337299551932284833 : True := trivial
theorem hdt.tw8422914560970218089 : True := trivial
theorem hdt.tw984682297892999715 : True := trivial
theorem hdt.tw4927112468709823835 : True := trivial
theorem hdt.tw14009372025184823782 : True := trivial
theorem hdt.tw11831464556267721772 : True := trivial
theorem hdt.tw15315628801682730461 : True := trivial
theorem hdt.tw16919513021888728888 : True := trivial
theorem hdt.tw2542964615930108436 : True := trivial
theorem hdt.tw7242286384936586626 : True := trivial
theorem hdt.tw10451763672035995216 : True := trivial
theorem hdt.tw18133109624195632111 : True := trivial
theorem hdt.tw4833593672605760573 : True := trivial
theorem hdt.tw11066660324238032397 : True := trivial
theorem hdt.tw4876766359644990859 : True := trivial
theorem hdt.tw12674248969969137675 : True := trivial
theorem hdt.tw13087886762081237528 : True := trivial
theorem hdt.tw14559647763475898706 : True := trivial
theorem hdt.tw1105084310668755809 : True := trivial
theorem hdt.tw11018699255312261801 : True := trivial
theorem hdt.tw13170198424636835856 : True := trivial
theorem hdt.tw15019859847609624735 : True := trivial
theorem hdt.tw8309227189455716408 : True := trivial
theorem hdt.tw15478848142807364060 : True := trivial
theorem hdt.tw4384913157077982299 : True := trivial
theorem hdt.tw17993779181755068505 : True := trivial
theorem hdt.tw1470524933217135067 : True := trivial
theorem hdt.tw7057445755647844904 : True := trivial
theorem hdt.tw18058366372622724006 : True := trivial
theorem hdt.tw1291994694355752230 : True := trivial
theorem hdt.tw15375898693568670961 : True := trivial
theorem hdt.tw9135442850860447295 : True := trivial
theorem hdt.tw770643371112577642 : True := trivial
theorem hdt.tw11796176712140301183 : True := trivial
theorem hdt.tw2900860017786512479 : True := trivial
theorem hdt.tw1283431037950743844 : True := trivial
theorem hdt.tw5791341758842269275 : True := trivial
theorem hdt.tw8425783751330863659 : True := trivial
theorem hdt.tw3125876678272674994 : True := trivial
theorem hdt.tw11103016900260586316 : True := trivial
theorem hdt.tw4660974938933155959 : True := trivial
theorem hdt.tw6768283104620507441 : True := trivial
theorem hdt.tw7665132710995614799 : True := trivial
theorem hdt.tw10317800811582772372 : True := trivial
theorem hdt.tw4919792776045950196 : True := trivial
theorem hdt.tw1731253562736517310 : True := trivial
theorem hdt.tw14730645795136084233 : True := trivial
theorem hdt.tw691016588430280004 : True := trivial
theorem hdt.tw13005038213926258615 : True := trivial
theorem hdt.tw4425880740808364840 : True := trivial
theorem hdt.tw14971673641575495585 : True := trivial
theorem hdt.tw1060104039840123639 : True := trivial
theorem hdt.tw12981424275667901915 : True := trivial
theorem hdt.tw3956596335860756011 : True := trivial
theorem hdt.tw3348484748405554414 : True := trivial
theorem hdt.tw9956557921302535952 : True := trivial
theorem hdt.tw13789415096686287906 : True := trivial
theorem hdt.tw11491356850996594406 : True := trivial
theorem hdt.tw8985000865769013533 : True := trivial
theorem hdt.tw14852787467227488271 : True := trivial
theorem hdt.tw13542098004054485880 : True := trivial
theorem hdt.tw15910016544801934454 : True := trivial
theorem hdt.tw12194924119633248303 : True := trivial
theorem hdt.tw15927404676867433974 : True := trivial
theorem hdt.tw18047807851215798967 : True := trivial
theorem hdt.tw222350585679491958 : True := trivial
theorem hdt.tw14933094745451433445 : True := trivial
theorem hdt.tw15417441188229647438 : True := trivial
theorem hdt.tw4856649134294533508 : True := trivial
theorem hdt.tw10628227926273251802 : True := trivial
theorem hdt.tw13540495163561829234 : True := trivial
theorem hdt.tw6776500831490851336 : True := trivial
theorem hdt.tw4835130292967836181 : True := trivial
theorem hdt.tw9708213960791689082 : True := trivial
theorem hdt.tw13843278018771657876 : True := trivial
theorem hdt.tw10191141000921640336 : True := trivial
theorem hdt.tw3371440383778851719 : True := trivial
theorem hdt.tw8977042602823977693 : True := trivial
theorem hdt.tw147215485156628336 : True := trivial
theorem hdt.tw5201569101553960891 : True := trivial
theorem hdt.tw15023214739639993115 : True := trivial
theorem hdt.tw6589976557221091293 : True := trivial
theorem hdt.tw14040486744415393641 : True := trivial
theorem hdt.tw15621227117590515146 : True := trivial
theorem hdt.tw3761277087791177018 : True := trivial
theorem hdt.tw11023275715522127303 : True := trivial
theorem hdt.tw381812211122120210 : True := trivial
theorem hdt.tw9811911501477312415 : True := trivial
theorem hdt.tw2371027641512595149 : True := trivial
theorem hdt.tw8683895531299016533 : True := trivial
theorem hdt.tw17729809754571221837 : True := trivial
theorem hdt.tw4831568664181889937 : True := trivial
theorem hdt.tw7309277132855518032 : True := trivial
theorem hdt.tw1241847380581609382 : True := trivial
theorem hdt.tw7739139483940963414 : True := trivial
theorem hdt.tw9629443753293490001 : True := trivial
theorem hdt.tw2321108782168903240 : True := trivial
theorem hdt.tw10192117835444734204 : True := trivial
theorem hdt.tw5661221552368839488 : True := trivial
theorem hdt.tw5868781042989119080 : True := trivial
theorem hdt.tw5275385865252278960 : True := trivial
theorem hdt.tw422765615090639486 : True := trivial
theorem hdt.tw792818924822638939 : True := trivial
theorem hdt.tw12249393790159553007 : True := trivial
theorem hdt.tw16630658271766550016 : True := trivial
theorem hdt.tw12424553892529604592 : True := trivial
theorem hdt.tw12920780401000027409 : True := trivial
theorem hdt.tw1487347815606089972 : True := trivial
theorem hdt.tw207998815832056721 : True := trivial
theorem hdt.tw13762106482081821142 : True := trivial
theorem hdt.tw5356478597368935755 : True := trivial
theorem hdt.tw14507150666377993442 : True := trivial
theorem hdt.tw12587775322923500046 : True := trivial
theorem hdt.tw10691350820834827878 : True := trivial
theorem hdt.tw1581423198554390704 : True := trivial
theorem hdt.tw9443056977742500435 : True := trivial
theorem hdt.tw1392483063241491965 : True := trivial
theorem hdt.tw312029574749449239 : True := trivial
theorem hdt.tw10857125539357055152 : True := trivial
theorem hdt.tw14123653032507675307 : True := trivial
theorem hdt.tw11857144085722662325 : True := trivial
theorem hdt.tw9776290259373059258 : True := trivial
theorem hdt.tw13521426066972326386 : True := trivial
theorem hdt.tw10561555985115643111 : True := trivial
theorem hdt.tw11536531870311105018 : True := trivial
theorem hdt.tw6206375100433840290 : True := trivial
theorem hdt.tw7310355522222879060 : True := trivial
theorem hdt.tw2918230276883196137 : True := trivial
theorem hdt.tw3763190386241273724 : True := trivial
theorem hdt.tw14447705728555362493 : True := trivial
theorem hdt.tw8788708156559788672 : True := trivial
theorem hdt.tw5452433651307061513 : True := trivial
theorem hdt.tw8620413943808774357 : True := trivial
theorem hdt.tw11553073706414763421 : True := trivial
theorem hdt.tw12226973275457248685 : True := trivial
theorem hdt.tw7249289706898895196 : True := trivial
theorem hdt.tw1960347376810573461 : True := trivial
theorem hdt.tw11949239852568846696 : True := trivial
theorem hdt.tw13670198622455672894 : True := trivial
theorem hdt.tw14754793883325633324 : True := trivial
theorem hdt.tw15192159219820393470 : True := trivial
theorem hdt.tw17207900826196803989 : True := trivial
theorem hdt.tw1947393146561653828 : True := trivial
theorem hdt.tw4187472801576393531 : True := trivial
theorem hdt.tw14297492385248190764 : True := trivial
theorem hdt.tw4376267919519080376 : True := trivial
theorem hdt.tw1796071491244052131 : True := trivial
theorem hdt.tw9203042541983812780 : True := trivial
theorem hdt.tw1641426135858619700 : True := trivial
theorem hdt.tw10223272019891437110 : True := trivial
theorem hdt.tw12501219913586107120 : True := trivial
theorem hdt.tw1109721998203619465 : True := trivial
theorem hdt.tw13020526527871207144 : True := trivial
theorem hdt.tw12724606945027732389 : True := trivial
theorem hdt.tw7881574105024040394 : True := trivial
theorem hdt.tw8843385017243144203 : True := trivial
theorem hdt.tw8397471571359192330 : True := trivial
theorem hdt.tw4923949596551744172 : True := trivial
theorem hdt.tw12861088549253066951 : True := trivial
theorem hdt.tw4971446940467340449 : True := trivial
theorem hdt.tw17126416463513067639 : True := trivial
theorem hdt.tw13809362063988882403 : True := trivial
theorem hdt.tw305157909897330632 : True := trivial
theorem hdt.tw8991225758959579416 : True := trivial
theorem hdt.tw2409421637300955975 : True := trivial
theorem hdt.tw1721538856989247482 : True := trivial
theorem hdt.tw5333190067260823364 : True := trivial
theorem hdt.tw3235992870697111172 : True := trivial
theorem hdt.tw15103568269132597748 : True := trivial
theorem hdt.tw5917485929432384175 : True := trivial
theorem hdt.tw2649691374571475723 : True := trivial
theorem hdt.tw554288275363218787 : True := trivial
theorem hdt.tw6833419570243102681 : True := trivial
theorem hdt.tw2023740128000229346 : True := trivial
theorem hdt.tw3779581045537216490 : True := trivial
theorem hdt.tw14656715372596611561 : True := trivial
theorem hdt.tw371363869834779059 : True := trivial
theorem hdt.tw16380693114977265462 : True := trivial
theorem hdt.tw7609507244453860175 : True := trivial
theorem hdt.tw13028896929098533476 : True := trivial
theorem hdt.tw13157060019381860463 : True := trivial
theorem hdt.tw8375348962879963839 : True := trivial
theorem hdt.tw9431127643267788542 : True := trivial
theorem hdt.tw8408824175765239012 : True := trivial
theorem hdt.tw15842524110021388585 : True := trivial
theorem hdt.tw3671030741843185830 : True := trivial
theorem hdt.tw5083916470626308961 : True := trivial
theorem hdt.tw9679426704129607791 : True := trivial
theorem hdt.tw4414757183381062139 : True := trivial
theorem hdt.tw3502986553021903297 : True := trivial
theorem hdt.tw12621398166680330369 : True := trivial
theorem hdt.tw9922105100432291423 : True := trivial
theorem hdt.tw17466094040675868413 : True := trivial
theorem hdt.tw4815741894986036472 : True := trivial
theorem hdt.tw10644850770720914187 : True := trivial
theorem hdt.tw12913611996972676083 : True := trivial
theorem hdt.tw1410092903816255298 : True := trivial
theorem hdt.tw1336682840851836792 : True := trivial
theorem hdt.tw6334260653638644566 : True := trivial
theorem hdt.tw13810537356931848569 : True := trivial
theorem hdt.tw3151291549269583682 : True := trivial
theorem hdt.tw15101840664224154499 : True := trivial
theorem hdt.tw12951216218524060178 : True := trivial
theorem hdt.tw16628757899250053754 : True := trivial
theorem hdt.tw14531817694371012799 : True := trivial
theorem hdt.tw73099833642386783 : True := trivial
theorem hdt.tw10558467484936095506 : True := trivial
theorem hdt.tw16681187237254700273 : True := trivial
theorem hdt.tw11358700553353548579 : True := trivial
theorem hdt.tw2256706993110781399 : True := trivial
theorem hdt.tw8093930294547183360 : True := trivial
theorem hdt.tw4244943970505970320 : True := trivial
theorem hdt.tw229123241756187279 : True := trivial
theorem hdt.tw5257806859103782728 : True := trivial
theorem hdt.tw11540481487325672218 : True := trivial
theorem hdt.tw15342476243393260122 : True := trivial
theorem hdt.tw5311740516911151877 : True := trivial
theorem hdt.tw15817772433191290277 : True := trivial
theorem hdt.tw14939864756754051582 : True := trivial
theorem hdt.tw1429714897770511499 : True := trivial
theorem hdt.tw1895688742795484308 : True := trivial
theorem hdt.tw9111539613547090683 : True := trivial
theorem hdt.tw49485687880334148 : True := trivial
theorem hdt.tw13736411059995233358 : True := trivial
theorem hdt.tw4730570333029414236 : True := trivial
theorem hdt.tw6960094246764544463 : True := trivial
theorem hdt.tw10534831528515363669 : True := trivial
theorem hdt.tw6648553934989115881 : True := trivial
theorem hdt.tw14120707406579813946 : True := trivial
theorem hdt.tw5674076563627410454 : True := trivial
theorem hdt.tw17920526685447241844 : True := trivial
theorem hdt.tw16264253449984496327 : True := trivial
theorem hdt.tw17747322286274029532 : True := trivial
theorem hdt.tw17926219666801316728 : True := trivial
theorem hdt.tw14709088703150687941 : True := trivial
theorem hdt.tw4316718461687784830 : True := trivial
theorem hdt.tw14547428867581972282 : True := trivial
theorem hdt.tw9632855366598508146 : True := trivial
theorem hdt.tw323095460407947065 : True := trivial
theorem hdt.tw8117847380146684066 : True := trivial
theorem hdt.tw12956744299583275025 : True := trivial
theorem hdt.tw260606643520988758 : True := trivial
theorem hdt.tw17804939619767336429 : True := trivial
theorem hdt.tw1252678278347290380 : True := trivial
theorem hdt.tw16402751115946149351 : True := trivial
theorem hdt.tw14376068785085762854 : True := trivial
theorem hdt.tw5069105059886793922 : True := trivial
theorem hdt.tw14990256341793523017 : True := trivial
theorem hdt.tw11881842144005637424 : True := trivial
theorem hdt.tw2046341123431770933 : True := trivial
theorem hdt.tw11201337906993094947 : True := trivial
theorem hdt.tw7944265231755455380 : True := trivial
theorem hdt.tw2931441986335334570 : True := trivial
theorem hdt.tw17508364177633516789 : True := trivial
theorem hdt.tw10132384418769336875 : True := trivial
theorem hdt.tw4122809455765410431 : True := trivial
theorem hdt.tw11041652292898895256 : True := trivial
theorem hdt.tw17978763228049858409 : True := trivial
theorem hdt.tw15759024798918132803 : True := trivial
theorem hdt.tw1500930663237138583 : True := trivial
theorem hdt.tw15513883048201685909 : True := trivial
theorem hdt.tw3052372200289899719 : True := trivial
theorem hdt.tw12835906564617044307 : True := trivial
theorem hdt.tw2122242873311966800 : True := trivial
theorem hdt.tw1576947117417884249 : True := trivial
theorem hdt.tw11827383418941531108 : True := trivial
theorem hdt.tw12254577318200475557 : True := trivial
theorem hdt.tw18068829784300613424 : True := trivial
theorem hdt.tw12477135730679627810 : True := trivial
theorem hdt.tw2762516651206476857 : True := trivial
theorem hdt.tw5229870491455883932 : True := trivial
theorem hdt.tw13052337155274520940 : True := trivial
theorem hdt.tw250890148306906725 : True := trivial
theorem hdt.tw14238678365805399146 : True := trivial
theorem hdt.tw17953049671932259932 : True := trivial
theorem hdt.tw17150247017325261930 : True := trivial
theorem hdt.tw8154392990283649421 : True := trivial
theorem hdt.tw13092219786025285634 : True := trivial
theorem hdt.tw8735794780864527113 : True := trivial
theorem hdt.tw13745217460907866556 : True := trivial
theorem hdt.tw17877140402038898030 : True := trivial
theorem hdt.tw15185721521811419800 : True := trivial
theorem hdt.tw14739885945914616544 : True := trivial
theorem hdt.tw2664914127406093261 : True := trivial
theorem hdt.tw5304172371275796546 : True := trivial
theorem hdt.tw8043272933036665577 : True := trivial
theorem hdt.tw8172357345088777702 : True := trivial
theorem hdt.tw12733713402875723797 : True := trivial
theorem hdt.tw8518426139082293976 : True := trivial
theorem hdt.tw9659841653751678234 : True := trivial
theorem hdt.tw7307244022191430097 : True := trivial
theorem hdt.tw13514021954281316163 : True := trivial
theorem hdt.tw1633694920801555714 : True := trivial
theorem hdt.tw14792095335136078542 : True := trivial
theorem hdt.tw14758892391256388677 : True := trivial
theorem hdt.tw2351292446667747373 : True := trivial
theorem hdt.tw5605229371125116550 : True := trivial
theorem hdt.tw8394094210506832002 : True := trivial
theorem hdt.tw15127593101904820222 : True := trivial
theorem hdt.tw15346477444051545866 : True := trivial
theorem hdt.tw5272379165548127693 : True := trivial
theorem hdt.tw3096301892764619056 : True := trivial
theorem hdt.tw3851227303368591812 : True := trivial
theorem hdt.tw661489888577050465 : True := trivial
theorem hdt.tw14123296541079317262 : True := trivial
theorem hdt.tw5706433497439952791 : True := trivial
theorem hdt.tw2378352731095060086 : True := trivial
theorem hdt.tw8152039583601612378 : True := trivial
theorem hdt.tw18008745770219336522 : True := trivial
theorem hdt.tw17357388934962063288 : True := trivial
theorem hdt.tw978376810650537879 : True := trivial
theorem hdt.tw4921523317784283786 : True := trivial
theorem hdt.tw14826248119786469449 : True := trivial
theorem hdt.tw2505929560394549780 : True := trivial
theorem hdt.tw16846830637228161174 : True := trivial
theorem hdt.tw5945749499115318701 : True := trivial
theorem hdt.tw4284334296770300457 : True := trivial
theorem hdt.tw9939628613966972565 : True := trivial
theorem hdt.tw17168191486616100183 : True := trivial
theorem hdt.tw18412034976592031124 : True := trivial
theorem hdt.tw10880457333839718442 : True := trivial
theorem hdt.tw15927065722449096752 : True := trivial
theorem hdt.tw11120950303676031809 : True := trivial
theorem hdt.tw4780357223855131144 : True := trivial
theorem hdt.tw17976029788348041643 : True := trivial
theorem hdt.tw17073949295363859569 : True := trivial
theorem hdt.tw15378655031248674312 : True := trivial
theorem hdt.tw1723689406805814403 : True := trivial
theorem hdt.tw1853010957248299947 : True := trivial
theorem hdt.tw556652296897640617 : True := trivial
theorem hdt.tw15118166400320611094 : True := trivial
theorem hdt.tw11439959099483759285 : True := trivial
theorem hdt.tw8349691660318677276 : True := trivial
theorem hdt.tw6131301972355907716 : True := trivial
theorem hdt.tw7092249733877616004 : True := trivial
theorem hdt.tw4158748719221536101 : True := trivial
theorem hdt.tw2343644504473875709 : True := trivial
theorem hdt.tw8320512978997434011 : True := trivial
theorem hdt.tw13005359220616883869 : True := trivial
theorem hdt.tw17658139949895264935 : True := trivial
theorem hdt.tw10322846668704826147 : True := trivial
theorem hdt.tw14298937284289053633 : True := trivial
theorem hdt.tw10841751979338420519 : True := trivial
theorem hdt.tw15588730085593630490 : True := trivial
theorem hdt.tw6602788716289469749 : True := trivial
theorem hdt.tw5490429362115179628 : True := trivial
theorem hdt.tw6721301914449834280 : True := trivial
theorem hdt.tw875718980001218081 : True := trivial
theorem hdt.tw8344851943138046002 : True := trivial
theorem hdt.tw18422490085510463867 : True := trivial
theorem hdt.tw4017990960007664976 : True := trivial
theorem hdt.tw182206314658415430 : True := trivial
theorem hdt.tw16307444879200901484 : True := trivial
theorem hdt.tw12347592399009768686 : True := trivial
theorem hdt.tw11825710720958916821 : True := trivial
theorem hdt.tw12926172207339792353 : True := trivial
theorem hdt.tw16043692395111818890 : True := trivial
theorem hdt.tw1866394104613389727 : True := trivial
theorem hdt.tw14929157558347334512 : True := trivial
theorem hdt.tw16420744706771913676 : True := trivial
theorem hdt.tw13431185827344377743 : True := trivial
theorem hdt.tw15697072123965442992 : True := trivial
theorem hdt.tw5094670988864052284 : True := trivial
theorem hdt.tw8140675541783928153 : True := trivial
theorem hdt.tw15199452361516446270 : True := trivial
theorem hdt.tw14900244850617417434 : True := trivial
theorem hdt.tw4819563109920655688 : True := trivial
theorem hdt.tw8514182389698681033 : True := trivial
theorem hdt.tw9553804974489358629 : True := trivial
theorem hdt.tw595606034257336879 : True := trivial
theorem hdt.tw10173270642737513478 : True := trivial
theorem hdt.tw713105881310012446 : True := trivial
theorem hdt.tw5359721544810153743 : True := trivial
theorem hdt.tw17909932127034040807 : True := trivial
theorem hdt.tw10412362852197320453 : True := trivial
theorem hdt.tw8990022907883573277 : True := trivial
theorem hdt.tw13410087497340920445 : True := trivial
theorem hdt.tw4030236075379764393 : True := trivial
theorem hdt.tw13628301587863927421 : True := trivial
theorem hdt.tw11173211501454554888 : True := trivial
theorem hdt.tw13585045478038767066 : True := trivial
theorem hdt.tw7313595013970338535 : True := trivial
theorem hdt.tw2789530542297319870 : True := trivial
theorem hdt.tw4872112672076010403 : True := trivial
theorem hdt.tw14169150685390581207 : True := trivial
theorem hdt.tw12620107154192817859 : True := trivial
theorem hdt.tw7199143553427428272 : True := trivial
theorem hdt.tw4855459858339973923 : True := trivial
theorem hdt.tw8239011419326963098 : True := trivial
theorem hdt.tw685228399463357883 : True := trivial
theorem hdt.tw7187276449990992141 : True := trivial
theorem hdt.tw17523341569925065242 : True := trivial
theorem hdt.tw6284775102597453388 : True := trivial
theorem hdt.tw16390715079322240616 : True := trivial
theorem hdt.tw11256207489403853351 : True := trivial
theorem hdt.tw11864908613767255009 : True := trivial
theorem hdt.tw11190014275392728368 : True := trivial
theorem hdt.tw7076257198086498158 : True := trivial
theorem hdt.tw15845995568656430277 : True := trivial
theorem hdt.tw6259992087831232023 : True := trivial
theorem hdt.tw17932163848615652808 : True := trivial
theorem hdt.tw3343671220882660715 : True := trivial
theorem hdt.tw12391008091579174498 : True := trivial
theorem hdt.tw14223431271503483149 : True := trivial
theorem hdt.tw9016285006078252999 : True := trivial
theorem hdt.tw13203072154628739393 : True := trivial
theorem hdt.tw3355914833165501739 : True := trivial
theorem hdt.tw16411082485398577684 : True := trivial
theorem hdt.tw17346074446321580486 : True := trivial
theorem hdt.tw3339417788859420024 : True := trivial
theorem hdt.tw12340354901822058538 : True := trivial
theorem hdt.tw7638363110176571915 : True := trivial
theorem hdt.tw8558172187100100590 : True := trivial
theorem hdt.tw2425194110457142586 : True := trivial
theorem hdt.tw2025708663598762777 : True := trivial
theorem hdt.tw17026811440855088173 : True := trivial
theorem hdt.tw9250726230517271831 : True := trivial
theorem hdt.tw2354812521305714943 : True := trivial
theorem hdt.tw7658413771476660330 : True := trivial
theorem hdt.tw4316419143707918979 : True := trivial
theorem hdt.tw14161737122776473462 : True := trivial
theorem hdt.tw15618592665930958470 : True := trivial
theorem hdt.tw2173446479924390606 : True := trivial
theorem hdt.tw4938986753091596158 : True := trivial
theorem hdt.tw2699572890159094764 : True := trivial
theorem hdt.tw13853204190988450321 : True := trivial
theorem hdt.tw15640326556340931485 : True := trivial
theorem hdt.tw16929644640025399588 : True := trivial
theorem hdt.tw17510539505009482161 : True := trivial
theorem hdt.tw17158697065377433392 : True := trivial
theorem hdt.tw7573486879151706798 : True := trivial
theorem hdt.tw18243683899736469358 : True := trivial
theorem hdt.tw13124625036314124798 : True := trivial
theorem hdt.tw11241714576191161115 : True := trivial
theorem hdt.tw15168247305275138715 : True := trivial
theorem hdt.tw727917360005320316 : True := trivial
theorem hdt.tw7199795328196519810 : True := trivial
theorem hdt.tw2601456299788553050 : True := trivial
theorem hdt.tw2760970227958656232 : True := trivial
theorem hdt.tw15106672725436134194 : True := trivial
theorem hdt.tw2503801630733369885 : True := trivial
theorem hdt.tw6223840668449836099 : True := trivial
theorem hdt.tw17685629738153243977 : True := trivial
theorem hdt.tw15149250619275936442 : True := trivial
theorem hdt.tw8457350052726468843 : True := trivial
theorem hdt.tw17890400330047950451 : True := trivial
theorem hdt.tw16415668937994828449 : True := trivial
theorem hdt.tw16119366219570714961 : True := trivial
theorem hdt.tw197099685509454657 : True := trivial
theorem hdt.tw15935774782544823793 : True := trivial
theorem hdt.tw4125061749113534581 : True := trivial
theorem hdt.tw220162123379504816 : True := trivial
theorem hdt.tw1656967188031180423 : True := trivial
theorem hdt.tw8572236473085368605 : True := trivial
theorem hdt.tw5027806087443608838 : True := trivial
theorem hdt.tw10005892820204339554 : True := trivial
theorem hdt.tw18332164549655796394 : True := trivial
theorem hdt.tw4029829475312538164 : True := trivial
theorem hdt.tw10918770033447413057 : True := trivial
theorem hdt.tw12676645584317708845 : True := trivial
theorem hdt.tw6412875522394668606 : True := trivial
theorem hdt.tw8011047956960260169 : True := trivial
theorem hdt.tw14011190980662403918 : True := trivial
theorem hdt.tw11190198980782374039 : True := trivial
theorem hdt.tw5260581807049231300 : True := trivial
theorem hdt.tw17607589276721756044 : True := trivial
theorem hdt.tw4161731983438332276 : True := trivial
theorem hdt.tw10730076744959737489 : True := trivial
theorem hdt.tw4036151924077002484 : True := trivial
theorem hdt.tw381499740246893644 : True := trivial
theorem hdt.tw8120455659003855646 : True := trivial
theorem hdt.tw6421520657916885490 : True := trivial
theorem hdt.tw12566353870880087317 : True := trivial
theorem hdt.tw34228994030504941 : True := trivial
theorem hdt.tw1340040786421638910 : True := trivial
theorem hdt.tw15292288372223732575 : True := trivial
theorem hdt.tw7022394540535618700 : True := trivial
theorem hdt.tw8984201064092694237 : True := trivial
theorem hdt.tw11247954344232850669 : True := trivial
theorem hdt.tw5427079956146287538 : True := trivial
theorem hdt.tw11584144493120776403 : True := trivial
theorem hdt.tw8547617858624372127 : True := trivial
theorem hdt.tw1354389671378709460 : True := trivial
theorem hdt.tw17874453368737149459 : True := trivial
theorem hdt.tw16909854263536704928 : True := trivial
theorem hdt.tw7311223268958487422 : True := trivial
theorem hdt.tw4948302850907088670 : True := trivial
theorem hdt.tw15114111739479173586 : True := trivial
theorem hdt.tw17616381460268313517 : True := trivial
theorem hdt.tw6650115099875075364 : True := trivial
theorem hdt.tw2110883078258090755 : True := trivial
theorem hdt.tw11096438244548078630 : True := trivial
theorem hdt.tw3256469283660071988 : True := trivial
theorem hdt.tw18250396979868772516 : True := trivial
theorem hdt.tw724354126890294235 : True := trivial
theorem hdt.tw5174387776828958532 : True := trivial
theorem hdt.tw9259230268018376623 : True := trivial
theorem hdt.tw11340146952879021535 : True := trivial
theorem hdt.tw13719068523771309039 : True := trivial
theorem hdt.tw14775018690572565127 : True := trivial
theorem hdt.tw17315440796718147349 : True := trivial
theorem hdt.tw14798945923729711191 : True := trivial
theorem hdt.tw9600623123165744019 : True := trivial
theorem hdt.tw9645375572430121540 : True := trivial
theorem hdt.tw13590010357540430553 : True := trivial
theorem hdt.tw8931727100322199268 : True := trivial
theorem hdt.tw15693983657704514361 : True := trivial
theorem hdt.tw11514715258652323935 : True := trivial
theorem hdt.tw6267827464360346717 : True := trivial
theorem hdt.tw4045842763501079984 : True := trivial
theorem hdt.tw17761856902435710805 : True := trivial
theorem hdt.tw18344324087116267445 : True := trivial
theorem hdt.tw412625543088452291 : True := trivial
theorem hdt.tw5693553248585049858 : True := trivial
theorem hdt.tw14970235489317205938 : True := trivial
theorem hdt.tw3536971613165383687 : True := trivial
theorem hdt.tw14396212805911958167 : True := trivial
theorem hdt.tw15314519845206452497 : True := trivial
theorem hdt.tw11534854814534713351 : True := trivial
theorem hdt.tw673810904520384477 : True := trivial
theorem hdt.tw16632546572302764375 : True := trivial
theorem hdt.tw8783907501043894982 : True := trivial
theorem hdt.tw13212148610596152796 : True := trivial
theorem hdt.tw4885607968054769916 : True := trivial
theorem hdt.tw17806191473233053122 : True := trivial
theorem hdt.tw1610867068657327679 : True := trivial
theorem hdt.tw1967467690813159602 : True := trivial
theorem hdt.tw14391663236936452395 : True := trivial
theorem hdt.tw10918212882952324757 : True := trivial
theorem hdt.tw11110519815251578610 : True := trivial
theorem hdt.tw7076819437634466445 : True := trivial
theorem hdt.tw16446738550905723065 : True := trivial
theorem hdt.tw15635202755741999239 : True := trivial
theorem hdt.tw7052266047974777203 : True := trivial
theorem hdt.tw2076769488389727337 : True := trivial
theorem hdt.tw8741993924136317911 : True := trivial
theorem hdt.tw12262035977067896662 : True := trivial
theorem hdt.tw5525871127122585007 : True := trivial
theorem hdt.tw15835980494897997703 : True := trivial
theorem hdt.tw2519825649286622959 : True := trivial
theorem hdt.tw16729226196435285558 : True := trivial
theorem hdt.tw6646050394018949433 : True := trivial
theorem hdt.tw8581540014190612464 : True := trivial
theorem hdt.tw13009787184653423585 : True := trivial
theorem hdt.tw11842841164469362251 : True := trivial
theorem hdt.tw18084150980398109568 : True := trivial
theorem hdt.tw8645216178044435152 : True := trivial
theorem hdt.tw10722320416828037261 : True := trivial
theorem hdt.tw18239476410449360559 : True := trivial
theorem hdt.tw10959703560658948448 : True := trivial
theorem hdt.tw6614766176723519188 : True := trivial
theorem hdt.tw2493952054214503446 : True := trivial
theorem hdt.tw10121534522101891385 : True := trivial
theorem hdt.tw10168924400818237153 : True := trivial
theorem hdt.tw241765914816732381 : True := trivial
theorem hdt.tw7699974358588946851 : True := trivial
theorem hdt.tw201304554142839650 : True := trivial
theorem hdt.tw16932604483554909043 : True := trivial
theorem hdt.tw9169210272722082289 : True := trivial
theorem hdt.tw490409550682064798 : True := trivial
theorem hdt.tw4640148145229746227 : True := trivial
theorem hdt.tw7474732739285940119 : True := trivial
theorem hdt.tw1266894947162051923 : True := trivial
theorem hdt.tw18399341961001707207 : True := trivial
theorem hdt.tw13596715849201917437 : True := trivial
theorem hdt.tw9807288602939173792 : True := trivial
theorem hdt.tw15089296793601894028 : True := trivial
theorem hdt.tw2575424573350463959 : True := trivial
theorem hdt.tw2623256440278337749 : True := trivial
theorem hdt.tw6631690042164297302 : True := trivial
theorem hdt.tw2176700625286334033 : True := trivial
theorem hdt.tw1753225999374978000 : True := trivial
theorem hdt.tw12082262006787921407 : True := trivial
theorem hdt.tw15691798293652761809 : True := trivial
theorem hdt.tw10870131769351093430 : True := trivial
theorem hdt.tw455599194669293307 : True := trivial
theorem hdt.tw12359307418860959932 : True := trivial
theorem hdt.tw11445777936653432078 : True := trivial
theorem hdt.tw17880621454357061066 : True := trivial
theorem hdt.tw10724957787268442298 : True := trivial
theorem hdt.tw13811821525608821520 : True := trivial
theorem hdt.tw16780769997561888148 : True := trivial
theorem hdt.tw9177469335365624754 : True := trivial
theorem hdt.tw15988305023582930559 : True := trivial
theorem hdt.tw12368625079834351489 : True := trivial
theorem hdt.tw12692553763049283433 : True := trivial
theorem hdt.tw5525298103567357173 : True := trivial
theorem hdt.tw9628197230346324475 : True := trivial
theorem hdt.tw2292391489721825810 : True := trivial
theorem hdt.tw11645289039604205180 : True := trivial
theorem hdt.tw8792189849339016738 : True := trivial
theorem hdt.tw2473526392248304421 : True := trivial
theorem hdt.tw14939072066158864162 : True := trivial
theorem hdt.tw17627376210001755881 : True := trivial
theorem hdt.tw7372594688227595103 : True := trivial
theorem hdt.tw15291619573413790148 : True := trivial
theorem hdt.tw667371229319710943 : True := trivial
theorem hdt.tw9003307223967645557 : True := trivial
theorem hdt.tw6182617207669457715 : True := trivial
theorem hdt.tw815139786151167310 : True := trivial
theorem hdt.tw17520998378803642930 : True := trivial
theorem hdt.tw2041234896405219875 : True := trivial
theorem hdt.tw4232522363724161351 : True := trivial
theorem hdt.tw11183039565758762462 : True := trivial
theorem hdt.tw5205594419401871689 : True := trivial
theorem hdt.tw3524260361491893325 : True := trivial
theorem hdt.tw6131970644072037523 : True := trivial
theorem hdt.tw18247484244024441196 : True := trivial
theorem hdt.tw15504437644249172748 : True := trivial
theorem hdt.tw3899015496845222209 : True := trivial
theorem hdt.tw7627950976691239694 : True := trivial
theorem hdt.tw16226241867126235845 : True := trivial
theorem hdt.tw9025345692558884441 : True := trivial
theorem hdt.tw4214574975730971641 : True := trivial
theorem hdt.tw1540506236946359380 : True := trivial
theorem hdt.tw1328648961964318817 : True := trivial
theorem hdt.tw12346290180287057822 : True := trivial
theorem hdt.tw980790314388836741 : True := trivial
theorem hdt.tw17669702566704884829 : True := trivial
theorem hdt.tw15800690092825786293 : True := trivial
theorem hdt.tw16256267987557179588 : True := trivial
theorem hdt.tw237468450544911881 : True := trivial
theorem hdt.tw1443753362327307980 : True := trivial
theorem hdt.tw9676659925971583205 : True := trivial
theorem hdt.tw876924118817743874 : True := trivial
theorem hdt.tw3550164798806531697 : True := trivial
theorem hdt.tw3525123319427896389 : True := trivial
theorem hdt.tw13044642621299823033 : True := trivial
theorem hdt.tw4636518922824536747 : True := trivial
theorem hdt.tw788892794324696064 : True := trivial
theorem hdt.tw10519775449183423229 : True := trivial
theorem hdt.tw17172488054437885417 : True := trivial
theorem hdt.tw6144953097709694472 : True := trivial
theorem hdt.tw2428496346526238287 : True := trivial
theorem hdt.tw11498224921122875979 : True := trivial
theorem hdt.tw5623790562149686328 : True := trivial
theorem hdt.tw6613160677219600617 : True := trivial
theorem hdt.tw6735812691530943235 : True := trivial
theorem hdt.tw11129602302402005010 : True := trivial
theorem hdt.tw13078727652810511208 : True := trivial
theorem hdt.tw12652454664841260344 : True := trivial
theorem hdt.tw1839681294659969856 : True := trivial
theorem hdt.tw14417620472542428303 : True := trivial
theorem hdt.tw13200968790681193602 : True := trivial
theorem hdt.tw540758199891915788 : True := trivial
theorem hdt.tw18098408847994698404 : True := trivial
theorem hdt.tw1935619439900265409 : True := trivial
theorem hdt.tw5085203695591332866 : True := trivial
theorem hdt.tw14408898307650532576 : True := trivial
theorem hdt.tw17693941159677038821 : True := trivial
theorem hdt.tw5823052643279266835 : True := trivial
theorem hdt.tw1841327683707701777 : True := trivial
theorem hdt.tw6148977660858139868 : True := trivial
theorem hdt.tw13783591439554874915 : True := trivial
theorem hdt.tw3782544844372911091 : True := trivial
theorem hdt.tw17779615721408437544 : True := trivial
theorem hdt.tw7962448336688207445 : True := trivial
theorem hdt.tw11249136418302122987 : True := trivial
theorem hdt.tw18271573475873964916 : True := trivial
theorem hdt.tw9286628879428226710 : True := trivial
theorem hdt.tw17446396023914894523 : True := trivial
theorem hdt.tw10272326432249758858 : True := trivial
theorem hdt.tw3194295176282216540 : True := trivial
theorem hdt.tw1502296355365072878 : True := trivial
theorem hdt.tw17675352714950023331 : True := trivial
theorem hdt.tw10035893509705668839 : True := trivial
theorem hdt.tw12400595211847989738 : True := trivial
theorem hdt.tw10920488630192221949 : True := trivial
theorem hdt.tw11547482554431396683 : True := trivial
theorem hdt.tw15481225588112050978 : True := trivial
theorem hdt.tw3542210438252739439 : True := trivial
theorem hdt.tw17662457598363590933 : True := trivial
theorem hdt.tw3662707765424024521 : True := trivial
theorem hdt.tw2097859667900069319 : True := trivial
theorem hdt.tw8854302262530829180 : True := trivial
theorem hdt.tw5218726430420134609 : True := trivial
theorem hdt.tw12151401278980445566 : True := trivial
theorem hdt.tw5780955736310080566 : True := trivial
theorem hdt.tw11681612391955289668 : True := trivial
theorem hdt.tw7989360655941159592 : True := trivial
theorem hdt.tw9250007604573523340 : True := trivial
theorem hdt.tw18046715305428777359 : True := trivial
theorem hdt.tw11714654350227367594 : True := trivial
theorem hdt.tw9600055600371751649 : True := trivial
theorem hdt.tw3864335855558895694 : True := trivial
theorem hdt.tw12715462322536335014 : True := trivial
theorem hdt.tw2396923989693255704 : True := trivial
theorem hdt.tw4223277532885688992 : True := trivial
theorem hdt.tw16480231333177772460 : True := trivial
theorem hdt.tw10045817681046751561 : True := trivial
theorem hdt.tw11608599148832745442 : True := trivial
theorem hdt.tw7413507549719118332 : True := trivial
theorem hdt.tw1214106207160380506 : True := trivial
theorem hdt.tw1043976341553233037 : True := trivial
theorem hdt.tw809358161523478734 : True := trivial
theorem hdt.tw10419680032441090263 : True := trivial
theorem hdt.tw9955117531112845717 : True := trivial
theorem hdt.tw16014416163222048831 : True := trivial
theorem hdt.tw1233715623494426535 : True := trivial
theorem hdt.tw5108218234624016313 : True := trivial
theorem hdt.tw12021308103272412240 : True := trivial
theorem hdt.tw10045838353694330659 : True := trivial
theorem hdt.tw4367269142121399261 : True := trivial
theorem hdt.tw13667766067987904650 : True := trivial
theorem hdt.tw9611114708800518177 : True := trivial
theorem hdt.tw14368388335983427487 : True := trivial
theorem hdt.tw4006918210289050095 : True := trivial
theorem hdt.tw11846981011700027038 : True := trivial
theorem hdt.tw536983305217463874 : True := trivial
theorem hdt.tw18005498095058480058 : True := trivial
theorem hdt.tw12996634211035950675 : True := trivial
theorem hdt.tw5361861827396915973 : True := trivial
theorem hdt.tw3069778245894144459 : True := trivial
theorem hdt.tw6213472512363493252 : True := trivial
theorem hdt.tw16510036181568572747 : True := trivial
theorem hdt.tw17048989524434483274 : True := trivial
theorem hdt.tw16912420951489822959 : True := trivial
theorem hdt.tw9711804655562598134 : True := trivial
theorem hdt.tw858258685208221740 : True := trivial
theorem hdt.tw13250029706696936552 : True := trivial
theorem hdt.tw1250323263153438605 : True := trivial
theorem hdt.tw1452706913319262786 : True := trivial
theorem hdt.tw17014679215597119734 : True := trivial
theorem hdt.tw4590813756928144943 : True := trivial
theorem hdt.tw11399723207527131292 : True := trivial
theorem hdt.tw208457476318647505 : True := trivial
theorem hdt.tw5912255781856801321 : True := trivial
theorem hdt.tw13503128998251657188 : True := trivial
theorem hdt.tw12886493424938934863 : True := trivial
theorem hdt.tw1741888966603593153 : True := trivial
theorem hdt.tw17617232445410097550 : True := trivial
theorem hdt.tw18045995654092982842 : True := trivial
theorem hdt.tw13098229378433820129 : True := trivial
theorem hdt.tw6117826109477492797 : True := trivial
theorem hdt.tw3825817140498678130 : True := trivial
theorem hdt.tw1826679678773694458 : True := trivial
theorem hdt.tw14674505102960085578 : True := trivial
theorem hdt.tw5669838045274529887 : True := trivial
theorem hdt.tw11324871905924355607 : True := trivial
theorem hdt.tw8731816933506304791 : True := trivial
theorem hdt.tw12842886783143826185 : True := trivial
theorem hdt.tw10605266463223437570 : True := trivial
theorem hdt.tw11788910223704947019 : True := trivial
theorem hdt.tw12346926189752210911 : True := trivial
theorem hdt.tw17900566919355076800 : True := trivial
theorem hdt.tw8436322583501893700 : True := trivial
theorem hdt.tw2754351280943786980 : True := trivial
theorem hdt.tw3145538263539630097 : True := trivial
theorem hdt.tw10330647541615393952 : True := trivial
theorem hdt.tw8322776611512535221 : True := trivial
theorem hdt.tw9868626416427064164 : True := trivial
theorem hdt.tw8209890926223313662 : True := trivial
theorem hdt.tw3643209794141075674 : True := trivial
theorem hdt.tw3314107470023710780 : True := trivial
theorem hdt.tw15355985605339329450 : True := trivial
theorem hdt.tw16715431482971726604 : True := trivial
theorem hdt.tw17276210079022340724 : True := trivial
theorem hdt.tw1533184810354592712 : True := trivial
theorem hdt.tw8999085383059022184 : True := trivial
theorem hdt.tw4796581146074434489 : True := trivial
theorem hdt.tw11371199557885077231 : True := trivial
theorem hdt.tw3277716463396537369 : True := trivial
theorem hdt.tw16539128582954124477 : True := trivial
theorem hdt.tw2597718041353201496 : True := trivial
theorem hdt.tw6627659678919028858 : True := trivial
theorem hdt.tw17492096252389791012 : True := trivial
theorem hdt.tw7890535261721610939 : True := trivial
theorem hdt.tw6887301270381144657 : True := trivial
theorem hdt.tw7964425371048484841 : True := trivial
theorem hdt.tw5264169547527443216 : True := trivial
theorem hdt.tw7380292800293469847 : True := trivial
theorem hdt.tw8530638163367445426 : True := trivial
theorem hdt.tw15025127016867216397 : True := trivial
theorem hdt.tw8302052130160836622 : True := trivial
theorem hdt.tw11257246569966162185 : True := trivial
theorem hdt.tw1649458700271770759 : True := trivial
theorem hdt.tw3774434772187580548 : True := trivial
theorem hdt.tw16425553542525476770 : True := trivial
theorem hdt.tw7579288706813213954 : True := trivial
theorem hdt.tw8870217235230307278 : True := trivial
theorem hdt.tw9585018222383318911 : True := trivial
theorem hdt.tw13509145828565543899 : True := trivial
theorem hdt.tw9216675529670786351 : True := trivial
theorem hdt.tw13478762735888589883 : True := trivial
theorem hdt.tw6526893376241596343 : True := trivial
theorem hdt.tw12436083778578836207 : True := trivial
theorem hdt.tw4566579179318193115 : True := trivial
theorem hdt.tw5378542667347050172 : True := trivial
theorem hdt.tw10161340113697902502 : True := trivial
theorem hdt.tw4700431074375764115 : True := trivial
theorem hdt.tw16117400202631264545 : True := trivial
theorem hdt.tw7231885264523170288 : True := trivial
theorem hdt.tw8738041960660924313 : True := trivial
theorem hdt.tw6221865279929460135 : True := trivial
theorem hdt.tw8548186755430648995 : True := trivial
theorem hdt.tw11022402359564294864 : True := trivial
theorem hdt.tw4233145376465344645 : True := trivial
theorem hdt.tw16148661994200442615 : True := trivial
theorem hdt.tw8294030146193680826 : True := trivial
theorem hdt.tw403911337237083042 : True := trivial
theorem hdt.tw15821763819476817470 : True := trivial
theorem hdt.tw11799342027646822458 : True := trivial
theorem hdt.tw6129658574170130437 : True := trivial
theorem hdt.tw11960626949437419885 : True := trivial
theorem hdt.tw15133977170261991514 : True := trivial
theorem hdt.tw5254351237956460564 : True := trivial
theorem hdt.tw1004318993889547843 : True := trivial
theorem hdt.tw3244993019898895754 : True := trivial
theorem hdt.tw7664783628446000748 : True := trivial
theorem hdt.tw16867570670233133157 : True := trivial
theorem hdt.tw14536616842055093619 : True := trivial
theorem hdt.tw14774945908914511116 : True := trivial
theorem hdt.tw16959228027770897626 : True := trivial
set_option Elab.async true
set_option maxRecDepth 100000 in
set_option maxHeartbeats 8000000 in
theorem hdt : PySem.Challenge.rw_qd0112_01.Holds := by
  (w_on; o_law; k_head; (case hw => w_witness2))
  intro w s₀ s₁ mg mb G Y fa o pm cd doc dV kV ho hd hcd hD hmg hg args vals as hpre hlay hrd hwl hlo
  have KX := kIn_of Y
  refine Ground.open G ?_
  intro T B D TE TW
  clear hd hcd hD Y
  wrow_args hpre hlay hrd hwl hlo
  rename_i xs _ _ _ _ _ _ _ l vs _ hL _ _ _ hI _ hlen _
  exact theWalk (topRead_of T) KX hmg hg hL hI (by omega)
end Mine
theorem PySem.Challenge.cw_qd0112_01_holds : PySem.Challenge.rw_qd0112_01.Holds :=
  Mine.hdt
