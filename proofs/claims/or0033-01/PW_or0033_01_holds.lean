import PyProof.Rows.All
import Wide.All
import OpenK.AllK
import Wide.FinOn
import Lean
import PySem.Challenge.RW_or0033_01
open PySem PySem.W PyProof.Rows PySem.Calls
set_option Elab.async false
set_option linter.unusedVariables false
namespace Mine
set_option compiler.extract_closed false
set_option maxRecDepth 100000
set_option rowWalk.seconds 0
set_option maxHeartbeats 8000000 in
open_top hd for PySem.Challenge.rw_or0033_01
set_option maxHeartbeats 16000000
theorem off_head : True := by w_top off; trivial
/- MA -/

noncomputable abbrev prg := PySem.Challenge.pw_or0033_01
noncomputable abbrev loosed := looseW hd.view_39 [Str.ofString "PostError", Str.ofString "read_spans", Str.ofString "read_fields"]

/-- what the top left stands in this heap -/
structure Wd (w : World) (mean : ExcName → Option Value) (mg mb : Str → Option Value) (h : Heap) : Prop where
  K : (hd.heap_39 w.params).In h
  T : Top hd.view_39 loosed mean mg mb h

abbrev Grow (h h' : Heap) : Prop := ∀ b o, h.get? b = some o → h'.get? b = some o

theorem Wd.grow {w : World} {mean : ExcName → Option Value} {mg mb : Str → Option Value} {h h' : Heap} (X : Wd w mean mg mb h) (k : Grow h h') : Wd w mean mg mb h' := ⟨X.K.keeps k, X.T.keeps k⟩

/-- no exception is being handled, and there is room for n more frames -/
structure Room (A : Around) (n : Nat) : Prop where
  handled : A.handled = none
  depth : A.depth + n < recursionLimit
  units : A.units + 8 * n < cLine

theorem Room.deeper {A : Around} {n : Nat} {env : Env} (r : Room A (n + 1)) : Room (A.deeper env) n := ⟨r.handled, by show A.depth + 1 + n < _; have := r.depth; omega, by show A.units + 3 + 8 * n < _; have := r.units; omega⟩
theorem Room.less {A : Around} {n : Nat} (r : Room A (n + 1)) : Room A n := ⟨r.handled, by have := r.depth; omega, by have := r.units; omega⟩

section
variable {w : World} {mean : ExcName → Option Value} {mg mb : Str → Option Value} {A : Around} {s : Shared} {R : Result → Shared → Prop} {n : Nat}
  {name qual : Str} {params : Arguments} {body : List Stmt} {scope : Scope} {dV kV doc pm cdv ct oc : Value} {an od : Option Addr} {osl : Array (Option Value)} {f : Addr} {args : Args} {binds : List (Str × Value)}

theorem enter (X : Wd w mean mg mb s.heap) (r : Room A (n + 1))
    (ho : (hd.heap_39 w.params).lookup f = some ⟨oc, od, .func (fnOf name qual params body scope dV kV doc pm an cdv ct), osl⟩) (hcd : codeIn (hd.heap_39 w.params) cdv qual = true)
    (hbind : BindsTo s (fnOf name qual params body scope dV kV doc pm an cdv ct) args binds) (hloc : ∀ x ∈ binds, scope.names.lookup x.1 = some .local)
    (h : ∀ L h₁ tk, Room (A.deeper (envOf qual scope L f cdv)) n → Fr s.heap L h₁ (fun y => binds.reverse.lookup y) → News s.heap L h₁ [] →
      wpAny (model prg w) (A.deeper (envOf qual scope L f cdv)) (execs body (envOf qual scope L f cdv))
        (fun fl s' => R (.ok (.ret (match fl with | .ret v => v | _ => .none))) s')
        (fun e s' => wpAny (model prg w) (A.deeper (envOf qual scope L f cdv)) (leaving (envOf qual scope L f cdv) e) (fun _ s'' => R (.error e) s'') (fun e' s'' => R (.error e') s'') s')
        { s with heap := h₁, toks := tk })
    (hcell : ∀ x ∈ scope.names, x.2 ≠ .cell)
    (hco : scope.isCoroutine = false) (hgen : scope.isGenerator = false) (hk : scope.kind = .function) :
    codeAny (model prg w) A (.call (.ref f) args) R s :=
  codeAny_call_def (fd := fnOf name qual params body scope dV kV doc pm an cdv ct) (body := body) (binds := binds) (by have := r.depth; omega) (X.K _ _ ho) rfl X.T.nolimit
    (codeRec_of X.K hcd) rfl hbind hcell hloc (fun h₁ hns hk₁ => h s.heap.objs.size h₁ _ r.deeper ⟨hns, hk₁, Nat.le_refl _⟩ (fun _ h => nomatch h)) hco hgen hk

theorem enter_pure (X : Wd w mean mg mb s.heap) (r : Room A (n + 1))
    (ho : (hd.heap_39 w.params).lookup f = some ⟨oc, od, .func (fnOf name qual params body scope dV kV doc pm an cdv ct), osl⟩) (hcd : codeIn (hd.heap_39 w.params) cdv qual = true)
    (hbind : BindsTo s (fnOf name qual params body scope dV kV doc pm an cdv ct) args binds) (hloc : ∀ x ∈ binds, scope.names.lookup x.1 = some .local)
    {Q : Value → Shared → Prop} {E : Value → Shared → Prop}
    (h : ∀ L h₁ tk, Room (A.deeper (envOf qual scope L f cdv)) n → Fr s.heap L h₁ (fun y => binds.reverse.lookup y) → News s.heap L h₁ [] →
      wpAny (model prg w) (A.deeper (envOf qual scope L f cdv)) (execs body (envOf qual scope L f cdv))
        (fun fl s' => Q (match fl with | .ret v => v | _ => .none) s') (fun _ _ => False) { s with heap := h₁, toks := tk })
    (hcell : ∀ x ∈ scope.names, x.2 ≠ .cell)
    (hco : scope.isCoroutine = false) (hgen : scope.isGenerator = false) (hk : scope.kind = .function) :
    wpAny (model prg w) A (call (.ref f) args.pos args.kw) Q E s :=
  wpAny_call (enter X r ho hcd hbind hloc (fun L h₁ tk r' F N => wpAny_mono (h L h₁ tk r' F N) (fun _ _ q => q) fun _ _ x => x.elim) hcell hco hgen hk)
end

/-- a big goal is hidden behind a Prop while a hypothesis is taken apart (each casesOn carries the goal in its motive) -/
theorem hide_goal {G : Prop} (h : ∀ C : Prop, (G → C) → C) : G := h G id
/-- what is wanted behind a step, held by a name alone -/
theorem gen_post {β : Type} {M : Model} {A : Around} {t : Sem β} {Q : β → Shared → Prop} {E : Value → Shared → Prop} {s : Shared} (h : ∀ Q', Q' = Q → wpAny M A t Q' E s) : wpAny M A t Q E s := h Q rfl
theorem sub_up {n i : Nat} (h : i < n) : n - i = n - i - 1 + 1 := (Nat.sub_add_cancel (Nat.sub_pos_of_lt h)).symm
theorem min_sub (a b c : Nat) : min a (b - c) ≤ b := Nat.le_trans (Nat.min_le_right _ _) (Nat.sub_le _ _)
theorem small4 {n : Nat} (h : n ≤ 4) : n ≤ 16777216 := Nat.le_trans h (by decide)
/- MB -/
namespace By
open Builtin
theorem slot_find : Slot "bytes" "find" "bytes.find" :=
  .of (owner := "bytes") (n := "find") (by rw [typeLookup_type, builtinLookup_eq_fast]; kernel_rfl) (by decide +kernel) (by decide +kernel) (by decide +kernel)
    (by first | exact .inl (by decide +kernel) | exact .inr (by decide +kernel)) (by rw [isSubtype_type]; kernel_rfl)
theorem type_find : typeOf (.builtin "bytes.find") = pure (.type "method_descriptor") := by show builtinType _ = _; rw [builtinType_eq_fast]; kernel_rfl
theorem entry_find : entryFor table "bytes.find" = some Builtin.«bytes.find» := entryFor_of_tree (by kernel_rfl)
theorem args_find (a b c d : Value) : argsOk "bytes.find" ⟨[a, b, c, d], []⟩ := by
  unfold argsOk; rw [signature?_of (id := "bytes.find") (n := ['d', 'n', 'i', 'f']) (o := ['s', 'e', 't', 'y', 'b']) (by kernel_rfl) FB.owner_bytes]; kernel_rfl
theorem slot_split : Slot "bytes" "split" "bytes.split" :=
  .of (owner := "bytes") (n := "split") (by rw [typeLookup_type, builtinLookup_eq_fast]; kernel_rfl) (by decide +kernel) (by decide +kernel) (by decide +kernel)
    (by first | exact .inl (by decide +kernel) | exact .inr (by decide +kernel)) (by rw [isSubtype_type]; kernel_rfl)
theorem type_split : typeOf (.builtin "bytes.split") = pure (.type "method_descriptor") := by show builtinType _ = _; rw [builtinType_eq_fast]; kernel_rfl
theorem entry_split : entryFor table "bytes.split" = some Builtin.«bytes.split» := entryFor_of_tree (by kernel_rfl)
theorem args_split (a b : Value) : argsOk "bytes.split" ⟨[a, b], []⟩ := by
  unfold argsOk; rw [signature?_of (id := "bytes.split") (n := ['t', 'i', 'l', 'p', 's']) (o := ['s', 'e', 't', 'y', 'b']) (by kernel_rfl) FB.owner_bytes]; kernel_rfl
theorem slot_join : Slot "bytes" "join" "bytes.join" :=
  .of (owner := "bytes") (n := "join") (by rw [typeLookup_type, builtinLookup_eq_fast]; kernel_rfl) (by decide +kernel) (by decide +kernel) (by decide +kernel)
    (by first | exact .inl (by decide +kernel) | exact .inr (by decide +kernel)) (by rw [isSubtype_type]; kernel_rfl)
theorem type_join : typeOf (.builtin "bytes.join") = pure (.type "method_descriptor") := by show builtinType _ = _; rw [builtinType_eq_fast]; kernel_rfl
theorem entry_join : entryFor table "bytes.join" = some Builtin.«bytes.join» := entryFor_of_tree (by kernel_rfl)
theorem args_join (a b : Value) : argsOk "bytes.join" ⟨[a, b], []⟩ := by
  unfold argsOk; rw [signature?_of (id := "bytes.join") (n := ['n', 'i', 'o', 'j']) (o := ['s', 'e', 't', 'y', 'b']) (by kernel_rfl) FB.owner_bytes]; kernel_rfl

section
variable {M : Model} {A : Around} {E : Value → Shared → Prop} {s : Shared} {b : Array UInt8} {t : Tok} {pl : Sem Bool} {Q : Value × List Value → Shared → Prop}
theorem meth_find (h : Q (.builtin "bytes.find", [.bytes b t]) s) : wpAny M A (getMethod (.bytes b t) "find" pl) Q E s := by
  with_reducible exact KBd.method_of (.bytes b t) (typeIs_bytes _ _ _) slot_find type_find KBd.noRef h
theorem meth_split (h : Q (.builtin "bytes.split", [.bytes b t]) s) : wpAny M A (getMethod (.bytes b t) "split" pl) Q E s := by
  with_reducible exact KBd.method_of (.bytes b t) (typeIs_bytes _ _ _) slot_split type_split KBd.noRef h
theorem meth_join (h : Q (.builtin "bytes.join", [.bytes b t]) s) : wpAny M A (getMethod (.bytes b t) "join" pl) Q E s := by
  with_reducible exact KBd.method_of (.bytes b t) (typeIs_bytes _ _ _) slot_join type_join KBd.noRef h
end

/-- what find gives -/
noncomputable def found (b : Array UInt8) (c : UInt8) (i j : Nat) : Int := match Bytes.find? b #[c] i j with | some k => (k : Int) | none => -1

theorem bound_int (i : Int) (t : Tok) : Bytes.bound? (some (.int i t)) = pure (some i) := by
  have e : specialOf (.int i t) "__index__" = typeLookup (.type "int") "__index__" := rfl
  show (specialOf (.int i t) "__index__" >>= fun r => _) = _
  rw [e, F.slot_int_index.lookup]
  rfl
theorem find_short {b : Array UInt8} {c : UInt8} {i j : Nat} (h : ¬ i < j) : Bytes.find? b #[c] i j = none := by
  unfold Bytes.find?
  have e : j + 1 - (i + (#[c] : Array UInt8).size) = 0 := by
    show j + 1 - (i + 1) = 0
    omega
  rw [e]
  rfl
theorem gives_find (b : Array UInt8) (c : UInt8) (i j : Nat) (t t1 t2 t3 : Tok) (hij : i ≤ j) (hj : j ≤ b.size) :
    Gives («bytes.find» ⟨[.bytes b t, .bytes #[c] t1, .int i t2, .int j t3], []⟩) (.int (found b c i j)) := by
  refine .of_wp fun M A E s Q hq => ?_
  have e1 : selfAndSome "bytes.find" "find" 1 3 ⟨[.bytes b t, .bytes #[c] t1, .int i t2, .int j t3], []⟩ = pure (.bytes b t, [.bytes #[c] t1, .int i t2, .int j t3]) := by kernel_rfl
  show wpAny M A (Bytes.searchArgs .bytes "find" _ >>= fun r => _) _ E s
  refine wpAny_bind ?_
  unfold Bytes.searchArgs
  show wpAny M A (selfAndSome "bytes.find" "find" 1 3 _ >>= fun r => _) _ E s
  rw [e1]
  refine wpAny_bind (wpAny_pure ?_)
  show wpAny M A (Bytes.bound? (some (.int i t2)) >>= fun r => _) _ E s
  rw [bound_int]
  refine wpAny_bind (wpAny_pure ?_)
  show wpAny M A (Bytes.bound? (some (.int j t3)) >>= fun r => _) _ E s
  rw [bound_int]
  refine wpAny_bind (wpAny_pure ?_)
  have e2 : Bytes.buffer? "bytes.find" (([.bytes #[c] t1, .int i t2, .int j t3] : List Value).headD .none) = pure (some #[c]) := KBy.buffer_eq
  show wpAny M A (Bytes.buffer? "bytes.find" _ >>= fun r => _) _ E s
  rw [e2]
  refine wpAny_bind (wpAny_pure ?_)
  show wpAny M A (pure #[c] >>= fun r => _) _ E s
  refine wpAny_bind (wpAny_pure ?_)
  refine wpAny_bind (wpAny_of_eq (a := b) rfl ?_)
  refine wpAny_pure ?_
  have ew : Bytes.window b.size (some (i : Int)) (some (j : Int)) = ((i : Int), (j : Int)) := by
    unfold Bytes.window
    simp only [Option.getD_some]
    rw [if_neg (by omega), if_neg (by omega)]
    congr 1
    omega
  have hs : ((#[c] : Array UInt8).size : Int) = 1 := rfl
  show wpAny M A (match ((fun p : Int × Int => if p.2 - p.1 < ((#[c] : Array UInt8).size : Int) then none else some (p.1.toNat, p.2.toNat)) (Bytes.window b.size (some (i : Int)) (some (j : Int)))).bind fun x => Bytes.find? b #[c] x.1 x.2 with | some i => retInt i | none => (do rule _; retInt (-1))) _ E s
  rw [ew]
  dsimp only
  by_cases hlt : (j : Int) - i < (#[c] : Array UInt8).size
  · rw [if_pos hlt]
    show wpAny M A (rule _ >>= fun r => _) _ E s
    refine wpAny_bind (wpAny_rule ?_)
    have e : found b c i j = -1 := by
      unfold found
      rw [find_short (by omega)]
    rw [e] at hq
    exact wpAny_bind (wpAny_mkInt (wpAny_pure ⟨_, rfl, hq⟩))
  · rw [if_neg hlt]
    show wpAny M A (match Bytes.find? b #[c] (i : Int).toNat (j : Int).toNat with | some i => retInt i | none => _) _ E s
    rw [Int.toNat_natCast, Int.toNat_natCast]
    unfold found at hq
    cases hf : Bytes.find? b #[c] i j with
    | some k =>
      rw [hf] at hq
      exact wpAny_bind (wpAny_mkInt (wpAny_pure ⟨_, rfl, hq⟩))
    | none =>
      rw [hf] at hq
      refine wpAny_bind (wpAny_rule ?_)
      exact wpAny_bind (wpAny_mkInt (wpAny_pure ⟨_, rfl, hq⟩))

section
variable {prog : Program} {w : World} {A : Around} {E : Value → Shared → Prop} {s : Shared} {b : Array UInt8} {c : UInt8} {i j : Nat} {t t1 t2 t3 : Tok} {Q : Value → Shared → Prop}
theorem call_find (hij : i ≤ j) (hj : j ≤ b.size) (h : Q (.int (found b c i j) s.toks) { s with toks := s.toks + 1 }) :
    wpAny (model prog w) A (call (.builtin "bytes.find") [.bytes b t, .bytes #[c] t1, .int i t2, .int j t3]) Q E s :=
  call_gives slot_find (typeIs_bytes _ _ _) entry_find (args_find _ _ _ _) (gives_find b c i j t t1 t2 t3 hij hj) h
end

/-- values that are these bytes -/
inductive Bs : List Value → List (Array UInt8) → Prop
  | nil : Bs [] []
  | cons {v b vs bs} (t : Tok) (e : v = .bytes b t) (r : Bs vs bs) : Bs (v :: vs) (b :: bs)

namespace Bs
theorem length : ∀ {vs : List Value} {bs : List (Array UInt8)}, Bs vs bs → vs.length = bs.length
  | _, _, .nil => rfl
  | _, _, .cons _ _ r => by rw [List.length_cons, List.length_cons, r.length]
theorem get : ∀ {vs : List Value} {bs : List (Array UInt8)}, Bs vs bs → ∀ {i : Nat} {b : Array UInt8}, bs[i]? = some b → ∃ t, vs[i]? = some (.bytes b t)
  | _, _, .nil, i, b, h => by simp at h
  | _, _, .cons t e r, 0, b, h => by
    simp only [List.getElem?_cons_zero, Option.some.injEq] at h
    subst h e
    exact ⟨t, rfl⟩
  | _, _, .cons _ _ r, i + 1, b, h => by
    simp only [List.getElem?_cons_succ] at h ⊢
    exact r.get h
theorem snoc : ∀ {vs : List Value} {bs : List (Array UInt8)}, Bs vs bs → ∀ {b : Array UInt8} {t : Tok}, Bs (vs ++ [.bytes b t]) (bs ++ [b])
  | _, _, .nil, b, t => .cons t rfl .nil
  | _, _, .cons t e r, _, _ => .cons t e r.snoc
theorem drop : ∀ {vs : List Value} {bs : List (Array UInt8)}, Bs vs bs → ∀ n : Nat, Bs (vs.drop n) (bs.drop n)
  | _, _, h, 0 => h
  | _, _, .nil, n + 1 => .nil
  | _, _, .cons _ _ r, n + 1 => r.drop n
theorem getV : ∀ {vs : List Value} {bs : List (Array UInt8)}, Bs vs bs → ∀ {i : Nat} {v : Value}, vs[i]? = some v → ∃ (b : Array UInt8) (t : Tok), bs[i]? = some b ∧ v = .bytes b t
  | _, _, .nil, i, b, h => by simp at h
  | _, _, .cons t e r, 0, b, h => by
    simp only [List.getElem?_cons_zero, Option.some.injEq] at h
    subst h e
    exact ⟨_, t, rfl, rfl⟩
  | _, _, .cons _ _ r, i + 1, b, h => by
    simp only [List.getElem?_cons_succ] at h ⊢
    exact r.getV h
end Bs

section
variable {M : Model} {A : Around} {E : Value → Shared → Prop}
theorem mapM_new : ∀ (bs : List (Array UInt8)) (s : Shared) (Q : List Value → Shared → Prop), (∀ b ∈ bs, b.size ≤ sizeLine) → (∀ vs k, Bs vs bs → Q vs { s with toks := k }) →
    wpAny M A (bs.mapM Bytes.Kind.bytes.new) Q E s
  | [], s, Q, _, h => by rw [List.mapM_nil]; exact wpAny_pure (h [] s.toks .nil)
  | b :: r, s, Q, hb, h => by
    rw [List.mapM_cons]
    refine wpAny_bind (wpAny_mkBytes ?_ (hb b (List.mem_cons_self ..)))
    exact wpAny_bind (mapM_new r _ _ (fun y hy => hb y (List.mem_cons_of_mem _ hy)) fun vs k hv => wpAny_pure (h _ k (.cons _ rfl hv)))
end

noncomputable def places (b : Array UInt8) (c : UInt8) : List Nat := (Bytes.occurrences b #[c] 0 b.size).take (b.size + 1)
noncomputable def pieces (b : Array UInt8) (c : UInt8) : List (Array UInt8) := if (places b c).isEmpty = true then [b] else Bytes.between b 1 (places b c)

theorem meets_split (b : Array UInt8) (c : UInt8) (t t1 : Tok) (hp : ∀ p ∈ pieces b c, p.size ≤ sizeLine) (hn : (pieces b c).length ≤ sizeLine) :
    Meets («bytes.split» ⟨[.bytes b t, .bytes #[c] t1], []⟩) (fun _ R s => ∀ vs k, Bs vs (pieces b c) →
      R (.ok (.ret (.ref s.heap.objs.size))) { s with toks := k, heap := s.heap.push { cls := .type "list", data := .seq vs.toArray } }) := by
  refine .of_wp fun prog w A R s h => ?_
  have e1 : Bytes.bindOptional "bytes.split" "split" ["sep", "maxsplit"] [.bytes #[c] t1] [] = pure [some (.bytes #[c] t1), none] := by kernel_rfl
  show wpAny _ _ (Bytes.bindOptional "bytes.split" "split" ["sep", "maxsplit"] [.bytes #[c] t1] [] >>= fun r => _) _ _ s
  rw [e1]
  refine wpAny_bind (wpAny_pure ?_)
  show wpAny _ _ (pure (-1 : Int) >>= fun r => _) _ _ s
  refine wpAny_bind (wpAny_pure ?_)
  refine wpAny_bind (wpAny_of_eq (a := b) rfl ?_)
  show wpAny _ _ (Bytes.bytesLike "bytes.split" (.bytes #[c] t1) >>= fun r => _) _ _ s
  refine wpAny_bind (wpAny_of_eq KBd.like_eq ?_)
  show wpAny _ _ (if (places b c).isEmpty = true then (do rule _; return ← ret (← newList [← Bytes.Kind.bytes.same (.bytes b t)])) else (do ret (← newList (← (Bytes.between b 1 (places b c)).mapM Bytes.Kind.bytes.new)))) _ _ s
  unfold pieces at h hp hn
  by_cases he : (places b c).isEmpty = true
  · rw [if_pos he] at h ⊢
    refine wpAny_bind (wpAny_rule ?_)
    refine wpAny_bind ?_
    show wpAny _ _ (typeOf (.bytes b t) >>= fun r => _) _ _ s
    refine wpAny_bind (wpAny_typeOf (typeIs_bytes s b t) ?_)
    refine wpAny_pure ?_
    exact wpAny_bind (wpAny_newList (wpAny_pure ⟨_, rfl, h [.bytes b t] s.toks (.cons t rfl .nil)⟩) (by show 1 ≤ sizeLine; rw [sizeLine_eq]; decide))
  · rw [if_neg he] at h hp hn ⊢
    refine wpAny_bind (mapM_new _ _ _ hp fun vs k hv => ?_)
    exact wpAny_bind (wpAny_newList (wpAny_pure ⟨_, rfl, h vs k hv⟩) (by rw [hv.length]; exact hn))

section
variable {prog : Program} {w : World} {A : Around} {E : Value → Shared → Prop} {s : Shared} {b : Array UInt8} {c : UInt8} {t t1 : Tok} {Q : Value → Shared → Prop}
theorem call_split (hp : ∀ p ∈ pieces b c, p.size ≤ sizeLine) (hn : (pieces b c).length ≤ sizeLine)
    (h : ∀ vs k, Bs vs (pieces b c) → Q (.ref s.heap.objs.size) { s with toks := k, heap := s.heap.push { cls := .type "list", data := .seq vs.toArray } }) :
    wpAny (model prog w) A (call (.builtin "bytes.split") [.bytes b t, .bytes #[c] t1]) Q E s :=
  call_meets slot_split (typeIs_bytes _ _ _) entry_split (args_split _ _) (meets_split b c t t1 hp hn) h
end

theorem quiet_take {id : String} {b : Array UInt8} {t : Tok} : Bytes.takeBufferQuiet? id (.bytes b t) 0 = pure (some (b, none)) := by
  unfold Bytes.takeBufferQuiet? Bytes.takeBuffer?
  rw [KBy.special_eq KBy.look_buffer, KBy.own_buffer]
  kernel_rfl
section
variable {M : Model} {A : Around} {E : Value → Shared → Prop}
theorem let_taken : ∀ (l : List (Value × Option Value)) (keep : List Value) (s : Shared) (Q : Unit → Shared → Prop), (∀ p ∈ l, p.2 = none) → Q () s → wpAny M A (Bytes.joinLetGo l keep) Q E s
  | [], keep, s, Q, _, h => by unfold Bytes.joinLetGo; exact wpAny_pure h
  | (x, w) :: r, keep, s, Q, hn, h => by
    have e : w = none := hn _ (List.mem_cons_self ..)
    subst e
    unfold Bytes.joinLetGo
    refine wpAny_bind (wpAny_letGo ?_)
    exact let_taken r keep s Q (fun p hp => hn p (List.mem_cons_of_mem _ hp)) h
end
end By
/- MC -/
namespace By
open Builtin
theorem one_bytes {M : Model} {A : Around} {E : Value → Shared → Prop} {s : Shared} {a : Addr} {vs : List Value} {Q : Option (Array Value) → Shared → Prop} (hl : s.heap.IsList a vs.toArray) (h : Q (some vs.toArray) s) :
    wpAny M A (seqItems? (.ref a)) Q E s := by
  obtain ⟨o, ho, hc, n, hdata⟩ := hl
  unfold seqItems?
  refine wpAny_bind (wpAny_load ho ?_)
  rw [hdata]
  exact wpAny_pure h

theorem wp_not_one {β : Type} {M : Model} {A : Around} {Q : β → Shared → Prop} {E : Value → Shared → Prop} {s : Shared} {vs : List Value} {f : Value → Sem β} {g : Array Value → Sem β} (hne : vs.length ≠ 1) (h : wpAny M A (g vs.toArray) Q E s) :
    wpAny M A (Bytes.joinM.match_1 (fun _ => Sem β) vs.toArray f g) Q E s := by
  rcases vs with _ | ⟨a, _ | ⟨b, t⟩⟩
  · exact h
  · exact absurd rfl hne
  · exact h

theorem meets_join (sep : Array UInt8) (t : Tok) (a : Addr) (vs : List Value) (bs : List (Array UInt8)) (hv : Bs vs bs)
    (hs : bs.foldl (fun n x => n + x.size) (sep.size * (bs.length - 1)) ≤ sizeLine) (hj : (Bytes.joined sep bs).size ≤ sizeLine) (h1 : ∀ b, Bytes.joined sep [b] = b) :
    Meets («bytes.join» ⟨[.bytes sep t, .ref a], []⟩) (fun _ R s => s.heap.IsList a vs.toArray ∧ ∀ t' k, R (.ok (.ret (.bytes (Bytes.joined sep bs) t'))) { s with toks := k }) := by
  refine .of_wp fun prog w A R s h => ?_
  obtain ⟨hl, h⟩ := h
  unfold «bytes.join» Bytes.joinM
  have e1 : selfAndOne "bytes.join" ⟨[.bytes sep t, .ref a], []⟩ = pure (.bytes sep t, .ref a) := by kernel_rfl
  show wpAny _ _ (selfAndOne "bytes.join" _ >>= fun r => _) _ _ s
  rw [e1]
  refine wpAny_bind (wpAny_pure ?_)
  show wpAny _ _ (Bytes.joinItems (.ref a) >>= fun r => _) _ _ s
  unfold Bytes.joinItems
  refine wpAny_bind (wpAny_bind (wpAny_typeOf hl.typeIs ?_))
  refine wpAny_pure ?_
  refine wpAny_bind (one_bytes hl ?_)
  have hlen := hv.length
  have hkk : (Bytes.Kind.bytes == Bytes.Kind.bytes) = true := by decide
  have hkb : (Bytes.Kind.bytes == Bytes.Kind.bytearray) = false := by decide
  dsimp only
  rw [hkk, if_pos rfl]
  have hvv := hv
  by_cases hone : vs.length = 1
  · obtain ⟨x, rfl⟩ := List.length_eq_one_iff.1 hone
    rcases hv with _ | ⟨tt, rfl, _ | _⟩
    rw [h1] at h
    refine wpAny_bind (wpAny_typeOf (typeIs_bytes _ _ _) ?_)
    exact wpAny_bind (wpAny_rule (wpAny_pure ⟨_, rfl, h _ _⟩))
  · clear hv
    refine wp_not_one hone ?_
    refine wpAny_bind ?_
    rw [Std.Legacy.Range.forIn_eq_forIn_range']
    rw [show List.range' (Std.Legacy.Range.mk 0 vs.toArray.size 1 (by decide)).start (Std.Legacy.Range.mk 0 vs.toArray.size 1 (by decide)).size (Std.Legacy.Range.mk 0 vs.toArray.size 1 (by decide)).step = List.range' 0 vs.length from by simp [Std.Legacy.Range.size]]
    refine wpAny_forIn_list _
      (fun rest r s' => ∃ i, s' = s ∧ rest = List.range' i (vs.length - i) ∧ i ≤ vs.length ∧ r.1.toList = bs.take i ∧ (∀ p ∈ r.2, p.2 = none) ∧ (r.2.any fun x => x.1.onHeap) = false)
      _ ?_ ?_ _ _ ⟨0, rfl, by simp, Nat.zero_le _, rfl, (fun _ h => nomatch h), rfl⟩
    · rintro x rest ⟨ps, tk⟩ s' ⟨i, rfl, hr, hi, hps, hnone, hheap⟩
      have hlt : i < vs.length := by
        rcases Nat.lt_or_ge i vs.length with h | h
        · exact h
        · rw [Nat.sub_eq_zero_of_le h] at hr; simp at hr
      obtain ⟨rfl, hrest⟩ : x = i ∧ rest = List.range' (i + 1) (vs.length - (i + 1)) := by
        have e : vs.length - i = (vs.length - (i + 1)) + 1 := (Nat.sub_add_cancel (Nat.sub_pos_of_lt hlt)).symm
        rw [e, List.range'_succ] at hr
        injection hr with h1 h2
        exact ⟨h1, h2⟩
      obtain ⟨b, hb⟩ : ∃ b, bs[x]? = some b := ⟨bs[x]'(by omega), List.getElem?_eq_getElem _⟩
      obtain ⟨u, hu⟩ := hvv.get hb
      dsimp only
      refine wpAny_bind (one_bytes hl ?_)
      have hx : vs.toArray.getD x Value.none = .bytes b u := by
        rw [Array.getD_eq_getD_getElem?, List.getElem?_toArray, hu]
        rfl
      dsimp only
      rw [hx]
      dsimp only at hheap
      rw [hheap, hkb, if_neg (by decide)]
      refine wpAny_bind (wpAny_holding ?_)
      rw [quiet_take]
      refine wpAny_pure ?_
      dsimp only
      refine wpAny_bind (one_bytes hl ?_)
      dsimp only
      rw [if_neg (by simp)]
      refine wpAny_pure ⟨x + 1, rfl, hrest, hlt, ?_, ?_, ?_⟩
      · rw [Array.toList_push, List.take_add_one, hb, hps]
        rfl
      · intro p hp
        rcases List.mem_append.1 hp with hp | hp
        · exact hnone p hp
        · rw [List.mem_singleton.1 hp]
      · rw [List.any_append, hheap]
        rfl
    · rintro ⟨ps, tk⟩ s' ⟨i, rfl, hr, hi, hps, hnone, hheap⟩
      have hfull : i = vs.length := by
        have := congrArg List.length hr
        simp only [List.length_nil, List.length_range'] at this
        omega
      rw [hfull, hlen, List.take_length] at hps
      dsimp only
      refine wpAny_bind (wpAny_of_eq (a := sep) rfl ?_)
      have hps2 : ps.size = bs.length := by rw [← hps, Array.length_toList]
      have hz : Bytes.tooLong (ps.foldl (fun x1 x2 => x1 + x2.size) (sep.size * (ps.size - 1))) = false := by
        rw [← Array.foldl_toList, hps, hps2]
        exact decide_eq_false (Nat.not_lt.mpr hs)
      rw [hz, if_neg (by decide), hps]
      refine wpAny_bind (wpAny_mkBytes ?_ hj)
      refine wpAny_bind (wpAny_holding (wpAny_point ?_))
      refine wpAny_bind (let_taken _ _ _ _ hnone ?_)
      exact wpAny_pure ⟨_, rfl, h _ _⟩

section
variable {prog : Program} {w : World} {A : Around} {E : Value → Shared → Prop} {s : Shared} {sep : Array UInt8} {bs : List (Array UInt8)} {vs : List Value} {a : Addr} {t : Tok} {Q : Value → Shared → Prop}
theorem call_join (hl : s.heap.IsList a vs.toArray) (hv : Bs vs bs)
    (hs : bs.foldl (fun n x => n + x.size) (sep.size * (bs.length - 1)) ≤ sizeLine) (hj : (Bytes.joined sep bs).size ≤ sizeLine) (h1 : ∀ b, Bytes.joined sep [b] = b)
    (h : ∀ t' k, Q (.bytes (Bytes.joined sep bs) t') { s with toks := k }) :
    wpAny (model prog w) A (call (.builtin "bytes.join") [.bytes sep t, .ref a]) Q E s :=
  call_meets slot_join (typeIs_bytes _ _ _) entry_join (args_join _ _) (meets_join sep t a vs bs hv hs hj h1) ⟨hl, h⟩
end
end By
set_option maxHeartbeats 4000000
/- MD -/
theorem off_MD : True := by w_top off; trivial
/-- a new object at a, all else as it was -/
structure NewAt (h₀ h' : Heap) (a : Addr) (o : Obj) : Prop where
  keep : Grow h₀ h'
  get : h'.get? a = some o
  fresh : h₀.get? a = none

theorem NewAt.of {h₀ h' : Heap} {L a : Addr} {m : Str → Option Value} {news : List (Addr × Obj)} {o : Obj} (F : Fr h₀ L h' m) (N : News h₀ L h' news) (hm : (a, o) ∈ news) : NewAt h₀ h' a o :=
  ⟨F.keep, (N _ hm).1, (N _ hm).2.2⟩
theorem NewAt.news {h₀ h h' : Heap} {L a : Addr} {m : Str → Option Value} {news : List (Addr × Obj)} {o : Obj} (x : NewAt h h' a o) (F : Fr h₀ L h m) (N : News h₀ L h news) : News h₀ L h' ((a, o) :: news) := fun p hp => by
  rcases List.mem_cons.1 hp with rfl | hp
  · refine ⟨x.get, fun e => ?_, ?_⟩
    · dsimp only at e
      subst e
      obtain ⟨o', ho', _⟩ := F.ns
      have := x.fresh
      simp_all
    · cases hh : h₀.get? a with
      | none => rfl
      | some z => have := F.keep _ _ hh; have := x.fresh; simp_all
  · exact (N.grown x.keep) p hp
theorem NewAt.fr {h₀ h h' : Heap} {L a : Addr} {m : Str → Option Value} {o : Obj} (x : NewAt h h' a o) (F : Fr h₀ L h m) : Fr h₀ L h' m := F.keptAll x.keep

theorem NewAt.off {h₀ h h' : Heap} {L a : Addr} {news : List (Addr × Obj)} {o : Obj} (x : NewAt h h' a o) (N : News h₀ L h news) : ∀ p ∈ news, @Ne Nat p.1 a := fun p hp e => by
  have h1 := (N p hp).1
  have e' : p.1 = a := e
  rw [e', x.fresh] at h1
  cases h1

abbrev tupO (vs : List Value) : Obj := { cls := .type "tuple", data := .seq vs.toArray }
abbrev listO (vs : List Value) : Obj := { cls := .type "list", data := .seq vs.toArray }

theorem find_lo {b : Array UInt8} {c : UInt8} {i j k : Nat} (h : Builtin.Bytes.find? b #[c] i j = some k) : i ≤ k ∧ k < j := by
  unfold Builtin.Bytes.find? at h
  have hm := List.mem_of_find?_eq_some h
  obtain ⟨n, hn, rfl⟩ := List.mem_map.1 hm
  have := List.mem_range.1 hn
  have e : (#[c] : Array UInt8).size = 1 := rfl
  rw [e] at this
  omega

/-- the first c of l from i on, ahead of j -/
noncomputable def nth (l : List UInt8) (c : UInt8) (i j : Nat) : Option Nat := Builtin.Bytes.find? l.toArray #[c] i j

section
variable {prog : Program} {w : World} {A : Around} {E : Value → Shared → Prop} {h : Heap} {g : Array GenState} {dr : Drawn} {tk : Nat} {os : OsState}
theorem find_K {l : List UInt8} {c : UInt8} {i j : Nat} {t t1 t2 t3 : Tok} {Q : Value → Shared → Prop}
    (hij : i ≤ j) (hj : j ≤ l.length) (hs : ∀ (k : Nat) t' tk', nth l c i j = some k → i ≤ k → k < j → Q (.int k t') ⟨h, g, dr, tk', os⟩)
    (hn : ∀ t' tk', nth l c i j = none → Q (.int (-1) t') ⟨h, g, dr, tk', os⟩) :
    wpAny (model prog w) A (call (.builtin "bytes.find") [.bytes l.toArray t, .bytes [c].toArray t1, .int i t2, .int j t3]) Q E ⟨h, g, dr, tk, os⟩ := by
  refine By.call_find hij hj ?_
  unfold By.found
  cases hf : Builtin.Bytes.find? l.toArray #[c] i j with
  | none => exact hn _ _ hf
  | some k => exact hs k _ _ hf (find_lo hf).1 (find_lo hf).2
theorem item_L {l : List UInt8} {i : Int} {t u : Tok} {value slice : PySem.Expr} {Q : Value → Shared → Prop} (hfit : l.length ≤ 1099511627776) (h0 : 0 ≤ i) (h1 : i < l.length)
    (hq : ∀ c t' tk', l[i.toNat]? = some c → Q (.int (c.toNat : Int) t') ⟨h, g, dr, tk', os⟩)
    (hs : subscripted slice false (.bytes l.toArray t) (.int i u) = operate [.bytes l.toArray t, .int i u] (getItem (.bytes l.toArray t) (.int i u)) := by with_unfolding_all rfl)
    (ht : ∀ r, letTemporaryGo value (.bytes l.toArray t) r = pure () := by intro _; with_unfolding_all rfl) : wpAny (model prog w) A (subscriptTail value slice (.bytes l.toArray t) (.int i u)) Q E ⟨h, g, dr, tk, os⟩ := by
  refine tail_of_ItemOn ⟨"bytes", _, FB.slot_bytes_getitem.lookup, typeIs_bytes _ _ _, getItem_bytes hfit h0 h1 ?_⟩ hs ht
  refine hq _ _ _ ?_
  rw [List.getD_eq_getElem?_getD, List.getElem?_eq_getElem (by omega)]
  rfl
end
/- M1 -/
theorem off_M1 : True := by w_top off; trivial
local macro_rules | `(tactic| walk_at "m_enter") => `(tactic| (k_dflt (refine' enter_pure (args := ⟨_, _⟩) ?X ?r ?k1 ?k2 ?k3 ?k4 ?_ ?k5 ?k6 ?k7 ?k8); (case X => assumption); (case r => assumption); (case k1 => k_dflt k_is); (case k2 => k_dflt k_is); (case k3 => exact BindsTo.of_eq rfl); (case k4 => exact locs rfl); (case k5 => decide); (case k6 => exact rfl); (case k7 => exact rfl); (case k8 => exact rfl)))
local macro_rules | `(tactic| walk_at "getMethod bytes") => `(tactic| (k_here; (with_reducible show wpAny _ _ (getMethod (Value.bytes _ _) _ _) _ _ _); first | refine By.meth_find ?_ | refine By.meth_split ?_ | refine By.meth_join ?_))
local macro_rules | `(tactic| walk_at "subscriptTail") => `(tactic| (k_here; (with_reducible show wpAny _ _ (subscriptTail _ _ (Value.bytes _ _) (Value.int _ _)) _ _ _); refine item_L (by walk_at "m_arith") (by walk_at "m_arith") (by walk_at "m_arith") ?_; intro itC itT itK itH))
theorem warm_all {p : Params} {h : Heap} : (PySem.Challenge.rw_or0033_01.Holds ∧ (hd.heap_39 p).In h) → True := by k_fill; intro _; trivial
local macro_rules | `(tactic| walk_at "m_arith") => `(tactic| first | omega | (simp only [List.length_append, List.length_take, List.length_drop, List.length_cons, List.length_nil]; omega))
/-- where the row ends, and where the next begins -/
noncomputable def lineAt (l : List UInt8) (i j : Nat) : Nat × Nat :=
  match nth l 10 i j with
  | none => (j, j)
  | some k => if i < k ∧ l[k - 1]? = some 13 then (k - 1, k + 1) else (k, k + 1)
theorem lineAt_none {l : List UInt8} {i j : Nat} (h : nth l 10 i j = none) : lineAt l i j = (j, j) := by unfold lineAt; rw [h]
theorem lineAt_cr {l : List UInt8} {i j k : Nat} (h : nth l 10 i j = some k) (h1 : i < k) (h2 : l[k - 1]? = some 13) : lineAt l i j = (k - 1, k + 1) := by
  unfold lineAt; rw [h]; exact if_pos ⟨h1, h2⟩
theorem lineAt_no {l : List UInt8} {i j k : Nat} (h : nth l 10 i j = some k) (h1 : ¬ (i < k ∧ l[k - 1]? = some 13)) : lineAt l i j = (k, k + 1) := by
  unfold lineAt; rw [h]; exact if_neg h1
theorem byte_of {c : UInt8} {n : Nat} (h : (c.toNat : Int) = (n : Int)) : c = UInt8.ofNat n := by
  have : c.toNat = n := by omega
  rw [← this]; exact (UInt8.ofNat_toNat).symm

section
variable {w : World} {mean : ExcName → Option Value} {mg mb : Str → Option Value} {A : Around} {s : Shared} {Q : Value → Shared → Prop} {E : Value → Shared → Prop}

theorem line_at_spec {l : List UInt8} {i j : Nat} {t1 t2 t3 : Tok} 
    (X : Wd w mean mg mb s.heap) (r : Room A 1) (hij : i ≤ j) (hj : j ≤ l.length) (hl : l.length ≤ 16777216)
    (hQ : ∀ a h' tk u v, NewAt s.heap h' a (tupO [.int ((lineAt l i j).1 : Nat) u, .int ((lineAt l i j).2 : Nat) v]) → Q (.ref a) { s with heap := h', toks := tk }) : wpAny (model prg w) A (call (.ref 104) [.bytes l.toArray t1, .int i t2, .int j t3] []) Q E s := by
  have hQ' : ∀ (x y : Int) a h' tk u v, x = ((lineAt l i j).1 : Nat) → y = ((lineAt l i j).2 : Nat) → NewAt s.heap h' a (tupO [.int x u, .int y v]) → Q (.ref a) { s with heap := h', toks := tk } := by
    intro x y a h' tk u v hx hy
    subst hx hy
    exact hQ a h' tk u v
  obtain ⟨hK, hT⟩ := id X
  obtain ⟨hd, dp, fr, gd, un⟩ := A
  cases r.handled
  walk_at "m_enter"
  intro L h₁ tk r' F N
  k_steps
  refine find_K hij hj (fun k t' tk' hf h1 h2 => ?_) (fun t' tk' hf => ?_)
  · have e0 : ((k : Int) - 1).toNat = k - 1 := Int.toNat_sub k 1
    k_steps
    all_goals rename Fr _ _ _ _ => F'
    all_goals rename News _ _ _ _ => N'
    · rename l[_]? = _ => hc
      rename (_ : Int) = 13 => hd'
      rw [e0] at hc
      have e := lineAt_cr hf (by omega) (by rw [hc, byte_of (n := 13) hd']; rfl)
      exact hQ' _ _ _ _ _ _ _ (by rw [e]; dsimp only; omega) (by rw [e]; dsimp only; omega) (NewAt.of F' N' (List.mem_cons_self ..))
    · rename l[_]? = _ => hc
      rename ¬ (_ = _) => hd'
      rw [e0] at hc
      have e := lineAt_no hf (by rintro ⟨_, hx⟩; rw [hc] at hx; injection hx with hx; subst hx; exact hd' rfl)
      exact hQ' _ _ _ _ _ _ _ (by rw [e]) (by rw [e]; dsimp only; omega) (NewAt.of F' N' (List.mem_cons_self ..))
    · have e := lineAt_no hf (by omega)
      exact hQ' _ _ _ _ _ _ _ (by rw [e]) (by rw [e]; dsimp only; omega) (NewAt.of F' N' (List.mem_cons_self ..))
  · k_steps
    rename Fr _ _ _ _ => F'
    rename News _ _ _ _ => N'
    exact hQ' _ _ _ _ _ _ _ (by rw [lineAt_none hf]) (by rw [lineAt_none hf]) (NewAt.of F' N' (List.mem_cons_self ..))
end
/- M2 -/
theorem off_M2 : True := by w_top off; trivial
/-- a sign that a name may hold -/
noncomputable def okc (c : UInt8) : Bool := !(decide (c.toNat < 33) || decide (c.toNat > 126) || decide (c.toNat = 58))
noncomputable def isName (l : List UInt8) : Bool := l.all okc && decide (0 < l.length)

section
variable {prog : Program} {w : World} {A : Around} {E : Value → Shared → Prop} {s : Shared} {env : Env} {h₀ : Heap} {x : PySem.Str} {body : List Stmt} {Q : Flow → Shared → Prop} {m₀ : PySem.Str → Option Value}
/-- a loop over bytes whose turn changes nothing but its own name -/
theorem iter_same {l : List UInt8} {tb : Tok} (G : Nat → Prop) (hh : A.handled = none) (F : Fr h₀ env.locals s.heap m₀) (h0 : G 0)
    (turn : ∀ i c t h tk own, l[i]? = some c → G i → Fr h₀ env.locals h (fun y => if y = x then some (.int (c.toNat : Int) t) else m₀ y) → News h₀ env.locals h own →
      wpAny (model prog w) A (execs body env) (InvPostN h₀ env.locals (fun m nx => (nx = [] ∧ G (i + 1)) ∧ ∀ z, z ≠ x → m z = m₀ z) own [] { s with heap := h, toks := tk } Q) E { s with heap := h, toks := tk })
    (done : ∀ (u : PySem.Str → Option Value) h tk, G l.length → Fr h₀ env.locals h (fun y => if y = x then u y else m₀ y) → News h₀ env.locals h [] → Q .next { s with heap := h, toks := tk }) :
    wpAny (model prog w) A (pyIter (.bytes l.toArray tb)) (fun it s₂ => LoopAtV prog w A h₀ env x body Q E it s₂) E s := by
  refine KBmo.iter_bytesN (ks := l.map fun c => (c.toNat : Int)) (fun i m nx => (nx = [] ∧ G i) ∧ ∀ z, z ≠ x → m z = m₀ z) (KBw.ints_list l) hh F (News.nil) ⟨⟨rfl, h0⟩, fun _ _ => rfl⟩ ?_ ?_
  · rintro i k t m nx h tk own hk _ _ _ ⟨⟨rfl, hG⟩, hm⟩ F₁ N₁
    rw [List.getElem?_map] at hk
    cases hc : l[i]? with
    | none => rw [hc] at hk; cases hk
    | some c =>
      rw [hc] at hk
      injection hk with hk
      subst hk
      rw [map_none hm] at F₁
      exact turn i c t h tk own hc hG F₁ N₁
  · rintro m nx h tk ⟨⟨rfl, hG⟩, hm⟩ F₁ N₁
    rw [List.length_map] at hG
    exact done m h tk hG (by rw [done_none hm]; exact F₁) N₁
end
section
variable {w : World} {mean : ExcName → Option Value} {mg mb : Str → Option Value} {A : Around} {s : Shared} {Q : Value → Shared → Prop} {E : Value → Shared → Prop}
theorem isName_no {l : List UInt8} {i : Nat} {c : UInt8} (hc : l[i]? = some c) (h : okc c = false) : false = isName l := by
  unfold isName
  have : l.all okc = false := by
    rw [List.all_eq_false]
    exact ⟨c, List.mem_of_getElem? hc, by rw [h]; decide⟩
  rw [this]
  rfl
theorem all_more {l : List UInt8} {i : Nat} {c : UInt8} {p : UInt8 → Bool} (h : ∀ c ∈ l.take i, p c = true) (hc : l[i]? = some c) (hp : p c = true) : ∀ c ∈ l.take (i + 1), p c = true := by
  intro d hd
  rw [List.take_add_one, hc] at hd
  rcases List.mem_append.1 hd with hd | hd
  · exact h d hd
  · rw [List.mem_singleton.1 hd]; exact hp
theorem is_name_spec {l : List UInt8} {t1 : Tok} 
    (X : Wd w mean mg mb s.heap) (r : Room A 1) (hl : l.length ≤ 16777216)
    (hQ : ∀ h' tk, Grow s.heap h' → Q (.bool (isName l)) { s with heap := h', toks := tk }) : wpAny (model prg w) A (call (.ref 111) [.bytes l.toArray t1] []) Q E s := by
  have hQ' : ∀ (b : Bool) h' tk, b = isName l → Grow s.heap h' → Q (.bool b) { s with heap := h', toks := tk } := by
    intro b h' tk hb
    subst hb
    exact hQ h' tk
  obtain ⟨hK, hT⟩ := id X
  obtain ⟨hd, dp, fr, gd, un⟩ := A
  cases r.handled
  walk_at "m_enter"
  intro L h₁ tk r' F N
  k_steps
  rename Fr _ _ _ _ => F₁
  refine iter_same (fun i => ∀ c ∈ l.take i, okc c = true) rfl F₁ (by simp) (fun i c t h tk own hc hG F' N' => ?_) (fun u h tk hG F' N' => ?_)
  · k_steps
    · exact hQ' _ _ _ (isName_no hc (by simp only [okc, Bool.not_eq_false', Bool.or_eq_true, decide_eq_true_eq]; omega)) F'.keep
    · exact hQ' _ _ _ (isName_no hc (by simp only [okc, Bool.not_eq_false', Bool.or_eq_true, decide_eq_true_eq]; omega)) F'.keep
    · exact hQ' _ _ _ (isName_no hc (by simp only [okc, Bool.not_eq_false', Bool.or_eq_true, decide_eq_true_eq]; omega)) F'.keep
    · refine ⟨_, _, _, _, [], rfl, F', N', (fun _ h => nomatch h), fun p hp => hp, rfl, ⟨rfl, ?_⟩, fun z hz => if_neg hz⟩
      refine all_more hG hc ?_
      simp only [okc, Bool.not_eq_true', Bool.or_eq_false_iff, decide_eq_false_iff_not]
      omega
  · k_steps
    refine hQ' _ _ _ ?_ F'.keep
    rw [List.take_length] at hG
    unfold isName
    rw [List.all_eq_true.2 hG, Bool.true_and]
    congr 1
    simp
end
/- MS -/
theorem off_MS : True := by w_top off; trivial
theorem Room.mono {A : Around} {n m : Nat} (r : Room A n) (h : m ≤ n) : Room A m := ⟨r.handled, by have := r.depth; omega, by have := r.units; omega⟩

noncomputable def lo0 (lo : Option Int) (n : Nat) : Nat := lo.elim 0 (clipAt n)
noncomputable def hi0 (hi : Option Int) (n : Nat) : Nat := hi.elim n (clipAt n)
/-- a slice -/
noncomputable def cut (l : List UInt8) (lo hi : Option Int) : List UInt8 := (l.drop (lo0 lo l.length)).take (hi0 hi l.length - lo0 lo l.length)
theorem cut_nat {l : List UInt8} {x y : Int} {a b : Nat} (hx : x = a) (hy : y = b) (hb : b ≤ l.length) (ha : a ≤ b) : cut l (some x) (some y) = (l.drop a).take (b - a) := by
  subst hx hy
  unfold cut lo0 hi0
  simp only [Option.elim, clipAt_nat]
  have e1 : min a l.length = a := by omega
  have e2 : min b l.length = b := by omega
  rw [e1, e2]
theorem cut_length (l : List UInt8) (lo hi : Option Int) : (cut l lo hi).length ≤ l.length := by
  unfold cut
  rw [List.length_take, List.length_drop]
  exact min_sub _ _ _
section
variable {prog : Program} {w : World} {A : Around} {E : Value → Shared → Prop} {h : Heap} {g : Array GenState} {dr : Drawn} {tk : Nat} {os : OsState}
theorem slice_L {l : List UInt8} {t : Tok} {value slice : PySem.Expr} {Q : Value → Shared → Prop} {h₀ : Heap} {L : Addr} {m : PySem.Str → Option Value} {news : List (Addr × Obj)} {x y : Value} {lo hi : Option Int}
    (hF : Fr h₀ L h m) (hN : News h₀ L h news) (hl : IsPart x lo) (hu : IsPart y hi) (hz : l.length ≤ 16777216)
    (hq : ∀ h' t' k, Fr h₀ L h' m → News h₀ L h' news → Q (.bytes (cut l lo hi).toArray t') ⟨h', g, dr, k, os⟩)
    (hs : subscripted slice false (.bytes l.toArray t) (.ref h.objs.size) = operate [.ref h.objs.size, .bytes l.toArray t] (getItem (.bytes l.toArray t) (.ref h.objs.size)) := by with_unfolding_all rfl)
    (ht : ∀ r, letTemporaryGo value (.bytes l.toArray t) r = pure () := by intro _; with_unfolding_all rfl) :
    wpAny (model prog w) A (subscriptTail value slice (.bytes l.toArray t) (.ref h.objs.size)) Q E ⟨h.push { cls := .type "slice", data := .fields #[x, y, .none] }, g, dr, tk, os⟩ := by
  have e : KBy.picked l.toArray lo hi = (cut l lo hi).toArray := by
    rw [KBc.picked_eq]
    simp only [List.size_toArray]
    rfl
  refine tail_of_ItemOn ⟨"bytes", _, FB.slot_bytes_getitem.lookup, typeIs_bytes _ _ _, getItem_meets (typeIs_bytes _ _ _) (by decide) FB.slot_bytes_getitem FB.entry_bytes_getitem (FB.args_bytes_getitem_2 _ _) (KBc.meets_slice2 l.toArray t _ hl hu)
    ⟨Heap.IsSliceOf.new _ _ _ _, Nat.le_trans (KBc.size_picked_le _ lo hi) (by rw [sizeLine_eq, List.size_toArray]; exact hz), fun t' k => ?_⟩⟩ hs ht
  rw [e]
  exact hq _ _ _ (hF.push _) (News.pushKeep hN _)
end
noncomputable def StopHere (p : Prop) : Prop := p
theorem stop_here {p : Prop} (h : StopHere p) : p := h
theorem go_on {p : Prop} (h : p) : StopHere p := h
section
variable {prog : Program} {w : World} {A : Around} {E : Value → Shared → Prop} {h : Heap} {g : Array GenState} {dr : Drawn} {tk : Nat} {os : OsState}
theorem len_L {l : List UInt8} {t : Tok} {Q : Value → Shared → Prop} (hfit : l.length ≤ 16777216) (hq : ∀ t' k, Q (.int (l.length : Nat) t') ⟨h, g, dr, k, os⟩) : wpAny (model prog w) A (call (.builtin "len") [.bytes l.toArray t]) Q E ⟨h, g, dr, tk, os⟩ := by
  refine len_bytes (by rw [List.size_toArray]; omega) ?_
  rw [List.size_toArray]
  exact hq _ _
end
/-- the end of a turn -/
noncomputable def WNext (s : Shared) (n : Nat) (J : Nat → Heap → Prop) (s₃ : Shared) : Prop := ∃ h' tk n', s₃ = { s with heap := h', toks := tk } ∧ n' < n ∧ J n' h'
/-- a while, its word over heap and names -/
theorem While_H {prog : Program} {w : World} {A : Around} {E : Value → Shared → Prop} {Q : Flow → Shared → Prop} {s : Shared} {env : Env} {test : Expr} {body : List Stmt} {pos : Pos} (J : Nat → Heap → Prop) {n₀ : Nat} (hJ : J n₀ s.heap)
    (turn : ∀ n h₁ tk₁, J n h₁ →
      wpAny (model prog w) A (isTrue test env (eval test env)) (fun b s₂ =>
        if b = true then wpAny (model prog w) A (execs body env) (fun f s₃ => match f with
          | .next | .cont => WNext s n J s₃
          | .brk => Q .next s₃
          | .ret v => Q (.ret v) s₃) E s₂ else Q .next s₂) E { s with heap := h₁, toks := tk₁ })
    (hE : PassesOwn (model prog w) A env E := by passes_own) :
    wpAny (model prog w) A (exec (.While test body [] pos) env) Q E s := by
  refine wpAny_While (codeAny_whileLoop (fun n s' => ∃ h₁ tk₁, s' = { s with heap := h₁, toks := tk₁ } ∧ J n h₁) ?_ n₀ ⟨s.heap, s.toks, rfl, hJ⟩)
  rintro n s' ⟨h₁, tk₁, rfl, J₁⟩
  refine wpAny_mono (turn n h₁ tk₁ J₁) (fun b s₂ h₂ => ?_) hE
  cases b with
  | false =>
    simp only [Bool.false_eq_true, if_false] at h₂ ⊢
    exact wpAny_execs_nil h₂
  | true =>
    simp only [if_true] at h₂ ⊢
    refine wpAny_mono h₂ (fun f s₃ h₃ => ?_) hE
    cases f with
    | next =>
      obtain ⟨h', tk, n', rfl, hn, J₂⟩ := h₃
      exact ⟨n', hn, h', tk, rfl, J₂⟩
    | cont =>
      obtain ⟨h', tk, n', rfl, hn, J₂⟩ := h₃
      exact ⟨n', hn, h', tk, rfl, J₂⟩
    | brk => exact h₃
    | ret v => exact h₃
/-- While_H, with what is wanted behind a turn held by names -/
theorem While_O {prog : Program} {w : World} {A : Around} {E : Value → Shared → Prop} {Q : Flow → Shared → Prop} {s : Shared} {env : Env} {test : Expr} {body : List Stmt} {pos : Pos} (J : Nat → Heap → Prop) {n₀ : Nat} (hJ : J n₀ s.heap)
    (turn : ∀ n h₁ tk₁, J n h₁ → ∀ Qb, Qb = (fun f s₃ => match f with
          | .next | .cont => WNext s n J s₃
          | .brk => Q .next s₃
          | .ret v => Q (.ret v) s₃) → ∀ Qf, Qf = Q →
      wpAny (model prog w) A (isTrue test env (eval test env)) (fun b s₂ =>
        if b = true then wpAny (model prog w) A (execs body env) Qb E s₂ else Qf .next s₂) E { s with heap := h₁, toks := tk₁ })
    (hE : PassesOwn (model prog w) A env E := by passes_own) :
    wpAny (model prog w) A (exec (.While test body [] pos) env) Q E s :=
  While_H J hJ (fun n h₁ tk₁ j => turn n h₁ tk₁ j _ rfl _ rfl) hE
/-- values that are these bytes -/
noncomputable def Bl (vs : List Value) (bs : List (List UInt8)) : Prop := By.Bs vs (bs.map List.toArray)
theorem Bl.nil : Bl [] [] := By.Bs.nil
theorem Bl.snoc {vs : List Value} {bs : List (List UInt8)} {b : List UInt8} {t : Tok} (h : Bl vs bs) : Bl (vs ++ [.bytes b.toArray t]) (bs ++ [b]) := by
  unfold Bl
  rw [List.map_append]
  exact By.Bs.snoc h
theorem Bl.length {vs : List Value} {bs : List (List UInt8)} (h : Bl vs bs) : vs.length = bs.length := by
  have := By.Bs.length h
  rwa [List.length_map] at this
theorem Bl.drop {vs : List Value} {bs : List (List UInt8)} (h : Bl vs bs) (n : Nat) : Bl (vs.drop n) (bs.drop n) := by
  unfold Bl
  rw [List.map_drop]
  exact By.Bs.drop h n
theorem Bl.getV {vs : List Value} {bs : List (List UInt8)} (h : Bl vs bs) {i : Nat} {v : Value} (hv : vs[i]? = some v) : ∃ b t, bs[i]? = some b ∧ v = .bytes b.toArray t := by
  obtain ⟨b, t, hb, rfl⟩ := By.Bs.getV h hv
  rw [List.getElem?_map] at hb
  cases hc : bs[i]? with
  | none => rw [hc] at hb; cases hb
  | some c =>
    rw [hc] at hb
    injection hb with hb
    subst hb
    exact ⟨c, t, rfl, rfl⟩
theorem Fr.as {h₀ h : Heap} {L : Addr} {m m' : PySem.Str → Option Value} (F : Fr h₀ L h m) (e : ∀ y, m y = m' y) : Fr h₀ L h m' := (funext e : m = m') ▸ F
/-- a name read out of a frame -/
theorem rd1 {h₀ h : Heap} {L : Addr} {m m' : PySem.Str → Option Value} {x : PySem.Str} {v : Value} (F : Fr h₀ L h m') (hm : ∀ y, m' y = m y) (e : m x = some v) :
    Fr h₀ L h (fun y => if y = x then some v else m' y) ∧ ∀ y, (if y = x then some v else m' y) = m y := by
  have q : ∀ y, (if y = x then some v else m' y) = m y := fun y => by
    by_cases hy : y = x
    · rw [if_pos hy, hy, e]
    · rw [if_neg hy, hm]
  exact ⟨Fr.as F fun y => by rw [q, hm], q⟩
theorem rd3 {h₀ h : Heap} {L : Addr} {m : PySem.Str → Option Value} {x y z : PySem.Str} {v u w : Value} (F : Fr h₀ L h m) (e : m x = some v) (e' : m y = some u) (e'' : m z = some w) :
    Fr h₀ L h (fun i => if i = z then some w else if i = y then some u else if i = x then some v else m i) :=
  (rd1 (rd1 (rd1 F (fun _ => rfl) e).1 (rd1 F (fun _ => rfl) e).2 e').1 (rd1 (rd1 F (fun _ => rfl) e).1 (rd1 F (fun _ => rfl) e).2 e').2 e'').1
theorem append_L {prog : Program} {w : World} {A : Around} {E : Value → Shared → Prop} {s : Shared} {h₀ : Heap} {L D : Addr} {m : PySem.Str → Option Value} {news news' : List (Addr × Obj)} {vs : List Value} {n : Nat} {x : Value} {Q : Value → Shared → Prop} (F : Fr h₀ L s.heap m) (N : News h₀ L s.heap news) (U : Upd D (listOf vs.toArray n) (listOf (vs ++ [x]).toArray (n + 1)) news news')
    (h : ∀ h', Fr h₀ L h' m → News h₀ L h' news' → Q .none { s with heap := h' }) (hsz : vs.length ≤ 16777216) : wpAny (model prog w) A (call (.builtin "list.append") [.ref D, x]) Q E s :=
  append_K F N (by rw [List.push_toArray]; exact U) h (by rw [sizeLine_eq, List.size_toArray]; exact hsz)
theorem add_L {prog : Program} {w : World} {A : Around} {E : Value → Shared → Prop} {h : Heap} {g : Array GenState} {dr : Drawn} {tk : Nat} {os : OsState} {a b : List UInt8} {t u : Tok} {Q : Value → Shared → Prop} (hsz : a.length + b.length ≤ 16777216)
    (hq : ∀ t' k, Q (.bytes (a ++ b).toArray t') ⟨h, g, dr, k, os⟩) : wpAny (model prog w) A (binaryOp .Add (.bytes a.toArray t) (.bytes b.toArray u)) Q E ⟨h, g, dr, tk, os⟩ := by
  refine KBy.add_bytes (by rw [List.size_toArray, List.size_toArray]; exact hsz) fun t' k => ?_
  rw [List.append_toArray]
  exact hq t' k
theorem binds_dflt {s : Shared} {fd : FuncData} {args : Args} {binds : List (PySem.Str × Value)} {T : Addr} {items : Array Value} {n : Nat} {od : Option Addr} {oc : Value} {sl : Array (Option Value)}
    {k : Option (Array Value) → Sem (List (PySem.Str × Value))} {K : Frag} (X : K.In s.heap) (hd : fd.defaults = .ref T) (ho : K.lookup T = some ⟨oc, od, .seq items n, sl⟩)
    (h₁ : bindArgs fd args = seqItems? fd.defaults >>= k) (h₂ : k (some items) = pure binds) : BindsTo s fd args binds := BindsTo.of_defaults hd (X _ _ ho) rfl h₁ h₂
/- M3 -/
theorem off_M3 : True := by w_top off; trivial
local macro_rules | `(tactic| walk_at "m_arith") => `(tactic| first | omega | (refine Nat.le_trans (cut_length _ _ _) ?_; omega) | (simp only [List.length_append, List.length_take, List.length_drop, List.length_cons, List.length_nil]; omega))
local macro_rules | `(tactic| walk_at "subscriptTail") => `(tactic| (k_here; (with_reducible show wpAny _ _ (subscriptTail _ (Expr.Slice _ _ none _) (Value.bytes _ _) (Value.ref _)) _ _ _); (with_reducible rename Fr _ _ _ _ => F'); (with_reducible rename News _ _ _ _ => N'); (refine slice_L F' N' (by constructor) (by constructor) (by walk_at "m_arith") ?_); intro _ _ _ F' N'))
local macro_rules | `(tactic| walk_at "exec While") => `(tactic| (k_here; (with_reducible show wpAny _ _ (exec (Stmt.While _ _ _ _) _) _ _ _); refine stop_here ?_))
local macro_rules | `(tactic| walk_at "call builtin:len") => `(tactic| (k_here; (with_reducible show wpAny _ _ (call (Value.builtin "len") [Value.bytes _ _]) _ _ _); refine len_L (by walk_at "m_arith") ?_; intro lenT lenK))
local macro_rules | `(tactic| walk_at "call builtin:list.append") => `(tactic| (k_here; (with_reducible show wpAny _ _ (call (Value.builtin _) [Value.ref _, _]) _ _ _); k_dflt (refine' append_L ?k1 ?k2 ?k3 ?_ ?z; (case k1 => k_asm); (case k2 => k_asm); (case k3 => k_upd); (case z => walk_at "m_arith"); k_whole); intro h' F' N'))
local macro_rules | `(tactic| walk_at "binaryOp Add bytes bytes") => `(tactic| (k_here; (with_reducible show wpAny _ _ (binaryOp Operator.Add (Value.bytes _ _) (Value.bytes _ _)) _ _ _); (refine add_L (by walk_at "m_arith") ?_); intro _ _))
local macro_rules | `(tactic| walk_at "call ref") => `(tactic| (k_here; (with_reducible show wpAny _ _ (call (Value.ref 104) _ _) _ _ _); (with_reducible rename Fr _ _ _ _ => F'); (with_reducible rename News _ _ _ _ => N'); (with_reducible rename Wd _ _ _ _ _ => X'); (with_reducible rename Room _ _ => r'); (refine line_at_spec (X'.grow F'.keep) (r'.mono (by decide)) (by walk_at "m_arith") (by walk_at "m_arith") (by walk_at "m_arith") ?_); intro a' h' tk' u' v' x'; (have F'' := x'.fr F'); (have N'' := x'.news F' N'); (have z'' := x'.off N'); (try simp only [List.forall_mem_cons, List.forall_mem_nil, and_true] at z''); (dsimp only [tupO] at N'')))
local macro_rules | `(tactic| walk_at "call ref") => `(tactic| (k_here; (with_reducible show wpAny _ _ (call (Value.ref 111) _ _) _ _ _); (with_reducible rename Fr _ _ _ _ => F'); (with_reducible rename News _ _ _ _ => N'); (with_reducible rename Wd _ _ _ _ _ => X'); (with_reducible rename Room _ _ => r'); (refine is_name_spec (X'.grow F'.keep) (r'.mono (by decide)) (by walk_at "m_arith") ?_); intro h' tk' k'; (have F'' := F'.keptAll k'); (have N'' := N'.grown k')))
noncomputable def colonIn (l : List UInt8) (i j : Nat) : Option Nat :=
  match nth l 58 i j with
  | some k => if isName ((l.drop i).take (k - i)) = true then some k else none
  | none => none
section
variable {w : World} {mean : ExcName → Option Value} {mg mb : Str → Option Value} {A : Around} {s : Shared} {Q : Value → Shared → Prop} {E : Value → Shared → Prop}
theorem colon_in_spec {l : List UInt8} {i j : Nat} {t1 t2 t3 : Tok} 
    (X : Wd w mean mg mb s.heap) (r : Room A 2) (hij : i ≤ j) (hj : j ≤ l.length) (hl : l.length ≤ 16777216)
    (hs : ∀ (k : Nat) h' tk t, colonIn l i j = some k → i ≤ k → k < j → Grow s.heap h' → Q (.int k t) { s with heap := h', toks := tk })
    (hn : ∀ h' tk t, colonIn l i j = none → Grow s.heap h' → Q (.int (-1) t) { s with heap := h', toks := tk }) : wpAny (model prg w) A (call (.ref 118) [.bytes l.toArray t1, .int i t2, .int j t3] []) Q E s := by
  obtain ⟨hK, hT⟩ := id X
  obtain ⟨hd, dp, fr, gd, un⟩ := A
  cases r.handled
  walk_at "m_enter"
  intro L h₁ tk r' F N
  k_steps
  refine find_K hij hj (fun k t' tk' hf h1 h2 => ?_) (fun t' tk' hf => ?_)
  · k_steps
    all_goals rename Fr _ _ _ _ => F'
    · rename isName _ = true => hc
      rw [cut_nat rfl rfl (by omega) h1] at hc
      exact hs k _ _ _ (by unfold colonIn; rw [hf]; exact if_pos hc) h1 h2 F'.keep
    · rename isName _ = false => hc
      rw [cut_nat rfl rfl (by omega) h1] at hc
      exact hn _ _ _ (by unfold colonIn; rw [hf]; exact if_neg (by rw [hc]; decide)) F'.keep
  · k_steps
    rename Fr _ _ _ _ => F'
    exact hn _ _ _ (by unfold colonIn; rw [hf]) F'.keep
end
/- M4 -/
theorem off_M4 : True := by w_top off; trivial
inductive Rows (l : List UInt8) : Nat → List (List UInt8) → Prop
  | last {a : Nat} (h : (lineAt l a l.length).1 = l.length) : Rows l a [(l.drop a).take (l.length - a)]
  | more {a : Nat} {rs : List (List UInt8)} (h : (lineAt l a l.length).1 ≠ l.length) (r : Rows l (lineAt l a l.length).2 rs) : Rows l a ((l.drop a).take ((lineAt l a l.length).1 - a) :: rs)

theorem lineAt_bounds {l : List UInt8} {i j : Nat} (h : i ≤ j) : i ≤ (lineAt l i j).1 ∧ (lineAt l i j).1 ≤ (lineAt l i j).2 ∧ (lineAt l i j).2 ≤ j ∧ (i < j → i < (lineAt l i j).2) ∧ ((lineAt l i j).1 ≠ j → i < j ∧ (lineAt l i j).1 < (lineAt l i j).2) := by
  unfold lineAt
  cases hn : nth l 10 i j with
  | none => exact ⟨h, Nat.le_refl _, Nat.le_refl _, id, fun q => absurd rfl q⟩
  | some k =>
    have hk := find_lo hn
    have hlt := Nat.lt_of_le_of_lt hk.1 hk.2
    simp only
    split
    · rename_i hc
      exact ⟨Nat.le_sub_one_of_lt hc.1, Nat.le_trans (Nat.sub_le _ _) (Nat.le_succ _), hk.2, fun _ => Nat.lt_succ_of_le hk.1, fun _ => ⟨hlt, Nat.lt_of_le_of_lt (Nat.sub_le _ _) (Nat.lt_succ_self _)⟩⟩
    · exact ⟨hk.1, Nat.le_succ _, hk.2, fun _ => Nat.lt_succ_of_le hk.1, fun _ => ⟨hlt, Nat.lt_succ_self _⟩⟩
theorem Rows.length {l : List UInt8} {a : Nat} {rs : List (List UInt8)} (r : Rows l a rs) (ha : a ≤ l.length) : rs.length + a ≤ l.length + 1 := by
  induction r with
  | last h => simp only [List.length_cons, List.length_nil]; omega
  | more h r ih =>
    have hb := lineAt_bounds (l := l) ha
    have := hb.2.2.2.2 h
    have := ih hb.2.2.1
    simp only [List.length_cons]
    omega
noncomputable def rowInv (l : List UInt8) (t1 : Tok) (R : Addr) (h₀ : Heap) (L : Addr) (n : Nat) (h : Heap) : Prop := ∃ (a : Nat) (ta : Tok) (vs : List Value) (bs : List (List UInt8)) (nn : Nat) (m : Str → Option Value), n = l.length + 1 - a ∧ a ≤ l.length ∧ bs.length ≤ a ∧ Bl vs bs ∧ (∀ rs, Rows l a rs → Rows l 0 (bs ++ rs)) ∧
    m (Str.ofString "at") = some (.int (a : Nat) ta) ∧ m (Str.ofString "rows") = some (.ref R) ∧ m (Str.ofString "raw") = some (.bytes l.toArray t1) ∧
    Fr h₀ L h m ∧ News h₀ L h [(R, listOf vs.toArray nn)]
section
variable {w : World} {mean : ExcName → Option Value} {mg mb : Str → Option Value} {A : Around} {s : Shared} {Q : Value → Shared → Prop} {E : Value → Shared → Prop}
theorem rows_of_spec {l : List UInt8} {t1 : Tok} 
    (X : Wd w mean mg mb s.heap) (r : Room A 2) (hl : l.length ≤ 16777216)
    (hQ : ∀ a h' tk vs nn bs, Rows l 0 bs → Bl vs bs → vs.length ≤ l.length + 1 → NewAt s.heap h' a (listOf vs.toArray nn) → Q (.ref a) { s with heap := h', toks := tk }) : wpAny (model prg w) A (call (.ref 139) [.bytes l.toArray t1] []) Q E s := by
  obtain ⟨hK, hT⟩ := id X
  obtain ⟨hd, dp, fr, gd, un⟩ := A
  cases r.handled
  walk_at "m_enter"
  intro L h₁ tk r' F N
  replace F : Fr s.heap L h₁ (fun y => List.lookup y [(Str.ofString "raw", .bytes l.toArray t1)]) := F
  k_steps
  rename_i R _ _ _ hh F' N'
  refine go_on (While_O (rowInv l t1 R s.heap L) (n₀ := l.length + 1) ?_ ?_)
  · exact ⟨0, _, [], [], _, _, by omega, by omega, Nat.le_refl _, Bl.nil, fun rs h => h, rfl, rfl, rfl, F', N'⟩
  · rintro n h₁ tk₁ hJz
    refine hide_goal fun Cz hCz => ?_
    obtain ⟨a, ta, vs, bs, nn, m, rfl, ha, hba, hbs, hrows, m1, m2, m3, F₁, N₁⟩ := hJz
    refine hCz ?_
    clear hCz
    clear Cz
    clear F' N'
    have hvs : vs.length ≤ 16777216 := by rw [hbs.length]; omega
    have hb := lineAt_bounds (l := l) ha
    have ec : cut l (some (a : Int)) (some ((lineAt l a l.length).1 : Int)) = (l.drop a).take ((lineAt l a l.length).1 - a) := cut_nat rfl rfl (by omega) hb.1
    replace F₁ := rd3 F₁ m1 m2 m3
    intro Qb hQb Qf hQf
    k_steps
    all_goals rename Fr _ _ _ _ => F'
    all_goals rename News _ _ _ _ => N'
    · rename (_ : Int) = _ => he
      have he' : (lineAt l a l.length).1 = l.length := by omega
      rw [ec, he'] at N'
      subst hQb
      k_steps
      exact hQ R _ _ _ _ _ (hrows _ (Rows.last he')) hbs.snoc (by rw [List.length_append, hbs.length]; simp only [List.length_cons, List.length_nil]; omega) (NewAt.of F' N' (List.mem_cons_of_mem _ (List.mem_cons_self ..)))
    · rename (_ : Int) ≠ _ => he
      have he' : (lineAt l a l.length).1 ≠ l.length := by omega
      have := hb.2.2.2.2 he'
      rw [ec] at N'
      subst hQb
      k_steps
      refine ⟨_, _, _, rfl, ?_, (lineAt l a l.length).2, _, _, _, _, _, rfl, hb.2.2.1, ?_, hbs.snoc, ?_, rfl, rfl, rfl, F', fun p hp => N' p (List.mem_cons_of_mem _ hp)⟩
      · omega
      · rw [List.length_append]; simp only [List.length_cons, List.length_nil]; omega
      · intro rs hrs
        rw [List.append_assoc]
        exact hrows _ (Rows.more he' hrs)
end
/- M5 -/
theorem off_M5 : True := by w_top off; trivial
section
variable {prog : Program} {w : World} {A : Around} {E : Value → Shared → Prop} {s : Shared} {env : Env} {h₀ : Heap} {x : PySem.Str} {body : List Stmt} {Q : Flow → Shared → Prop} {m₀ : PySem.Str → Option Value}
theorem iter_listV {l : Addr} {vs : List Value} {news : List (Addr × Obj)} (J : Nat → (PySem.Str → Option Value) → List (Addr × Obj) → Prop)
    (hh : A.handled = none) (hl : s.heap.IsList l vs.toArray) (hlL : l ≠ env.locals) (hln : ∀ q ∈ news, q.1 ≠ l) (F : Fr h₀ env.locals s.heap m₀) (N : News h₀ env.locals s.heap news) (hj : J 0 m₀ news)
    (turn : ∀ i v m₁ news₁ h tk own, vs[i]? = some v → OwnOff own (news.map (·.1)) → J i m₁ news₁ → Fr h₀ env.locals h (fun y => if y = x then some v else m₁ y) → News h₀ env.locals h (news₁ ++ own) →
      wpAny (model prog w) A (execs body env) (InvPostN h₀ env.locals (J (i + 1)) own (news.map (·.1)) { s with heap := h, toks := tk } Q) E { s with heap := h, toks := tk })
    (done : ∀ m₁ news₁ h tk, J vs.length m₁ news₁ → Fr h₀ env.locals h m₁ → News h₀ env.locals h news₁ → Q .next { s with heap := h, toks := tk }) :
    wpAny (model prog w) A (pyIter (.ref l)) (fun it s₂ => LoopAtV prog w A h₀ env x body Q E it s₂) E s := by
  have hlt : l < s.heap.objs.size := by
    obtain ⟨o, ho, _⟩ := hl
    exact Heap.lt_size ho
  have hne : l ≠ s.heap.objs.size := Nat.ne_of_lt hlt
  refine wpAny_pyIter_list hl ?_
  have W := Walks.list (prog := prog) (w := w) hh s.heap.objs.size l hne vs.toArray
  refine loop_invN J W ?_ ?_ ?_ ?_ ⟨⟨_, Heap.get?_push_size _ rfl, rfl, rfl⟩, hl.at fun o e => Heap.get?_push_of_some _ e⟩ (F.push _) (fun p hp => ⟨Heap.get?_push_of_some _ (N p hp).1, (N p hp).2⟩) hj ?_ ?_
  · intro hm
    rcases List.mem_cons.mp hm with e | hm
    · exact absurd F.ns.lt (e ▸ Nat.lt_irrefl _)
    · exact hlL (List.mem_singleton.mp hm).symm
  · intro b hb
    rw [List.mem_singleton.mp hb]
    exact next_is_new F
  · intro p hp hI
    exact absurd (Heap.lt_size (N p hp).1) ((List.mem_singleton.mp hI) ▸ Nat.lt_irrefl _)
  · intro p hp hI
    rcases List.mem_cons.mp hI with e | hm
    · exact absurd (Heap.lt_size (N p hp).1) (e ▸ Nat.lt_irrefl _)
    · exact hln p hp (List.mem_singleton.mp hm)
  · rintro i v m₁ news₁ h tk own hi hv _ hoff hJ F₁ N₁
    exact turn i v m₁ news₁ h tk own (by simpa using hv) hoff hJ F₁ N₁
  · intro m₁ news₁ h tk hJ F₁ N₁
    rw [List.size_toArray] at hJ
    exact done m₁ news₁ h tk hJ F₁ N₁

/-- a loop over a list whose turn changes nothing but its own name -/
theorem iter_list0 {l : Addr} {vs : List Value} {news : List (Addr × Obj)} (G : Nat → Prop)
    (hh : A.handled = none) (hl : s.heap.IsList l vs.toArray) (hlL : l ≠ env.locals) (hln : ∀ q ∈ news, q.1 ≠ l) (F : Fr h₀ env.locals s.heap m₀) (N : News h₀ env.locals s.heap news) (h0 : G 0)
    (turn : ∀ i v h tk own, vs[i]? = some v → G i → OwnOff own (news.map (·.1)) → Fr h₀ env.locals h (fun y => if y = x then some v else m₀ y) → News h₀ env.locals h (news ++ own) →
      wpAny (model prog w) A (execs body env) (InvPostN h₀ env.locals (fun m nx => (nx = news ∧ G (i + 1)) ∧ ∀ z, z ≠ x → m z = m₀ z) own (news.map (·.1)) { s with heap := h, toks := tk } Q) E { s with heap := h, toks := tk })
    (done : ∀ (u : PySem.Str → Option Value) h tk, G vs.length → Fr h₀ env.locals h (fun y => if y = x then u y else m₀ y) → News h₀ env.locals h news → Q .next { s with heap := h, toks := tk }) :
    wpAny (model prog w) A (pyIter (.ref l)) (fun it s₂ => LoopAtV prog w A h₀ env x body Q E it s₂) E s := by
  refine iter_listV (fun i m nx => (nx = news ∧ G i) ∧ ∀ z, z ≠ x → m z = m₀ z) hh hl hlL hln F N ⟨⟨rfl, h0⟩, fun _ _ => rfl⟩ ?_ ?_
  · rintro i v m nx h tk own hv hoff ⟨⟨rfl, hG⟩, hm⟩ F₁ N₁
    rw [map_none hm] at F₁
    exact turn i v h tk own hv hG hoff F₁ N₁
  · rintro m nx h tk ⟨⟨rfl, hG⟩, hm⟩ F₁ N₁
    exact done m h tk hG (by rw [done_none hm]; exact F₁) N₁
end

/-- what stands in a Field's own names besides its name -/
noncomputable def RawIs (es : List DictEntry) (r : List UInt8) (tr : Tok) : Prop := getL (Str.ofString "raw") es = some (some (.bytes r.toArray tr)) ∧ getL (Str.ofString "told") es = some none
/-- a Field with this name and this raw -/
noncomputable def FieldAt (h : Heap) (x : Addr) (n r : List UInt8) : Prop :=
  ∃ dx es nn tn tr, h.get? x = some (instObj 93 dx) ∧ h.get? dx = some (dictOf es nn) ∧ getL (Str.ofString "name") es = some (some (.bytes n.toArray tn)) ∧ RawIs es r tr
theorem FieldAt.grow {h h' : Heap} {x : Addr} {n r : List UInt8} (X : FieldAt h x n r) (k : Grow h h') : FieldAt h' x n r := by
  obtain ⟨dx, es, nn, tn, tr, h1, h2, h3, h4⟩ := X
  exact ⟨dx, es, nn, tn, tr, k _ _ h1, k _ _ h2, h3, h4⟩
theorem inst_of {h : Heap} {x dx C : Addr} {es : List DictEntry} {n : Nat} (h1 : h.get? x = some (instObj C dx)) (h2 : h.get? dx = some (dictOf es n)) : InstAt h x (instObj C dx) C (some (dictOf es n)) := ⟨h1, rfl, rfl, h2⟩
section
variable {prog : Program} {w : World} {A : Around} {E : Value → Shared → Prop} {s : Shared} {h₀ : Heap} {L : Addr} {m : PySem.Str → Option Value} {x : Addr} {n r : List UInt8} {expr : Bool} {Q : Value → Shared → Prop}
theorem field_name (hw : (hd.heap_39 w.params).In h₀) (F : Fr h₀ L s.heap m) (X : FieldAt s.heap x n r) (h : ∀ t k, Q (.bytes n.toArray t) { s with toks := k }) : wpAny (model prog w) A (getAttr (.ref x) (Str.ofString "name") expr) Q E s := by
  obtain ⟨dx, es, nn, tn, tr, h1, h2, h3, h4⟩ := X
  exact get_own F hw (inst_of h1 h2) (by k_dflt k_is) (by k_dflt k_is) (by k_dflt k_is) (by k_dflt k_is) h3 rfl (h _ _)
theorem field_raw (hw : (hd.heap_39 w.params).In h₀) (F : Fr h₀ L s.heap m) (X : FieldAt s.heap x n r) (h : ∀ t k, Q (.bytes r.toArray t) { s with toks := k }) : wpAny (model prog w) A (getAttr (.ref x) (Str.ofString "raw") expr) Q E s := by
  obtain ⟨dx, es, nn, tn, tr, h1, h2, h3, h4⟩ := X
  exact get_own F hw (inst_of h1 h2) (by k_dflt k_is) (by k_dflt k_is) (by k_dflt k_is) (by k_dflt k_is) h4.1 rfl (h _ _)
theorem told_meth {pl : Sem Bool} {QM : Value × List Value → Shared → Prop} (hw : (hd.heap_39 w.params).In h₀) (F : Fr h₀ L s.heap m) (X : FieldAt s.heap x n r) (h : QM (.ref 90, [.ref x]) s) : wpAny (model prog w) A (getMethod (.ref x) (Str.ofString "told") pl) QM E s := by
  obtain ⟨dx, es, nn, tn, tr, h1, h2, h3, h4⟩ := X
  exact method_inst F hw (inst_of h1 h2) (by k_dflt k_is) (by k_dflt k_is) (by k_dflt k_is) h4.2 h
end
theorem white_tup {w : World} {h : Heap} (hw : (hd.heap_39 w.params).In h) : ∃ items, IsTup h 62 items ∧ IntsAre items.toList [32, 9] := by
  have e : ∃ t t', (hd.heap_39 w.params).lookup 62 = some { cls := .type "tuple", data := .seq #[.int 32 t, .int 9 t'] } := ⟨256, 257, by k_dflt k_is⟩
  obtain ⟨t, t', e⟩ := e
  exact ⟨_, ⟨_, hw _ _ e, rfl, _, rfl⟩, by repeat constructor⟩
noncomputable def isWhite (c : UInt8) : Bool := c == 32 || c == 9
theorem white_any (c : UInt8) : ([32, 9] : List Int).any (· == (c.toNat : Int)) = isWhite c := by
  unfold isWhite
  have key : ∀ n : Nat, n < 256 → ((n : Int) == (c.toNat : Int)) = (c == UInt8.ofNat n) := by
    intro n hn
    have e : (UInt8.ofNat n).toNat = n := by
      rw [UInt8.toNat_ofNat']
      exact Nat.mod_eq_of_lt hn
    rw [Bool.eq_iff_iff, beq_iff_eq, beq_iff_eq, ← UInt8.toNat_inj, e]
    omega
  have h1 := key 32 (by decide)
  have h2 := key 9 (by decide)
  simp only [List.any_cons, List.any_nil, Bool.or_false]
  exact congr (congrArg or h1) h2
section
variable {prog : Program} {w : World} {A : Around} {E : Value → Shared → Prop} {s : Shared} {h₀ : Heap} {L : Addr} {m : PySem.Str → Option Value} {c : UInt8} {t : Tok} {Q : Value → Shared → Prop}
theorem white_notin (hw : (hd.heap_39 w.params).In h₀) (F : Fr h₀ L s.heap m) (h : Q (.bool (!isWhite c)) s) : wpAny (model prog w) A (compareOp .NotIn (.int (c.toNat : Int) t) (.ref 62)) Q E s := by
  obtain ⟨items, ht, hi⟩ := white_tup (hw.keeps F.keep)
  refine notin_tuple_ints ht hi ?_
  rw [white_any]
  exact h
theorem white_in (hw : (hd.heap_39 w.params).In h₀) (F : Fr h₀ L s.heap m) (h : Q (.bool (isWhite c)) s) : wpAny (model prog w) A (compareOp .In (.int (c.toNat : Int) t) (.ref 62)) Q E s := by
  obtain ⟨items, ht, hi⟩ := white_tup (hw.keeps F.keep)
  refine in_tuple_ints ht hi ?_
  rw [white_any]
  exact h
end
/- M6 -/
theorem off_M6 : True := by w_top off; trivial
local macro_rules | `(tactic| walk_at "getAttr ref") => `(tactic| (k_here; (with_reducible rename Fr _ _ _ _ => F'); (first | ((with_reducible show wpAny _ _ (getAttr (Value.ref _) (PySem.Str.ofString "name") _) _ _ _); (refine' field_name (by assumption) F' ?fl ?_); (case fl => walk_at "m_field")) | ((with_reducible show wpAny _ _ (getAttr (Value.ref _) (PySem.Str.ofString "raw") _) _ _ _); (refine' field_raw (by assumption) F' ?fl ?_); (case fl => walk_at "m_field"))); intro _ _))
local macro_rules | `(tactic| walk_at "m_field") => `(tactic| first | assumption | (refine' FieldAt.grow ?fa (Fr.keep (by assumption)); (case fa => assumption)))
local macro_rules | `(tactic| walk_at "call ref") => `(tactic| (k_here; (with_reducible show wpAny _ _ (call (Value.ref 139) _ _) _ _ _); refine stop_here ?_))
local macro_rules | `(tactic| walk_at "exec For") => `(tactic| (k_here; (with_reducible show wpAny _ _ (exec (Stmt.For _ _ _ _ _) _) _ _ _); refine stop_here ?_))
local macro_rules | `(tactic| walk_at "pyIter ref") => `(tactic| (k_here; (with_reducible show wpAny _ _ (pyIter (Value.ref _)) _ _ _); refine stop_here ?_))
local macro_rules | `(tactic| walk_at "m_for") => `(tactic| (refine go_on ?_; (with_reducible rename Fr _ _ _ _ => lF'); (with_unfolding_all refine' For_invVF lF' ?k1 ?k2 ?_; (case k1 => exact rfl); (case k2 => exact rfl)); k_steps))
local macro_rules | `(tactic| walk_at "compareOp NotIn int ref") => `(tactic| (k_here; (with_reducible show wpAny _ _ (compareOp CmpOp.NotIn (Value.int _ _) (Value.ref 62)) _ _ _); (with_reducible rename Fr _ _ _ _ => F'); refine white_notin (by assumption) F' ?_))
local macro_rules | `(tactic| walk_at "compareOp In int ref") => `(tactic| (k_here; (with_reducible show wpAny _ _ (compareOp CmpOp.In (Value.int _ _) (Value.ref 62)) _ _ _); (with_reducible rename Fr _ _ _ _ => F'); refine white_in (by assumption) F' ?_))
/-- white ahead -/
noncomputable def whiteHead : List UInt8 → Bool
  | [] => false
  | c :: _ => isWhite c
noncomputable def tailOk (rs : List (List UInt8)) : Bool := rs.tail.all whiteHead

theorem pick_from (vs : List Value) (k : Nat) : slicePick vs.toArray (some (k : Int)) none none = (vs.drop k).toArray := by
  rw [slicePick_plain]
  simp only [Option.elim, clipAt_nat, List.size_toArray]
  congr 1
  by_cases h : k ≤ vs.length
  · rw [Nat.min_eq_left h, List.take_of_length_le (by rw [List.length_drop]; omega)]
  · rw [Nat.min_eq_right (by omega), List.drop_of_length_le (Nat.le_refl _), List.drop_of_length_le (by omega), List.take_nil]
theorem pick_one (vs : List Value) : slicePick vs.toArray (some 1) none none = (vs.drop 1).toArray := pick_from vs 1
theorem Rows.le {l : List UInt8} {a : Nat} {rs : List (List UInt8)} (r : Rows l a rs) : ∀ b ∈ rs, b.length ≤ l.length := by
  induction r with
  | last h =>
    intro b hb
    rw [List.mem_singleton.1 hb, List.length_take, List.length_drop]
    exact min_sub _ _ _
  | more h r ih =>
    intro b hb
    rcases List.mem_cons.1 hb with rfl | hb
    · rw [List.length_take, List.length_drop]; exact min_sub _ _ _
    · exact ih b hb
theorem Rows.unique {l : List UInt8} {a : Nat} {rs rs' : List (List UInt8)} (r : Rows l a rs) (r' : Rows l a rs') : rs = rs' := by
  induction r generalizing rs' with
  | last h =>
    cases r' with
    | last _ => rfl
    | more h' _ => exact absurd h h'
  | more h r ih =>
    cases r' with
    | last h' => exact absurd h' h
    | more h' r' => rw [ih r']
theorem tailOk_no {rs : List (List UInt8)} {i : Nat} {b : List UInt8} (h : (rs.drop 1)[i]? = some b) (hb : whiteHead b = false) : tailOk rs = false := by
  unfold tailOk
  rw [← List.drop_one, List.all_eq_false]
  exact ⟨b, List.mem_of_getElem? h, by rw [hb]; decide⟩
section
variable {w : World} {mean : ExcName → Option Value} {mg mb : Str → Option Value} {A : Around} {s : Shared} {Q : Value → Shared → Prop} {E : Value → Shared → Prop}
theorem is_sound_spec {x : Addr} {n r : List UInt8}
    (X : Wd w mean mg mb s.heap) (R : Room A 3) (hf : FieldAt s.heap x n r) (hn : n.length ≤ 16777216) (hr : r.length ≤ 16777215)
    (hQ : ∀ h' tk b, (∀ rs, Rows r 0 rs → b = (isName n && tailOk rs)) → Grow s.heap h' → Q (.bool b) { s with heap := h', toks := tk }) : wpAny (model prg w) A (call (.ref 146) [.ref x] []) Q E s := by
  obtain ⟨hK, hT⟩ := id X
  obtain ⟨hd, dp, fr, gd, un⟩ := A
  cases R.handled
  walk_at "m_enter"
  intro L h₁ tk r' F N
  k_steps
  · walk_at "m_for"
    refine go_on ?_
    with_reducible rename Fr _ _ _ _ => F'
    with_reducible rename News _ _ _ _ => N'
    with_reducible rename Wd _ _ _ _ _ => X'
    with_reducible rename Room _ _ => r'
    refine rows_of_spec (X'.grow F'.keep) (r'.mono (by decide)) (by walk_at "m_arith") ?_
    intro a' h₇ tk₇ vs' nn' bs' rw' bl' ln' x'
    have F₇ := x'.fr F'
    have N₇ := x'.news F' N'
    clear N'
    k_steps
    with_reducible rename Fr _ _ _ _ => F'
    with_reducible rename News _ _ _ _ => N'
    rename isName _ = true => hnm
    have Nl := News.isList N' (List.mem_cons_self ..)
    have Nn := (N' _ (List.mem_cons_self ..)).2.1
    dsimp only at Nl Nn
    rw [pick_one] at Nl
    refine go_on (iter_list0 (news := []) (fun i => ((bs'.drop 1).take i).all whiteHead = true) rfl Nl Nn (fun _ h => nomatch h) F' News.nil (by simp) ?_ ?_)
    · clear F' N'
      intro i v h tk own hv hG hoff F' N'
      refine hide_goal fun Cz hCz => ?_
      obtain ⟨b, t, hb, rfl⟩ := (bl'.drop 1).getV hv
      refine hCz ?_
      clear hCz
      clear Cz
      have hbl : b.length ≤ r.length := rw'.le b (List.mem_of_mem_drop (List.mem_of_getElem? hb))
      refine gen_post fun Qx hQx => ?_
      cases b with
      | nil =>
        k_steps
        subst hQx
        k_steps
        exact hQ _ _ _ (fun rs hrs => by rw [hrs.unique rw', tailOk_no hb rfl, Bool.and_false]) F'.keep
      | cons c b =>
        simp only [List.length_cons] at hbl
        k_steps
        all_goals subst hQx
        all_goals k_steps
        · rename (_ : Int) = 0 => h0
          simp only [List.length_cons] at h0
          omega
        · rename Fr _ _ _ _ => F'
          rename isWhite _ = true => hw
          rename (c :: b)[_]? = _ => hc
          have hc' : c = _ := Option.some.inj hc
          subst hc'
          refine ⟨_, _, _, _, [], rfl, F', N', (fun _ h => nomatch h), fun p hp => hp, rfl, ⟨rfl, ?_⟩, fun z hz => if_neg hz⟩
          rw [List.take_add_one, hb, List.all_append, hG]
          simp only [Option.toList, List.all_cons, List.all_nil, whiteHead, hw]
          rfl
        · rename Fr _ _ _ _ => F'
          rename isWhite _ = false => hw
          rename (c :: b)[_]? = _ => hc
          have hc' : c = _ := Option.some.inj hc
          subst hc'
          exact hQ _ _ _ (fun rs hrs => by rw [hrs.unique rw', tailOk_no hb hw, Bool.and_false]) F'.keep
    · intro u h tk hG F' N'
      k_steps
      refine hQ _ _ _ (fun rs hrs => ?_) F'.keep
      rw [hrs.unique rw', hnm, Bool.true_and, tailOk, ← List.drop_one, ← hG, List.take_of_length_le]
      rw [List.length_drop, List.length_drop, bl'.length]
      omega
  · rename isName _ = false => hnm
    rename Fr _ _ _ _ => F'
    exact hQ _ _ _ (fun rs _ => by rw [hnm]; rfl) F'.keep
end
/- ML -/
theorem off_ML : True := by w_top off; trivial
/- the plain law: lists of bytes alone -/
theorem extract_one (l : List UInt8) (c : UInt8) (i : Nat) : (l.toArray.extract i (i + 1) == #[c]) = (l[i]? == some c) := by
  rw [Bool.eq_iff_iff, beq_iff_eq, beq_iff_eq]
  have e : l.toArray.extract i (i + 1) = ((l.drop i).take 1).toArray := by
    rw [List.extract_toArray, List.extract_eq_take_drop]
    congr 2
    omega
  rw [e]
  cases h : l[i]? with
  | none =>
    rw [List.drop_of_length_le (List.getElem?_eq_none_iff.1 h)]
    simp
  | some d =>
    obtain ⟨hi, hd⟩ := List.getElem?_eq_some_iff.1 h
    rw [List.drop_eq_getElem_cons hi, hd]
    simp
theorem nth_some {l : List UInt8} {c : UInt8} {i j k : Nat} (h : nth l c i j = some k) : i ≤ k ∧ k < j ∧ l[k]? = some c ∧ ∀ m, i ≤ m → m < k → l[m]? ≠ some c := by
  have hk := find_lo h
  unfold nth Builtin.Bytes.find? at h
  have e : (#[c] : Array UInt8).size = 1 := rfl
  rw [e] at h
  rw [List.find?_eq_some_iff_append] at h
  obtain ⟨hp, as, bs, hab, hno⟩ := h
  rw [extract_one, beq_iff_eq] at hp
  refine ⟨hk.1, hk.2, hp, fun m hm1 hm2 hm3 => ?_⟩
  have hlen : as.length = k - i := by
    have h1 : (((List.range (j + 1 - (i + 1))).map (· + i)))[as.length]? = some k := by rw [hab]; simp
    rw [List.getElem?_map, List.getElem?_range] at h1
    · simp at h1; omega
    · have := congrArg List.length hab
      simp at this
      omega
  have h2 : as[m - i]? = some m := by
    have h1 : (((List.range (j + 1 - (i + 1))).map (· + i)))[m - i]? = some m := by
      rw [List.getElem?_map, List.getElem?_range (by omega)]
      simp
      omega
    rw [hab, List.getElem?_append_left (by omega)] at h1
    exact h1
  have h3 := hno m (List.mem_of_getElem? h2)
  rw [extract_one, hm3] at h3
  simp at h3
theorem nth_none {l : List UInt8} {c : UInt8} {i j : Nat} (h : nth l c i j = none) : ∀ m, i ≤ m → m < j → l[m]? ≠ some c := by
  intro m h1 h2 h3
  unfold nth Builtin.Bytes.find? at h
  have e : (#[c] : Array UInt8).size = 1 := rfl
  rw [e, List.find?_eq_none] at h
  have := h m (List.mem_map.2 ⟨m - i, List.mem_range.2 (by omega), by omega⟩)
  rw [extract_one, h3] at this
  simp at this
/-- to find it, it is enough to show it -/
theorem nth_eq {l : List UInt8} {c : UInt8} {i j k : Nat} (h1 : i ≤ k) (h2 : k < j) (h3 : l[k]? = some c) (h4 : ∀ m, i ≤ m → m < k → l[m]? ≠ some c) : nth l c i j = some k := by
  cases h : nth l c i j with
  | none => exact absurd h3 (nth_none h k h1 h2)
  | some k' =>
    obtain ⟨a1, a2, a3, a4⟩ := nth_some h
    rcases Nat.lt_trichotomy k k' with hlt | rfl | hlt
    · exact absurd h3 (a4 k h1 hlt)
    · rfl
    · exact absurd a3 (h4 k' a1 hlt)
theorem nth_eq_none {l : List UInt8} {c : UInt8} {i j : Nat} (h4 : ∀ m, i ≤ m → m < j → l[m]? ≠ some c) : nth l c i j = none := by
  cases h : nth l c i j with
  | none => rfl
  | some k' =>
    obtain ⟨a1, a2, a3, a4⟩ := nth_some h
    exact absurd a3 (h4 k' a1 a2)

/-- behind every newline comes white -/
noncomputable def okTail : List UInt8 → Bool
  | [] => true
  | c :: t => (!(c == 10) || whiteHead t) && okTail t
noncomputable def sound (n r : List UInt8) : Bool := isName n && okTail r

theorem okTail_no {l : List UInt8} (h : ∀ c ∈ l, c ≠ 10) : okTail l = true := by
  induction l with
  | nil => rfl
  | cons c t ih =>
    unfold okTail
    rw [ih fun d hd => h d (List.mem_cons_of_mem _ hd)]
    have : (c == 10) = false := beq_eq_false_iff_ne.2 (h c (List.mem_cons_self ..))
    rw [this]
    rfl
theorem okTail_split {p t : List UInt8} (h : ∀ c ∈ p, c ≠ 10) : okTail (p ++ 10 :: t) = (whiteHead t && okTail t) := by
  induction p with
  | nil => simp [okTail]
  | cons c p ih =>
    show ((!(c == 10) || whiteHead (p ++ 10 :: t)) && okTail (p ++ 10 :: t)) = _
    have : (c == 10) = false := beq_eq_false_iff_ne.2 (h c (List.mem_cons_self ..))
    rw [this, ih fun d hd => h d (List.mem_cons_of_mem _ hd)]
    simp
theorem isWhite_10 : isWhite 10 = false := by decide
theorem isWhite_13 : isWhite 13 = false := by decide
theorem whiteHead_row {l : List UInt8} {a : Nat} (ha : a ≤ l.length) : whiteHead ((l.drop a).take ((lineAt l a l.length).1 - a)) = whiteHead (l.drop a) := by
  cases hn : nth l 10 a l.length with
  | none =>
    rw [lineAt_none hn]
    dsimp only
    rw [List.take_of_length_le (by rw [List.length_drop]; omega)]
  | some k =>
    obtain ⟨h1, h2, h3, h4⟩ := nth_some hn
    have hx : ∀ x, a ≤ x → (∃ c, l[x]? = some c ∧ isWhite c = false) → whiteHead ((l.drop a).take (x - a)) = whiteHead (l.drop a) := by
      rintro x hax ⟨c, hc, hw⟩
      rcases Nat.lt_or_ge a x with hlt | hge
      · cases hd : l.drop a with
        | nil => rw [List.take_nil]
        | cons d t =>
          obtain ⟨q, hq⟩ : ∃ q, x - a = q + 1 := ⟨x - a - 1, sub_up (by omega)⟩
          rw [hq]
          rfl
      · have : x = a := by omega
        subst this
        rw [Nat.sub_self, List.take_zero]
        obtain ⟨hi, hd⟩ := List.getElem?_eq_some_iff.1 hc
        rw [List.drop_eq_getElem_cons hi, hd]
        exact hw.symm
    by_cases hc : a < k ∧ l[k - 1]? = some 13
    · rw [lineAt_cr hn hc.1 hc.2]
      exact hx (k - 1) (by omega) ⟨13, hc.2, isWhite_13⟩
    · rw [lineAt_no hn hc]
      exact hx k h1 ⟨10, h3, isWhite_10⟩
theorem drop_at {l : List UInt8} {k : Nat} {c : UInt8} (h : l[k]? = some c) : l.drop k = c :: l.drop (k + 1) := by
  obtain ⟨hi, hd⟩ := List.getElem?_eq_some_iff.1 h
  rw [List.drop_eq_getElem_cons hi, hd]
theorem drop_split {l : List UInt8} {a k : Nat} {c : UInt8} (h1 : a ≤ k) (h : l[k]? = some c) : l.drop a = (l.drop a).take (k - a) ++ c :: l.drop (k + 1) := by
  rw [← drop_at h]
  have := List.take_append_drop (k - a) (l.drop a)
  rw [List.drop_drop] at this
  have e : a + (k - a) = k := by omega
  rw [e] at this
  exact this.symm
theorem mem_run {l : List UInt8} {a n : Nat} {c : UInt8} (h : c ∈ (l.drop a).take n) : ∃ m, a ≤ m ∧ m < a + n ∧ l[m]? = some c := by
  obtain ⟨i, hi⟩ := List.mem_iff_getElem?.1 h
  have hlt : i < n := by
    have := (List.getElem?_eq_some_iff.1 hi).1
    rw [List.length_take] at this
    omega
  rw [List.getElem?_take_of_lt hlt, List.getElem?_drop] at hi
  exact ⟨a + i, by omega, by omega, hi⟩
theorem okTail_none {l : List UInt8} {a : Nat} (h : nth l 10 a l.length = none) : okTail (l.drop a) = true := by
  refine okTail_no fun c hc e => ?_
  subst e
  have hc' : (10 : UInt8) ∈ (l.drop a).take (l.length - a) := by rwa [List.take_of_length_le (by rw [List.length_drop]; omega)]
  obtain ⟨m, h1, h2, h3⟩ := mem_run hc'
  exact nth_none h m h1 (List.getElem?_eq_some_iff.1 h3).1 h3
theorem okTail_some {l : List UInt8} {a k : Nat} (h : nth l 10 a l.length = some k) : okTail (l.drop a) = (whiteHead (l.drop (k + 1)) && okTail (l.drop (k + 1))) := by
  obtain ⟨h1, h2, h3, h4⟩ := nth_some h
  rw [drop_split h1 h3]
  refine okTail_split fun c hc e => ?_
  subst e
  obtain ⟨m, g1, g2, g3⟩ := mem_run hc
  exact h4 m g1 (by omega) g3
theorem rows_of_law (l : List UInt8) : ∀ (n a : Nat), l.length - a ≤ n → a ≤ l.length → ∃ r rs, Rows l a (r :: rs) ∧ whiteHead r = whiteHead (l.drop a) ∧ rs.all whiteHead = okTail (l.drop a) := by
  intro n
  induction n with
  | zero =>
    intro a h1 h2
    have e : a = l.length := by omega
    have hn : nth l 10 a l.length = none := nth_eq_none fun m g1 g2 => by omega
    have hx := whiteHead_row h2
    rw [lineAt_none hn] at hx
    refine ⟨_, [], .last (by rw [lineAt_none hn]), hx, ?_⟩
    rw [okTail_none hn]
    rfl
  | succ n ih =>
    intro a h1 h2
    have hx := whiteHead_row h2
    cases hn : nth l 10 a l.length with
    | none =>
      rw [lineAt_none hn] at hx
      refine ⟨_, [], .last (by rw [lineAt_none hn]), hx, ?_⟩
      rw [okTail_none hn]
      rfl
    | some k =>
      obtain ⟨g1, g2, g3, g4⟩ := nth_some hn
      have e2 : (lineAt l a l.length).2 = k + 1 := by
        by_cases hc : a < k ∧ l[k - 1]? = some 13
        · rw [lineAt_cr hn hc.1 hc.2]
        · rw [lineAt_no hn hc]
      have e1 : (lineAt l a l.length).1 ≠ l.length := by
        by_cases hc : a < k ∧ l[k - 1]? = some 13
        · rw [lineAt_cr hn hc.1 hc.2]; dsimp only; omega
        · rw [lineAt_no hn hc]; dsimp only; omega
      obtain ⟨r, rs, hr, hw, hrs⟩ := ih (k + 1) (Nat.le_trans (Nat.sub_le_sub_left (Nat.succ_le_succ g1) _) (Nat.sub_le_sub_right h1 1)) (Nat.succ_le_of_lt g2)
      rw [← e2] at hr
      refine ⟨_, _, .more e1 hr, hx, ?_⟩
      rw [okTail_some hn, List.all_cons, hw, hrs]
theorem tailOk_eq {l : List UInt8} {rs : List (List UInt8)} (r : Rows l 0 rs) : tailOk rs = okTail l := by
  obtain ⟨q, qs, hq, _, hqs⟩ := rows_of_law l l.length 0 (by omega) (by omega)
  rw [r.unique hq]
  exact hqs
theorem sound_of {n r : List UInt8} {b : Bool} (h : ∀ rs, Rows r 0 rs → b = (isName n && tailOk rs)) : b = sound n r := by
  obtain ⟨q, qs, hq, _, hqs⟩ := rows_of_law r r.length 0 (by omega) (by omega)
  rw [h _ hq, tailOk_eq hq]
  rfl
/- M7 -/
theorem off_M7 : True := by w_top off; trivial
section
variable {prog : Program} {w : World} {A : Around} {s : Shared} {h₀ : Heap} {L : Addr} {m : PySem.Str → Option Value} {env : Env} {elt : PySem.Expr} {x : PySem.Str} {scope : Scope} {cl : List (PySem.Str × Addr)}
  {S : List (Addr × Obj) → Prop} {P : Nat → Value → Prop} {Fin : List Value → List (Addr × Obj) → Prop}
theorem CompEnd.mono {s₁ : Shared} {I C D : Addr} {oI oC oD : Obj} {rest rest' : Value → List (Addr × Obj) → Prop} {y : Value} {s₂ : Shared} (h : LCg.CompEnd h₀ L m s₁ I oI C oC D oD S rest y s₂) (k : ∀ y ns, rest y ns → rest' y ns) : LCg.CompEnd h₀ L m s₁ I oI C oC D oD S rest' y s₂ := by
  obtain ⟨h', tk, news', e, F, N, o, hS, r⟩ := h
  exact ⟨h', tk, news', e, F, N, o, hS, k _ _ r⟩
/-- a comprehension by a word over what is made so far -/
theorem comp_ind (Inv : Nat → List Value → List (Addr × Obj) → Prop) (n : Nat)
    (step : ∀ i ys news v I oI C oC D m₂ h tk (E' : Value → Shared → Prop), i < n → Inv i ys news → P i v → LCg.NsObj oC m₂ → m₂ x = some v → Fr h₀ L h m → News h₀ L h ((I, oI) :: (C, oC) :: (D, LCg.lst ys) :: news) → LCg.Off3 I C D news → ((@Ne Nat I C) ∧ (@Ne Nat I D) ∧ (@Ne Nat C D)) →
      wpAny (model prog w) A (eval elt (compEnvC scope cl C env)) (LCg.CompEnd h₀ L m { s with heap := h, toks := tk } I oI C oC D (LCg.lst ys) S (fun y news' => Inv (i + 1) (ys ++ [y]) news')) E' { s with heap := h, toks := tk })
    (fin : ∀ ys news, Inv n ys news → Fin ys news) : ∀ k i ys news, i + k = n → Inv i ys news → LCg.CompRest prog w A h₀ L m env elt x scope cl s S P Fin k i ys news := by
  intro k
  induction k with
  | zero =>
    intro i ys news e hI
    have : i = n := by omega
    subst this
    exact LCg.CompRest.zero (fin _ _ hI)
  | succ k ih =>
    intro i ys news e hI
    refine LCg.CompRest.succ fun v I oI C oC D m₂ h tk E' hP hC hx F N off ne => ?_
    refine wpAny_mono (step i ys news v I oI C oC D m₂ h tk E' (by omega) hI hP hC hx F N off ne) (fun y s₂ hy => ?_) fun _ _ e => e
    exact CompEnd.mono hy fun y ns hr => ih (i + 1) _ _ (by omega) hr
end
/-- Fields -/
inductive FsAt (h : Heap) : List Value → List (List UInt8 × List UInt8) → Prop
  | nil : FsAt h [] []
  | cons {x : Addr} {n r : List UInt8} {vs : List Value} {fs : List (List UInt8 × List UInt8)} (f : FieldAt h x n r) (t : FsAt h vs fs) : FsAt h (.ref x :: vs) ((n, r) :: fs)
namespace FsAt
theorem grow {h h' : Heap} (k : Grow h h') : ∀ {vs : List Value} {fs : List (List UInt8 × List UInt8)}, FsAt h vs fs → FsAt h' vs fs
  | _, _, .nil => .nil
  | _, _, .cons f t => .cons (f.grow k) (t.grow k)
theorem length {h : Heap} : ∀ {vs : List Value} {fs : List (List UInt8 × List UInt8)}, FsAt h vs fs → vs.length = fs.length
  | _, _, .nil => rfl
  | _, _, .cons _ t => by rw [List.length_cons, List.length_cons, t.length]
theorem append {h : Heap} : ∀ {vs : List Value} {fs : List (List UInt8 × List UInt8)} {vs' : List Value} {fs' : List (List UInt8 × List UInt8)}, FsAt h vs fs → FsAt h vs' fs' → FsAt h (vs ++ vs') (fs ++ fs')
  | _, _, _, _, .nil, k => k
  | _, _, _, _, .cons f t, k => .cons f (t.append k)
theorem snoc {h : Heap} {vs : List Value} {fs : List (List UInt8 × List UInt8)} {x : Addr} {n r : List UInt8} (t : FsAt h vs fs) (f : FieldAt h x n r) : FsAt h (vs ++ [.ref x]) (fs ++ [(n, r)]) := t.append (.cons f .nil)
theorem getV {h : Heap} : ∀ {vs : List Value} {fs : List (List UInt8 × List UInt8)}, FsAt h vs fs → ∀ {i : Nat} {v : Value}, vs[i]? = some v → ∃ (x : Addr) (n r : List UInt8), v = .ref x ∧ fs[i]? = some (n, r) ∧ FieldAt h x n r
  | _, _, .nil, i, v, hv => by simp at hv
  | _, _, .cons f t, 0, v, hv => by
    simp only [List.getElem?_cons_zero, Option.some.injEq] at hv
    exact ⟨_, _, _, hv.symm, rfl, f⟩
  | _, _, .cons f t, i + 1, v, hv => by
    simp only [List.getElem?_cons_succ] at hv ⊢
    exact t.getV hv
end FsAt
/-- glued with sep between -/
noncomputable def joinL (sep : List UInt8) : List (List UInt8) → List UInt8
  | [] => []
  | a :: r => a ++ r.flatMap fun b => sep ++ b
theorem joined_eq (sep : List UInt8) (bs : List (List UInt8)) : Builtin.Bytes.joined sep.toArray (bs.map List.toArray) = (joinL sep bs).toArray := by
  have key : ∀ (bs : List (List UInt8)) (k : Nat) (out : List UInt8), ((bs.map List.toArray).zipIdx (k + 1)).foldl (fun out (q : Array UInt8 × Nat) => (if q.2 > 0 then out ++ sep.toArray else out) ++ q.1) out.toArray = (out ++ bs.flatMap fun b => sep ++ b).toArray := by
    intro bs
    induction bs with
    | nil => intro k out; simp
    | cons b bs ih =>
      intro k out
      rw [List.map_cons, List.zipIdx_cons, List.foldl_cons, if_pos (Nat.succ_pos _), List.append_toArray, List.append_toArray, ih, List.flatMap_cons, List.append_assoc, List.append_assoc, List.append_assoc]
  cases bs with
  | nil => rfl
  | cons b bs =>
    show (((b :: bs).map List.toArray).zipIdx.foldl (fun out (q : Array UInt8 × Nat) => (if q.2 > 0 then out ++ sep.toArray else out) ++ q.1) #[]) = _
    rw [List.map_cons, List.zipIdx_cons, List.foldl_cons, if_neg (Nat.lt_irrefl 0)]
    have e : (#[] : Array UInt8) ++ b.toArray = b.toArray := by simp
    rw [e, key]
    rfl
theorem foldl_sizes (bs : List (List UInt8)) (n : Nat) : (bs.map List.toArray).foldl (fun n x => n + x.size) n = n + (bs.map List.length).sum := by
  induction bs generalizing n with
  | nil => simp
  | cons b bs ih =>
    rw [List.map_cons, List.foldl_cons, ih, List.map_cons, List.sum_cons, List.size_toArray]
    omega
theorem joinL_length (sep : List UInt8) (bs : List (List UInt8)) : (joinL sep bs).length ≤ sep.length * (bs.length - 1) + (bs.map List.length).sum := by
  have key : ∀ bs : List (List UInt8), (bs.flatMap fun b => sep ++ b).length = sep.length * bs.length + (bs.map List.length).sum := by
    intro bs
    induction bs with
    | nil => simp
    | cons b bs ih =>
      rw [List.flatMap_cons, List.length_append, List.length_append, ih, List.map_cons, List.sum_cons, List.length_cons, Nat.mul_succ]
      omega
  cases bs with
  | nil => simp [joinL]
  | cons b bs =>
    show (b ++ _).length ≤ _
    rw [List.length_append, key, List.map_cons, List.sum_cons, List.length_cons, Nat.add_sub_cancel]
    omega
section
variable {prog : Program} {w : World} {A : Around} {E : Value → Shared → Prop} {s : Shared} {sep : List UInt8} {bs : List (List UInt8)} {vs : List Value} {a : Addr} {t : Tok} {Q : Value → Shared → Prop}
theorem join_L (hl : s.heap.IsList a vs.toArray) (hv : Bl vs bs) (hs : sep.length * (bs.length - 1) + (bs.map List.length).sum ≤ 16777216)
    (h : ∀ t' k, Q (.bytes (joinL sep bs).toArray t') { s with toks := k }) :
    wpAny (model prog w) A (call (.builtin "bytes.join") [.bytes sep.toArray t, .ref a]) Q E s := by
  refine By.call_join hl hv ?_ ?_ ?_ ?_
  · rw [foldl_sizes, List.length_map, List.size_toArray, sizeLine_eq]; exact hs
  · rw [joined_eq, List.size_toArray, sizeLine_eq]; exact Nat.le_trans (joinL_length _ _) hs
  · intro b
    have := joined_eq sep [b.toList]
    simpa [joinL] using this
  · intro t' k
    rw [joined_eq]
    exact h t' k
end
/- M8 -/
theorem off_M8 : True := by w_top off; trivial
section
variable {w : World} {mean : ExcName → Option Value} {mg mb : Str → Option Value} {A : Around} {s : Shared} {Q : Value → Shared → Prop} {E : Value → Shared → Prop}
theorem is_sound_L {x : Addr} {n r : List UInt8} (X : Wd w mean mg mb s.heap) (R : Room A 3) (hf : FieldAt s.heap x n r) (hn : n.length ≤ 16777216) (hr : r.length ≤ 16777215)
    (hQ : ∀ h' tk, Grow s.heap h' → Q (.bool (sound n r)) { s with heap := h', toks := tk }) : wpAny (model prg w) A (call (.ref 146) [.ref x] []) Q E s :=
  is_sound_spec X R hf hn hr fun h' tk b hb k => by
    rw [sound_of hb]
    exact hQ h' tk k
end
local macro_rules | `(tactic| walk_at "call ref") => `(tactic| (k_here; (with_reducible show wpAny _ _ (call (Value.ref 146) _ _) _ _ _); (with_reducible rename Fr _ _ _ _ => F'); (with_reducible rename News _ _ _ _ => N'); (with_reducible rename Wd _ _ _ _ _ => X'); (with_reducible rename Room _ _ => r'); (refine' is_sound_L (X'.grow F'.keep) (r'.mono (by decide)) ?fl ?n1 ?n2 ?_; (case fl => walk_at "m_field"); (case n1 => walk_at "m_arith"); (case n2 => walk_at "m_arith")); intro h' tk' k'; (have F'' := F'.keptAll k'); (have N'' := N'.grown k'); (try (rename sound _ _ = true => hs'; rw [hs']))))
local macro_rules | `(tactic| walk_at "eval ListComp") => `(tactic| (k_here; (with_reducible show wpAny _ _ (eval (Expr.ListComp _ _ _ _) _) _ _ _); refine stop_here ?_))
local macro_rules | `(tactic| walk_at "exec Assign cons ListComp") => `(tactic| (k_here; (with_reducible show wpAny _ _ (exec (Stmt.Assign _ (Expr.ListComp (Expr.Call _ _ _ _) _ _ _) _) _) _ _ _); refine stop_here ?_))
local macro_rules | `(tactic| walk_at "CompSrc") => `(tactic| (k_here; refine stop_here ?_))
/-- the row that a field makes -/
noncomputable def rowOf (f : List UInt8 × List UInt8) : List UInt8 := f.1 ++ [58] ++ f.2 ++ [13, 10]
noncomputable def written (fs : List (List UInt8 × List UInt8)) : List UInt8 := fs.flatMap rowOf
noncomputable def Small (f : List UInt8 × List UInt8) : Prop := f.1.length ≤ 100 ∧ f.2.length ≤ 1000
section
variable {w : World} {mean : ExcName → Option Value} {mg mb : Str → Option Value} {A : Around} {s : Shared} {Q : Value → Shared → Prop} {E : Value → Shared → Prop}
theorem joinL_nil (fs : List (List UInt8 × List UInt8)) : joinL [] (fs.map rowOf) = written fs := by
  cases fs with
  | nil => rfl
  | cons f fs =>
    show rowOf f ++ _ = _
    rw [written, List.flatMap_cons]
    congr 1
    rw [List.flatMap_map]
    rfl
theorem rowOf_length (f : List UInt8 × List UInt8) : (rowOf f).length = f.1.length + f.2.length + 3 := by
  unfold rowOf
  simp only [List.length_append, List.length_cons, List.length_nil]
  omega
theorem sum_rows (fs : List (List UInt8 × List UInt8)) (h : ∀ f ∈ fs, Small f) : ((fs.map rowOf).map List.length).sum ≤ 1103 * fs.length := by
  induction fs with
  | nil => simp
  | cons f fs ih =>
    have h1 := h f (List.mem_cons_self ..)
    have h2 := ih fun g hg => h g (List.mem_cons_of_mem _ hg)
    unfold Small at h1
    rw [List.map_cons, List.map_cons, List.sum_cons, rowOf_length, List.length_cons]
    omega
theorem write_ok {a : Addr} {vs : List Value} {fs : List (List UInt8 × List UInt8)} (X : Wd w mean mg mb s.heap) (R : Room A 4) (hl : s.heap.IsList a vs.toArray) (hf : FsAt s.heap vs fs)
    (hsm : ∀ f ∈ fs, Small f) (hn : fs.length ≤ 100) (hok : ∀ f ∈ fs, sound f.1 f.2 = true)
    (hQ : ∀ h' tk t, Grow s.heap h' → Q (.bytes (written fs).toArray t) { s with heap := h', toks := tk }) : wpAny (model prg w) A (call (.ref 151) [.ref a] []) Q E s := by
  obtain ⟨hK, hT⟩ := id X
  obtain ⟨hd, dp, fr, gd, un⟩ := A
  cases R.handled
  walk_at "m_enter"
  intro L h₁ tk r' F N
  k_steps
  walk_at "m_for"
  rename Fr _ _ _ _ => F'
  rename News _ _ _ _ => N'
  have hne : a ≠ L := by
    obtain ⟨o, ho, _⟩ := hl
    exact Nat.ne_of_lt (Nat.lt_of_lt_of_le (Heap.lt_size ho) F'.above)
  refine go_on (iter_list0 (vs := vs) (news := []) (fun i => True) rfl (hl.at fun o e => F'.keep _ _ e) hne (fun _ h => nomatch h) F' News.nil trivial ?_ ?_)
  · clear F' N'
    intro i v h tk own hv _ hoff F' N'
    refine hide_goal fun Cz hCz => ?_
    obtain ⟨x, n, r, rfl, hfs, hfx⟩ := hf.getV hv
    refine hCz ?_
    clear hCz
    clear Cz
    have hmem := List.mem_of_getElem? hfs
    have hsm' := hsm _ hmem
    have hs' := hok _ hmem
    unfold Small at hsm'
    dsimp only at hsm' hs'
    k_steps
    rename Fr _ _ _ _ => F'
    rename News _ _ _ _ => N'
    exact ⟨_, _, _, _, [], rfl, F', N', (fun _ h => nomatch h), fun p hp => hp, rfl, ⟨rfl, trivial⟩, fun z hz => if_neg hz⟩
  · clear F' N'
    intro u h tk _ F' N'
    k_steps
    (refine go_on ?_; k_dflt (refine LCg.ListComp_U (F₀ := by k_asm) (by with_unfolding_all rfl) (by decide) (by rfl) (by decide) (by rfl) ?_); k_steps)
    refine go_on (LCg.CompSrc.base rfl (by assumption) (by assumption) hl (by rw [List.size_toArray, hf.length, sizeLine_eq]; omega) ?_)
    intro g
    refine comp_ind (Inv := fun i ys news => news = [] ∧ Bl ys ((fs.map rowOf).take i)) _ ?_ ?_ _ 0 [] _ (Nat.zero_add _) ⟨rfl, Bl.nil⟩
    · rintro i ys news v I oI C oC D m₂ h tk E' hi ⟨rfl, hys⟩ hv hC hx F' N' off ne
      rw [List.getElem?_toArray] at hv
      refine hide_goal fun Cz hCz => ?_
      obtain ⟨x, n, r, rfl, hfs, hfx⟩ := hf.getV hv
      refine hCz ?_
      clear hCz
      clear Cz
      have hmem := List.mem_of_getElem? hfs
      have hsm' := hsm _ hmem
      unfold Small at hsm'
      dsimp only at hsm'
      k_steps
      rw [List.take_add_one, List.getElem?_map, hfs]
      exact hys.snoc
    · rintro ys news ⟨rfl, hys⟩
      rw [List.size_toArray, hf.length, List.take_of_length_le (by rw [List.length_map]; exact Nat.le_refl _)] at hys
      unfold LCg.FinE
      intro D h' tk F' N' off
      k_steps
      refine join_L (bs := fs.map rowOf) (News.isList N' (List.mem_cons_self ..)) hys ?_ ?_
      · have := sum_rows fs hsm
        simp only [List.length_nil, Nat.zero_mul, Nat.zero_add]
        omega
      · intro t' k
        rw [joinL_nil]
        exact hQ _ _ _ F'.keep
end
/- ME -/
theorem off_ME : True := by w_top off; trivial
/- the exception of the text's own: made, dressed, raised -/
abbrev faultTail : List Value := [.ref 46, .type "Exception", .type "BaseException", .type "object"]
abbrev faultObj (k0 k1 k2 k3 k5 : Option Value) : Obj := excClassObj (Str.ofString "WordFault") (Str.ofString "WordFault") 59 58 [.ref 46] faultTail true [] [] false none none k0 k1 k2 k3 k5 "Exception.__new__"
noncomputable def HasFault (h : Heap) : Prop := ∃ k0 k1 k2 k3 k5, h.get? 59 = some (faultObj k0 k1 k2 k3 k5)
theorem fault_at {p : Params} {h : Heap} (X : (hd.heap_39 p).In h) : HasFault h := by
  have e : ∃ k0 k1 k2 k3 k5, (hd.heap_39 p).lookup 59 = some (faultObj k0 k1 k2 k3 k5) := ⟨some (.ref 50), none, some (.str (Str.ofString "WordFault") 236), some (.str (Str.ofString "WordFault") 244), some (.bool true), by k_dflt k_is⟩
  obtain ⟨k0, k1, k2, k3, k5, e⟩ := e
  exact ⟨k0, k1, k2, k3, k5, X _ _ e⟩
/-- a fault before it is dressed -/
abbrev bare (t : Addr) : Obj := { cls := .ref 59, data := .fields #[.ref t, .none, .none, .none, .bool false, .none] }
section
variable {prog : Program} {w : World} {A : Around} {E : Value → Shared → Prop} {h : Heap} {g : Array GenState} {d : Drawn} {t : Nat} {os : OsState}
theorem fault_check_new {M : Model} {k0 k1 k2 k3 k5 : Option Value} {rest : List Value} {Q : Unit → Shared → Prop} (hC : h.get? 59 = some (faultObj k0 k1 k2 k3 k5)) (hq : Q () ⟨h, g, d, t, os⟩) :
    wpAny M A (checkBuiltinCall "Exception.__new__" ⟨.ref 59 :: rest, []⟩) Q E ⟨h, g, d, t, os⟩ := by
  have F := PySem.F.excBase_Exception
  have hcont : (Value.ref 59 :: faultTail).contains (.type "Exception") = true := by decide
  have hstar := F.noStar
  simp only [checkBuiltinCall, F.newKind, F.newSplit, F.newRow]
  repeat (first | refine wpAny_loadPart_at hC ?_ | (refine wpAny_isSubtype_exc hC ?_; rw [hcont]) | refine wpAny_staticBase_exc hC ?_ | refine wpAny_madeBy_exc hC ?_ | simp only [bne_self_eq_false, Bool.false_eq_true, if_false] | wp_step)
  exact hq
theorem fault_new {k0 k1 k2 k3 k5 : Option Value} {rest : List Value} {R : Result → Shared → Prop} (hC : h.get? 59 = some (faultObj k0 k1 k2 k3 k5)) (hrest : rest.length ≤ 100)
    (hq : R (.ok (.ret (.ref (h.objs.size + 1)))) ⟨(h.push { cls := .type "tuple", data := .seq rest.toArray }).push (bare h.objs.size), g, d, t, os⟩) :
    codeAny (model prog w) A (.builtin "Exception.__new__" ⟨.ref 59 :: rest, []⟩) R ⟨h, g, d, t, os⟩ := by
  have F := PySem.F.excBase_Exception
  have hends := F.ends
  have hrest : rest.length ≤ sizeLine := by rw [sizeLine_eq]; omega
  have hcB : (Value.ref 59 :: faultTail).contains (.type "Exception") = true := by decide
  have hcA : (Value.ref 59 :: faultTail).contains (.type "AttributeError") = false := by decide
  have hcN : (Value.ref 59 :: faultTail).contains (.type "NameError") = false := by decide
  refine codeAny_builtinAt F.entry ?_
  unfold Builtin.«BaseException.__new__»
  refine PySem.wpAt_bind ?_
  show PySem.wpAt _ _ _ (stack >>= _) _ _ _
  refine PySem.wpAt_bind (PySem.wpAt_stack fun p below => PySem.wpAt_of_wpAny ?_)
  wp_walk
  refine PySem.wpAt_of_wpAny ?_
  rw [F.owner]
  repeat (first | with_reducible refine wpAny_madeHere_exc F.canon hC ?_ | with_reducible refine wpAny_loadPart_at hC ?_ | (with_reducible refine wpAny_isSubtype_exc hC ?_; first | rw [hcB] | rw [hcA] | rw [hcN]) | wp_step)
  show R _ _
  rw [Heap.size_push]
  exact hq
end
section
variable {prog : Program} {w : World} {A : Around} {E : Value → Shared → Prop} {h : Heap} {g : Array GenState} {d : Drawn} {t : Nat} {os : OsState}
theorem fault_init_at {p : Params} {h : Heap} {M : Model} (X : (hd.heap_39 p).In h) : Looks M h (typeLookup (.ref 59) (Str.ofString "__init__")) (some (.ref 36)) := looks_findIn X (by k_dflt k_is)
theorem fault_init_fn {p : Params} {h : Heap} {M : Model} (X : (hd.heap_39 p).In h) : Looks M h (typeOf (.ref 36)) (.type "function") := looks_typeIn X (by k_dflt k_is)
theorem fault_type_call {p : Params} {rest : List Value} {Q : PySem.Fin → Shared → Prop} (X : (hd.heap_39 p).In h) (hrest : rest.length ≤ 100)
    (hq : ∀ h' e a, Grow h h' → h.get? e = none → h'.get? e = some (bare a) →
      wpAny (model prog w) A (call (.ref 36) (.ref e :: rest)) (fun r s' => r = .none ∧ Q (.done (.ret (.ref e))) s') E ⟨h', g, d, t, os⟩) :
    wpAny (model prog w) A (Builtin.«type.__call__» ⟨.ref 59 :: rest, []⟩) Q E ⟨h, g, d, t, os⟩ := by
  obtain ⟨k0, k1, k2, k3, k5, hC⟩ := fault_at X
  have F := PySem.F.excBase_Exception
  repeat (first | with_reducible refine wpAny_loadPart_at hC ?_ | with_reducible refine wpAny_madeBy_exc hC ?_ | wp_step)
  refine codeAny_call_builtin_code (Code.quiet_builtin _ F.quiet) (fault_check_new hC ?_)
  refine fault_new hC hrest ?_
  show wpAny _ _ _ _ _ _
  have kk : Grow h ((h.push { cls := .type "tuple", data := .seq rest.toArray }).push (bare h.objs.size)) := fun b o e => Heap.get?_push_of_some _ (Heap.get?_push_of_some _ e)
  have hC₁ := kk _ _ hC
  have X₁ := X.keeps kk
  have hget : ((h.push { cls := .type "tuple", data := .seq rest.toArray }).push (bare h.objs.size)).get? (h.objs.size + 1) = some (bare h.objs.size) := by heap_get
  have hcC : (Value.ref 59 :: faultTail).contains (.ref 59) = true := by decide
  unfold isInstance
  repeat (first | with_reducible refine wpAny_loadPart_at hget ?_ | (with_reducible refine wpAny_isSubtype_exc hC₁ ?_; rw [hcC]) | wp_step)
  show wpAny _ _ (typeLookup (.ref 59) _) _ _ _
  refine (fault_init_at X₁).here ?_
  refine wpAny_holding (wpAny_bind ?_)
  unfold bindSpecial
  refine wpAny_bind ((fault_init_fn X₁).here ?_)
  rw [if_pos (by decide)]
  refine wpAny_pure (wpAny_bind (wpAny_mono (hq _ _ _ kk (Heap.get?_none_of_le (Nat.le_succ _)) hget) (fun r s' hr => ?_) fun _ _ x => x))
  obtain ⟨rfl, hQ⟩ := hr
  wp_walk
  exact hQ
theorem fault_call {p : Params} {rest : List Value} {Q : Value → Shared → Prop} (X : (hd.heap_39 p).In h) (hrest : rest.length ≤ 100)
    (hq : ∀ h' e a, Grow h h' → h.get? e = none → h'.get? e = some (bare a) →
      wpAny (model prog w) (A.under (.builtin "type.__call__" ⟨.ref 59 :: rest, []⟩)) (call (.ref 36) (.ref e :: rest)) (fun r s' => r = .none ∧ Q (.ref e) s') E ⟨h', g, d, t, os⟩) :
    wpAny (model prog w) A (call (.ref 59) rest) Q E ⟨h, g, d, t, os⟩ := by
  obtain ⟨k0, k1, k2, k3, k5, hC⟩ := fault_at X
  have f1 := tc_lookup
  have f2 := tc_bind (.ref 59)
  have hT : (⟨h, g, d, t, os⟩ : Shared).TypeIs (.ref 59) "type" := ⟨_, hC, rfl⟩
  refine wpAny_call (codeAny_of_tree ?_)
  show wpAny _ _ (callAny (.ref 59) _) _ _ _
  repeat (any_goals (first | assumption | with_reducible refine wpAny_loadPart_at hC ?_ | wp_step))
  refine ⟨rfl, ?_⟩
  refine codeAny_call_builtin_at (Code.quiet_builtin _ (by decide +kernel)) entry_typeCall (wpAny_check_type_call_sub hC (fault_type_call X hrest fun h' e a k n o => ?_))
  exact hq h' e a k n o
end
/- MF -/
theorem off_MF : True := by w_top off; trivial
section
variable {prog : Program} {w : World} {A : Around} {E : Value → Shared → Prop} {s : Shared} {R : Result → Shared → Prop} {e : Addr} {o : Obj} {name : PySem.Str} {v : Value} {tk : Tok}
open Builtin Builtin.ObjectAttr
theorem fault_refuse (self : Value) : refuseLoop self (Str.ofString "__setattr__") (Value.ref 59 :: faultTail) = pure () := by
  rw [refuseLoop_ref, refuseLoop_ref]
  exact PySem.F.store_Exception.passes self
theorem fault_open {p : Params} (X : (hd.heap_39 p).In s.heap) (he : s.heap.get? e = some o) (hc : o.cls = .ref 59) (ht : takerIn (hd.heap_39 p) 59 name = some none)
    (h : ∀ b, wpAny (model prog w) A.in1 (storeInOwnDict (.ref e) (.ref 59) (.str name tk) name v b)
      (fun fin s' => match fin with | .done f => R (.ok f) s' | .again c' => c'.quiet = true ∧ codeAny (model prog w) A c' R s') (fun e s' => R (.error e) s') s) :
    codeAny (model prog w) A (.call (.builtin "object.__setattr__") ⟨[.ref e, .str name tk, v], []⟩) R s := by
  have SF := PySem.F.store_object
  refine hide_goal fun Cz hCz => ?_
  obtain ⟨k0, k1, k2, k3, k5, hC⟩ := fault_at X
  refine hCz ?_
  clear hCz
  clear Cz
  have ty : Looks (model prog w) s.heap (typeOf (.ref e)) (.ref 59) := by
    refine (Looks.ld he).andThen ?_
    rw [hc]
    exact .now
  have mr : Looks (model prog w) s.heap (mroOf (.ref 59)) (Value.ref 59 :: faultTail) := (Looks.ld hC).andThen .now
  have sub : Looks (model prog w) s.heap (isInstance (.ref e) (.type "object")) true := ty.andThen (mr.andThen .now)
  refine codeAny_call_builtin SF.slot.plain SF.entry (@check_slot (model prog w) _ _ s "object.__setattr__" "object" "__setattr__" (.ref e) [.str name tk, v] [] _ SF.kind SF.split sub (SF.args (.ref e) (.str name tk) v) ?_)
  obtain ⟨attr, ha, hr⟩ := Option.bind_eq_some_iff.mp ht
  have L3 : Looks (model prog w) s.heap (storeTaker? attr) none := by
    cases attr with
    | none => exact .now
    | some a =>
      obtain ⟨b, hb, hb'⟩ := Option.map_eq_some_iff.mp hr
      refine (looks_takesIn X hb).andThen ?_
      cases b with
      | false => exact .now
      | true => cases hb'
  rw [osa_eq, refuse_eq]
  refine wpAny_bind (wpAny_bind (ty.here (wpAny_bind (mr.here ?_))))
  rw [fault_refuse]
  refine wpAny_pure (wpAny_bind (ty.here (wpAny_bind ((looks_findIn X ha).here (wpAny_bind (L3.here ?_))))))
  exact h _
theorem fault_store {p : Params} {h : Heap} {g : Array GenState} {d : Drawn} {t : Nat} {os : OsState} {mA : PySem.Str → Option Value} {ns : List PySem.Str} {b : Bool} {Q : PySem.Fin → Shared → Prop} {E : Value → Shared → Prop}
    (X : (hd.heap_39 p).In h) (I : h.Inst e 59 mA) (hw : Within mA ns) (hsz : ns.length ≤ 100)
    (hq : ∀ h' tk', h'.Inst e 59 (fun y => if y = name then some v else mA y) →
      (∀ b o, b ≠ e → (∀ o₀ dx, h.get? e = some o₀ → o₀.dict = some dx → b ≠ dx) → h.get? b = some o → h'.get? b = some o) →
      (∀ o₀, h.get? e = some o₀ → ∃ o₁, h'.get? e = some o₁ ∧ o₁.cls = o₀.cls ∧ o₁.data = o₀.data ∧ o₁.slots = o₀.slots ∧ ∀ dx, o₀.dict = some dx → o₁.dict = some dx) → (∀ o₀ o₁ dx, h.get? e = some o₀ → o₀.dict = none → h'.get? e = some o₁ → o₁.dict = some dx → h.get? dx = none) → Q (.done (.ret .none)) ⟨h', g, d, tk', os⟩) :
    wpAny (model prog w) A (storeInOwnDict (.ref e) (.ref 59) (.str name tk) name v b) Q E ⟨h, g, d, t, os⟩ := by
  refine hide_goal fun Cz hCz => ?_
  obtain ⟨o, hx, hc, hnc, hd⟩ := I
  refine hCz ?_
  clear hCz
  clear Cz
  refine hide_goal fun Cz hCz => ?_
  obtain ⟨k0, k1, k2, k3, k5, hC⟩ := fault_at X
  refine hCz ?_
  clear hCz
  clear Cz
  unfold storeInOwnDict
  repeat (first | (with_reducible refine wpAny_loadPart_at hx ?_; rw [hc]) | with_reducible refine wpAny_loadPart_at hC ?_ | wp_step)
  rcases hd with ⟨hdn, hmA⟩ | ⟨dx, hdx, hne, hns⟩
  · rw [hdn, if_neg (by simp [typeHasDict])]
    split
    · rename_i hcd
      cases hcd
    split
    · rename_i c hcd
      exact absurd hcd (hnc c)
    · have hx₁ : (h.push { cls := .type "dict", data := .dict #[] }).get? e = some o := Heap.get?_push_of_some _ hx
      have hxs : e ≠ h.objs.size := Nat.ne_of_lt (Heap.lt_size hx)
      refine wpAny_bind (wpAny_alloc' ?_)
      refine wpAny_bind (wpAny_update' hx₁ ?_)
      refine wpAny_pure ?_
      have hgd : ((h.push { cls := .type "dict", data := .dict #[] }).update e fun o => { cls := o.cls, dict := some h.objs.size, data := o.data, slots := o.slots }).get? h.objs.size = some { cls := .type "dict", data := .dict #[] } :=
        (Heap.get?_update_ne _ _ _ _ hxs.symm).trans (Heap.get?_push_at rfl rfl)
      have hnd : ((h.push { cls := .type "dict", data := .dict #[] }).update e fun o => { cls := o.cls, dict := some h.objs.size, data := o.data, slots := o.slots }).Ns h.objs.size (fun _ => none) :=
        ⟨_, #[], _, hgd, rfl, fun e he => absurd he (by simp), fun _ => rfl⟩
      show wpAny _ _ (storeInDict h.objs.size (.str name tk) name v) _ _ _
      unfold storeInDict newKeyGuard
      refine wpAny_bind (wpAny_pure (wpAny_bind (wpAny_nsSet1 (Heap.Ns1.of_empty hnd) fun h' hn' hs => ?_)))
      refine hide_goal fun Cz hCz => ?_
      obtain ⟨oD, esD, epD, hoD, hdD, hcD⟩ := hn'.count (Within.cons name v Within.nil)
      refine hCz ?_
      clear hCz
      clear Cz
      refine wpAny_bind (wpAny_lookBehind hoD (by rw [hdD]; exact pastItsLine_dict (Nat.le_trans hcD (by rw [List.length_cons, List.length_nil, sizeLine_eq]; omega))) ?_)
      wp_walk
      have hx' : h'.get? e = some { cls := o.cls, dict := some h.objs.size, data := o.data, slots := o.slots } := by
        refine (hs.2 e hxs).trans (Heap.get?_update_self _ hx₁ ?_)
        have hfr := (Heap.get?_some_iff.mp hx).2
        refine hide_goal fun Cz hCz => ?_
        obtain ⟨oc, od, odt, osl⟩ := o
        refine hCz ?_
        clear hCz
        clear Cz
        cases odt <;> first | rfl | exact hfr
      refine hq h' _ ⟨{ cls := o.cls, dict := some h.objs.size, data := o.data, slots := o.slots }, hx', hc, hnc, .inr ⟨h.objs.size, rfl, hxs.symm, ?_⟩⟩ (fun b ob hbx _ hb => ?_)
        (fun o₀ h₀ => by obtain rfl : o = o₀ := Option.some.inj (hx.symm.trans h₀); exact ⟨_, hx', rfl, rfl, rfl, fun dx e => by rw [hdn] at e; cases e⟩)
        (fun o₀ o₁ dx _ _ h₁ hd₁ => by rw [hx'] at h₁; cases h₁; cases hd₁; exact Heap.get?_none_of_le (Nat.le_refl _))
      · obtain ⟨o', es, ep, e1, e2, e3, eu, e4⟩ := hn'
        exact ⟨o', es, ep, e1, e2, e3, eu, fun y => by rw [e4 y]; by_cases hy : y = name <;> simp [hy, hmA]⟩
      · exact (hs.2 b (Nat.ne_of_lt (Heap.lt_size hb))).trans ((Heap.get?_update_ne _ _ _ _ hbx).trans (Heap.get?_push_of_some _ hb))
  · rw [hdx]
    refine wpAny_pure ?_
    show wpAny _ _ (storeInDict dx (.str name tk) name v) _ _ _
    unfold storeInDict newKeyGuard
    refine wpAny_bind (wpAny_pure (wpAny_bind (wpAny_nsSet1 hns fun h' hn' hs => ?_)))
    refine hide_goal fun Cz hCz => ?_
    obtain ⟨oD, esD, epD, hoD, hdD, hcD⟩ := hn'.count (Within.cons name v hw)
    refine hCz ?_
    clear hCz
    clear Cz
    refine wpAny_bind (wpAny_lookBehind hoD (by rw [hdD]; exact pastItsLine_dict (Nat.le_trans hcD (by rw [List.length_cons, sizeLine_eq]; omega))) ?_)
    wp_walk
    refine hq h' _ ⟨o, (hs.2 e hne.symm).trans hx, hc, hnc, .inr ⟨dx, hdx, hne, hn'⟩⟩ (fun b ob _ hbd hb => ?_)
      (fun o₀ h₀ => ⟨o₀, (hs.2 e hne.symm).trans h₀, rfl, rfl, rfl, fun _ e => e⟩)
      (fun o₀ o₁ dx' h₀ hn₀ _ _ => by rw [hx] at h₀; cases h₀; rw [hdx] at hn₀; cases hn₀)
    exact (hs.2 b (hbd o dx hx hdx)).trans hb
theorem fault_set {p : Params} {h : Heap} {g : Array GenState} {d : Drawn} {t : Nat} {os : OsState} {mA : PySem.Str → Option Value} {ns : List PySem.Str} {Q : Unit → Shared → Prop} {E : Value → Shared → Prop}
    (X : (hd.heap_39 p).In h) (ht : takerIn (hd.heap_39 p) 59 name = some none) (I : h.Inst e 59 mA) (hw : Within mA ns) (hsz : ns.length ≤ 100)
    (hq : ∀ h' tk', h'.Inst e 59 (fun y => if y = name then some v else mA y) →
      (∀ b o, b ≠ e → (∀ o₀ dx, h.get? e = some o₀ → o₀.dict = some dx → b ≠ dx) → h.get? b = some o → h'.get? b = some o) →
      (∀ o₀, h.get? e = some o₀ → ∃ o₁, h'.get? e = some o₁ ∧ o₁.cls = o₀.cls ∧ o₁.data = o₀.data ∧ o₁.slots = o₀.slots ∧ ∀ dx, o₀.dict = some dx → o₁.dict = some dx) → (∀ o₀ o₁ dx, h.get? e = some o₀ → o₀.dict = none → h'.get? e = some o₁ → o₁.dict = some dx → h.get? dx = none) → Q () ⟨h', g, d, tk', os⟩) :
    wpAny (model prog w) A (setAttr (.ref e) name v) Q E ⟨h, g, d, t, os⟩ := by
  refine hide_goal fun Cz hCz => ?_
  obtain ⟨o, hx, hc, hnc, hdd⟩ := id I
  refine hCz ?_
  clear hCz
  clear Cz
  have ty : Looks (model prog w) h (typeOf (.ref e)) (.ref 59) := by
    refine (Looks.ld hx).andThen ?_
    rw [hc]
    exact .now
  have hs : findIn (hd.heap_39 p) (.ref 59) (Str.ofString "__setattr__") = some (some (.builtin "object.__setattr__")) := by kernel_rfl
  refine wpAny_bind (wpAny_mkText (wpAny_bind (wpAny_bind (wpAny_bind (ty _ _ _ _ (fun _ _ e => e) (looks_findIn X hs _ _ _ _ (fun _ _ e => e) (wpAny_holding ?_)))))))
  rw [PySem.F.store_object.slot.bind]
  refine wpAny_bind (wpAny_pure (wpAny_bind (wpAny_call (codeAny_mono (R := fun r s' => match r with | .ok (.ret _) => Q () s' | .ok _ => False | .error e => E e s') (fault_open X hx hc ht fun b => fault_store X I hw hsz fun h' tk' i' k o' n' => hq h' tk' i' k o' n') fun r s' z => ?_))))
  rcases r with e | (v | _ | _ | _) <;> first | exact z | exact wpAny_pure (wpAny_pure z)
end
/- MG -/
theorem off_MG : True := by w_top off; trivial
section
variable {prog : Program} {w : World} {A : Around} {E : Value → Shared → Prop} {h : Heap} {g : Array GenState} {d : Drawn} {tk : Nat} {os : OsState}
theorem init_method {p : Params} {h₀ : Heap} {L : Addr} {m : PySem.Str → Option Value} {pl : Sem Bool} {Q : Value × List Value → Shared → Prop} (F : Fr h₀ L h m) (X : (hd.heap_39 p).In h₀)
    (hq : ∀ k, Q (.builtin "Exception.__init__", []) ⟨h, g, d, k, os⟩) : wpAny (model prog w) A (getMethod (.type "Exception") (Str.ofString "__init__") pl) Q E ⟨h, g, d, tk, os⟩ :=
  method_type F X (by kernel_rfl) (by decide +kernel) (by kernel_rfl) rfl (hq _)
theorem init_check {M : Model} {k0 k1 k2 k3 k5 : Option Value} {e : Addr} {oe : Obj} {rest : List Value} {Q : Unit → Shared → Prop} (hC : h.get? 59 = some (faultObj k0 k1 k2 k3 k5)) (he : h.get? e = some oe) (hcls : oe.cls = .ref 59)
    (hq : Q () ⟨h, g, d, tk, os⟩) : wpAny M A (checkBuiltinCall "Exception.__init__" ⟨.ref e :: rest, []⟩) Q E ⟨h, g, d, tk, os⟩ := by
  have F := PySem.F.excBase_Exception
  have hcB : (Value.ref 59 :: faultTail).contains (.type "Exception") = true := by decide
  have hshort := F.noStar
  simp only [checkBuiltinCall, F.initKind, F.initSplit, F.initRow]
  repeat (first | (with_reducible refine wpAny_loadPart_at he ?_; rw [hcls]) | with_reducible refine wpAny_loadPart_at hC ?_ | (with_reducible refine wpAny_isSubtype_exc hC ?_; rw [hcB]) | wp_step)
  refine wpAny_onRaise ?_
  rw [show ∀ (a b : String) (n : Nat), Bind.check ⟨.positional, "*", "Exception", .self, [⟨"args", .varPos, false⟩]⟩ a b n (List.map (fun x => x.fst) ({ pos := Value.ref e :: rest } : Args).kw) = pure () from
    fun a b n => check_star_args _ _ _ _ _ _]
  exact wpAny_pure hq
theorem init_call {p : Params} {e a : Addr} {rest : List Value} {Q : Value → Shared → Prop} (X : (hd.heap_39 p).In h) (he : h.get? e = some (bare a)) (hrest : rest.length ≤ 100)
    (hq : ∀ h' a', (∀ b o, b ≠ e → h.get? b = some o → h'.get? b = some o) → h'.get? e = some (bare a') → Q .none ⟨h', g, d, tk, os⟩) :
    wpAny (model prog w) A (call (.builtin "Exception.__init__") (.ref e :: rest)) Q E ⟨h, g, d, tk, os⟩ := by
  refine hide_goal fun Cz hCz => ?_
  obtain ⟨k0, k1, k2, k3, k5, hC⟩ := fault_at X
  refine hCz ?_
  clear hCz
  clear Cz
  have F := PySem.F.excBase_Exception
  have hrest : rest.length ≤ sizeLine := by rw [sizeLine_eq]; omega
  refine wpAny_call (codeAny_call_builtin F.init.plain F.initEntry (init_check hC he rfl ?_))
  wp_walk
  refine hq _ h.objs.size (fun b o hb ho => ?_) ?_
  · rw [Heap.get?_update_other _ _ (Ne.symm hb)]
    exact Heap.get?_push_of_some _ ho
  · rw [Heap.get?_update_self _ (Heap.get?_push_of_some _ he) rfl]
    rfl
end
section
variable {w : World} {mean : ExcName → Option Value} {mg mb : Str → Option Value} {A : Around} {s : Shared} {Q : Value → Shared → Prop} {E : Value → Shared → Prop}
theorem hide_fr {h₀ h : Heap} {L e : Addr} {m : Str → Option Value} (F : Fr h₀ L h m) : Fr (hideAll h₀ [e]) L h m := ⟨F.ns, fun b o q => F.keep b o (of_hideAll _ q), by
  have : (hideAll h₀ [e]).objs.size = h₀.objs.size := by first | rfl | exact hideAll_size _ _
  rw [this]; exact F.above⟩
theorem fr_but_e {B h h' : Heap} {L e : Addr} {m : Str → Option Value} (F : Fr B L h m) (hB : B.get? e = none) (hL : L ≠ e) (k : ∀ b o, b ≠ e → h.get? b = some o → h'.get? b = some o) : Fr B L h' m :=
  ⟨F.ns.at' fun o q => k _ _ hL q, fun b o q => k _ _ (fun z => by rw [z, hB] at q; cases q) (F.keep b o q), F.above⟩
theorem fault_init_spec {g₀ : Heap} {e a : Addr} {what : PySem.Str} {t1 : Tok} (X : Wd w mean mg mb g₀) (kg : Grow g₀ s.heap) (ke : g₀.get? e = none) (r : Room A 1) (he : s.heap.get? e = some (bare a))
    (hQ : ∀ h' tk, (∀ b o, b ≠ e → s.heap.get? b = some o → h'.get? b = some o) → (∃ o a', h'.get? e = some o ∧ o.cls = .ref 59 ∧ o.data = .fields #[.ref a', .none, .none, .none, .bool false, .none]) → Q .none { s with heap := h', toks := tk }) :
    wpAny (model prg w) A (call (.ref 36) [.ref e, .str what t1] []) Q E s := by
  have X' := X.grow kg
  obtain ⟨hd, dp, fr, gd, un⟩ := A
  cases r.handled
  (k_dflt (refine' enter_pure (args := ⟨_, _⟩) ?X ?r ?k1 ?k2 ?k3 ?k4 ?_ ?k5 ?k6 ?k7 ?k8); (case X => assumption); (case r => assumption); (case k1 => k_dflt k_is); (case k2 => k_dflt k_is); (case k3 => (with_reducible rename Wd _ _ _ _ _ => X'); refine' binds_dflt X'.K ?dd ?dg ?d1 ?d2; (case dd => exact rfl); (case dg => k_dflt k_is); (case d1 => exact rfl); (case d2 => exact rfl)); (case k4 => exact locs rfl); (case k5 => decide); (case k6 => exact rfl); (case k7 => exact rfl); (case k8 => exact rfl))
  intro L h₁ tk r' F N
  have kB : Grow g₀ (hideAll s.heap [e]) := fun b o q => hideAll_get _ (kg _ _ q) fun hm => by
    rw [List.mem_singleton.mp hm, ke] at q
    cases q
  obtain ⟨hK, hT⟩ := X.grow kB
  have N' : News (hideAll s.heap [e]) L h₁ [(e, bare a)] := by
    intro p hp
    rw [List.mem_singleton.mp hp]
    refine ⟨F.keep _ _ he, ?_, hideAll_none _ (List.mem_singleton.mpr rfl)⟩
    exact Nat.ne_of_lt (Nat.lt_of_lt_of_le (Heap.lt_size he) F.above)
  replace F := hide_fr (e := e) F
  generalize hB : hideAll s.heap [e] = B at F N' hK hT kB
  k_steps
  refine init_method F hK fun tk1 => ?_
  k_steps
  have hBe : B.get? e = none := (N' _ (List.mem_singleton.mpr rfl)).2.2
  have hLe : L ≠ e := Ne.symm (N' _ (List.mem_singleton.mpr rfl)).2.1
  refine init_call (hK.keeps F.keep) (N' _ (List.mem_singleton.mpr rfl)).1 (by show 1 ≤ 100; decide) fun h₂ a₂ k₂ e₂ => ?_
  have F₂ := fr_but_e F hBe hLe k₂
  k_steps
  have I₂ : h₂.Inst e 59 (fun _ => none) := ⟨_, e₂, rfl, (fun c q => by cases q), .inl ⟨rfl, fun _ => rfl⟩⟩
  refine fault_set (hK.keeps F₂.keep) (by k_dflt k_is) I₂ Within.nil (by decide) fun h₃ tk₃ I₃ k₃ o₃ n₃ => ?_
  have k₃' : ∀ b o, b ≠ e → h₂.get? b = some o → h₃.get? b = some o := fun b o hb ho => k₃ b o hb (fun o₀ dx q1 q2 => by rw [e₂] at q1; cases q1; cases q2) ho
  have F₃ := fr_but_e F₂ hBe hLe k₃'
  k_steps
  refine fault_set (hK.keeps F₃.keep) (by k_dflt k_is) I₃ (Within.cons _ _ Within.nil) (by show 1 ≤ 100; decide) fun h₄ tk₄ I₄ k₄ o₄ n₄ => ?_
  have k₄' : ∀ b o, b ≠ e → h₂.get? b = some o → h₄.get? b = some o := fun b o hb ho =>
    k₄ b o hb (fun o₀ dx q1 q2 z => by
      have := n₃ _ _ dx e₂ rfl q1 q2
      rw [← z, ho] at this
      cases this) (k₃' b o hb ho)
  refine hide_goal fun Cz hCz => ?_
  obtain ⟨p1, p2, p3, p4, p5, _⟩ := o₃ _ e₂
  refine hCz ?_
  clear hCz
  clear Cz
  refine hide_goal fun Cz hCz => ?_
  obtain ⟨q1, q2, q3, q4, q5, _⟩ := o₄ _ p2
  refine hCz ?_
  clear hCz
  clear Cz
  k_steps
  refine hQ h₄ _ (fun b o hb ho => k₄' b o hb (F₂.keep b o ?_)) ⟨q1, a₂, q2, q3.trans p3, q4.trans p4⟩
  rw [← hB]
  exact hideAll_get _ ho fun hm => hb (List.mem_singleton.mp hm)
end
/- MH -/
theorem off_MH : True := by w_top off; trivial
local macro_rules | `(tactic| walk_at "exec Raise some none") => `(tactic| (k_here; (with_reducible show wpAny _ _ (exec (Stmt.Raise _ _ _) _) _ _ _); refine stop_here ?_))
local macro_rules | `(tactic| walk_at "call ref") => `(tactic| (k_here; (with_reducible show wpAny _ _ (call (Value.ref 59) _ _) _ _ _); refine stop_here ?_))
theorem Room.creation {A : Around} {n : Nat} {C : Addr} {rest : List Value} (r : Room A (n + 1)) : Room (A.under (.builtin "type.__call__" ⟨.ref C :: rest, []⟩)) n := ⟨r.handled, by
    have := r.depth
    show A.depth + 1 + n < _
    omega, by
    have := r.units
    show A.units + _ + 8 * n < _
    have e : (Code.builtin "type.__call__" ⟨.ref C :: rest, []⟩).cUnits = 1 := by kernel_rfl
    omega⟩
/-- what is handed to raise -/
noncomputable def FaultOut (E : Value → Shared → Prop) (v : Value) (s₁ : Shared) : Prop :=
  ∃ e o a, v = .ref e ∧ HasFault s₁.heap ∧ s₁.heap.get? e = some o ∧ o.cls = .ref 59 ∧ o.data = .fields #[.ref a, .none, .none, .none, .bool false, .none] ∧ E (.ref e) s₁
section
variable {M : Model} {A : Around} {E : Value → Shared → Prop} {s : Shared} {env : Env}
theorem fault_raiseStmt {x : Sem Value} {Q : Flow → Shared → Prop} (hh : A.handled = none)
    (h : wpAny M A x (FaultOut E) E s) :
    wpAny M A (raiseStmt env (some x) none) Q E s := by
  have hcB : (Value.ref 59 :: faultTail).contains (.type "BaseException") = true := by decide
  unfold raiseStmt
  refine wpAny_bind (wpAny_mono h (fun v s₁ h₁ => ?_) fun _ _ x => x)
  refine hide_goal fun Cz hCz => ?_
  obtain ⟨e, o, a, rfl, ⟨k0, k1, k2, k3, k5, hC⟩, he, hc, hd, hE⟩ := h₁
  refine hCz ?_
  clear hCz
  clear Cz
  refine hide_goal fun Cz hCz => ?_
  obtain ⟨oc, odi, od, os⟩ := o
  refine hCz ?_
  clear hCz
  clear Cz
  obtain rfl : oc = .ref 59 := hc
  obtain rfl : od = .fields #[.ref a, .none, .none, .none, .bool false, .none] := hd
  refine hide_goal fun Cz hCz => ?_
  obtain ⟨hp, g, d, tk, os⟩ := s₁
  refine hCz ?_
  clear hCz
  clear Cz
  repeat (first | with_reducible refine wpAny_loadPart_at he ?_ | with_reducible refine wpAny_loadPart_at hC ?_ | (with_reducible refine wpAny_isSubtype_exc hC ?_; rw [hcB]) | wp_step)
  exact wpAny_raiseNew_none hh hE
theorem fault_Raise {x : PySem.Expr} {pos : Pos} {Q : Flow → Shared → Prop} (hh : A.handled = none)
    (h : wpAny M A (eval x env) (FaultOut E) E s) :
    wpAny M A (exec (.Raise (some x) none pos) env) Q E s := by
  rw [arm_exec_Raise]
  simp only [evalOpt, Option.map]
  exact wpAny_bind (wpAny_standAt (fault_raiseStmt hh (wpAny_bind (wpAny_mono h (fun v s₁ h₁ => wpAny_bind (wpAny_standAt (wpAny_pure h₁))) fun _ _ x => x))))
end
section
variable {w : World} {mean : ExcName → Option Value} {mg mb : Str → Option Value} {A : Around} {s : Shared} {Q : Value → Shared → Prop} {E : Value → Shared → Prop}
theorem write_bad {a : Addr} {vs : List Value} {fs : List (List UInt8 × List UInt8)} {base : Heap} {outer : List Env} (X : Wd w mean mg mb s.heap) (R : Room A 6) (hl : s.heap.IsList a vs.toArray) (hf : FsAt s.heap vs fs)
    (hsm : ∀ f ∈ fs, Small f) (hn : fs.length ≤ 100) (hbad : ∃ f ∈ fs, sound f.1 f.2 = false)
    (hA : A.frames = some outer) (hB : base.StaysIn s.heap) (hFr : s.heap.FunFrames base outer)
    (hE : ∀ e a' h' tk, Heap.FlyingW base outer e (.ref 59) (.ref a') h' → s.heap.UpToSlots h' → E (.ref e) { s with heap := h', toks := tk }) : wpAny (model prg w) A (call (.ref 151) [.ref a] []) Q E s := by
  obtain ⟨hK, hT⟩ := id X
  obtain ⟨hd, dp, fr, gd, un⟩ := A
  cases R.handled
  (k_dflt (refine' wpAny_call (enter (args := ⟨_, _⟩) ?X ?r ?k1 ?k2 ?k3 ?k4 ?_ ?k5 ?k6 ?k7 ?k8)); (case X => assumption); (case r => assumption); (case k1 => k_dflt k_is); (case k2 => k_dflt k_is); (case k3 => exact BindsTo.of_eq rfl); (case k4 => exact locs rfl); (case k5 => decide); (case k6 => exact rfl); (case k7 => exact rfl); (case k8 => exact rfl))
  intro L h₁ tk r' F N
  k_steps
  walk_at "m_for"
  rename Fr _ _ _ _ => F'
  rename News _ _ _ _ => N'
  have hne : a ≠ L := by
    obtain ⟨o, ho, _⟩ := hl
    exact Nat.ne_of_lt (Nat.lt_of_lt_of_le (Heap.lt_size ho) F'.above)
  refine go_on (iter_list0 (vs := vs) (news := []) (fun i => ∀ f ∈ fs.take i, sound f.1 f.2 = true) rfl (hl.at fun o e => F'.keep _ _ e) hne (fun _ h => nomatch h) F' News.nil (by simp) ?_ ?_)
  · clear F' N'
    intro i v h tk own hv hG hoff F' N'
    refine hide_goal fun Cz hCz => ?_
    obtain ⟨x, n, r, rfl, hfs, hfx⟩ := hf.getV hv
    refine hCz ?_
    clear hCz
    clear Cz
    have hmem := List.mem_of_getElem? hfs
    have hsm' := hsm _ hmem
    unfold Small at hsm'
    dsimp only at hsm'
    k_steps
    · rename Fr _ _ _ _ => F'
      rename News _ _ _ _ => N'
      rename sound _ _ = true => hs
      refine ⟨_, _, _, _, [], rfl, F', N', (fun _ h => nomatch h), fun p hp => hp, rfl, ⟨rfl, ?_⟩, fun z hz => if_neg hz⟩
      intro f hf'
      rw [List.take_add_one, hfs] at hf'
      rcases List.mem_append.1 hf' with hf' | hf'
      · exact hG f hf'
      · rw [List.mem_singleton.1 hf']; exact hs
    · refine go_on (fault_Raise rfl ?_)
      k_steps
      rename Fr _ _ _ _ => F'
      rename Wd _ _ _ _ _ => X
      rename Room _ _ => r'
      refine go_on (fault_call (hK.keeps F'.keep) (by show 1 ≤ 100; decide) fun h' e a' k' n' o' => ?_)
      have kg : Grow s.heap h' := fun b o q => k' _ _ (F'.keep b o q)
      have ke : s.heap.get? e = none := by
        cases q : s.heap.get? e with
        | none => rfl
        | some o => rw [F'.keep _ _ q] at n'; cases n'
      refine fault_init_spec X kg ke (Room.creation (r'.mono (by decide))) o' fun h₂ tk₂ k₂ e₂ => ⟨rfl, ?_⟩
      k_steps
      refine hide_goal fun Cz hCz => ?_
      obtain ⟨o₂, a₂, e₂, c₂, d₂⟩ := e₂
      refine hCz ?_
      clear hCz
      clear Cz
      have k₃ : Grow s.heap h₂ := fun b o q => k₂ b o (fun z => by rw [z, ke] at q; cases q) (kg b o q)
      refine ⟨e, o₂, a₂, rfl, fault_at (hK.keeps k₃), e₂, c₂, d₂, ?_⟩
      have hbe : base.get? e = none := by
        cases q : base.get? e with
        | none => rfl
        | some o => rw [hB _ _ q] at ke; cases ke
      have hLe : L ≠ e := by
        intro z
        refine hide_goal fun Cz hCz => ?_
        obtain ⟨oL, _, _, hoL, _⟩ := F'.ns
        refine hCz ?_
        clear hCz
        clear Cz
        have := k' _ _ hoL
        subst z
        refine hide_goal fun Cz hCz => ?_
        obtain ⟨oL', _, _, hoL', _⟩ := F'.ns
        refine hCz ?_
        clear hCz
        clear Cz
        have z := hoL'.symm.trans n'
        cases z
      have hns := F'.ns.at' (h' := h₂) (fun o q => k₂ _ _ hLe (k' _ _ q))
      have hLb : base.get? L = none := by
        cases q : base.get? L with
        | none => rfl
        | some o => exact absurd (Heap.lt_size (hB _ _ q)) (Nat.not_lt.mpr F'.above)
      have hfo : h₂.FunFrames base outer := hFr.of_keeps fun b o q _ => ⟨o, k₃ b o q, rfl⟩
      refine wpAny_leaving_firstW (Around.frames_deeper hA) (Heap.FunFrames.cons (fun q => by cases q) rfl hns hLb hfo) rfl e₂ (fun b o q => k₃ b o (hB b o q)) hbe d₂ rfl rfl fun h₄ hL => ?_
      refine hide_goal fun Cz hCz => ?_
      obtain ⟨x1, x2, x3, x4⟩ := hL
      refine hCz ?_
      clear hCz
      clear Cz
      rw [c₂] at x3
      exact hE e a₂ h₄ _ ⟨x1, hbe, x2.2.2, x3⟩ ((Heap.UpToSlots.of_keeps k₃).trans x4)
  · intro u h tk hG F' N'
    exfalso
    obtain ⟨f, hf1, hf2⟩ := hbad
    rw [hf.length, List.take_length] at hG
    rw [hG f hf1] at hf2
    cases hf2
end
/- M9 -/
theorem off_M9 : True := by w_top off; trivial
section
variable {w : World} {mean : ExcName → Option Value} {mg mb : Str → Option Value} {A : Around} {s : Shared} {Q : Value → Shared → Prop} {E : Value → Shared → Prop}
theorem law_written_spec {a : Addr} {vs : List Value} {fs : List (List UInt8 × List UInt8)} {base : Heap} {outer : List Env} (Y : Wd w mean mg mb base) (R : Room A 8) (hl : s.heap.IsList a vs.toArray) (hf : FsAt s.heap vs fs)
    (hsm : ∀ f ∈ fs, Small f) (hn : fs.length ≤ 100)
    (hA : A.frames = some outer) (hB : base.StaysIn s.heap) (hsz : base.objs.size ≤ s.heap.objs.size) (hFr : s.heap.FunFrames base outer)
    (hok : ∀ h' tk t, (∀ f ∈ fs, sound f.1 f.2 = true) → Grow s.heap h' → Q (.bytes (written fs).toArray t) { s with heap := h', toks := tk })
    (hno : ∀ h' tk, (∃ f ∈ fs, sound f.1 f.2 = false) → base.StaysIn h' → s.heap.UpToSlots h' → Q .none { s with heap := h', toks := tk }) : wpAny (model prg w) A (call (.ref 186) [.ref a] []) Q E s := by
  have X : Wd w mean mg mb s.heap := Y.grow hB
  obtain ⟨hK, hT⟩ := id X
  obtain ⟨hd, dp, fr, gd, un⟩ := A
  cases R.handled
  walk_at "m_enter"
  intro L h₁ tk r' F N
  k_steps
  by_cases hall : ∀ f ∈ fs, sound f.1 f.2 = true
  · exact write_ok (X.grow F.keep) (r'.mono (by decide)) (hl.at fun o q => F.keep _ _ q) (hf.grow F.keep) hsm hn hall fun h' tk t k => hok _ _ _ hall fun b o q => k _ _ (F.keep b o q)
  · have hbad : ∃ f ∈ fs, sound f.1 f.2 = false := by
      simp only [Classical.not_forall, Bool.not_eq_true] at hall
      obtain ⟨f, h1, h2⟩ := hall
      exact ⟨f, h1, h2⟩
    have hB₁ : base.StaysIn h₁ := fun b o q => F.keep b o (hB b o q)
    have hLb : base.get? L = none := by
      cases q : base.get? L with
      | none => rfl
      | some o => exact absurd (Heap.lt_size (hB _ _ q)) (Nat.not_lt.mpr F.above)
    have hfo : h₁.FunFrames base outer := hFr.of_keeps fun b o q _ => ⟨o, F.keep b o q, rfl⟩
    have F₀ := F
    replace F : Fr base L h₁ _ := ⟨F.ns, hB₁, Nat.le_trans hsz F.above⟩
    refine write_bad (X.grow F₀.keep) (r'.mono (by decide)) (hl.at fun o q => F₀.keep _ _ q) (hf.grow F₀.keep) hsm hn hbad (Around.frames_deeper hA) hB₁ (Heap.FunFrames.cons (fun q => by cases q) rfl F.ns hLb hfo) ?_
    intro e a' h' tk' hfl hsm'
    refine wpAny_looks_onW (Around.frames_deeper hA) rfl hfl fun h₄ hheld₄ hsm₄ => ?_
    refine wpAny_landsW hheld₄ fun h₅ hheld hsm₅' => ?_
    have hsm₅ := hsm'.trans (hsm₄.trans hsm₅')
    have F₅ : Fr base L h₅ _ := F.of_stays hheld.1 hsm₅
    obtain ⟨ob, hob, hobc⟩ := hheld.there
    clear hK hT
    obtain ⟨hK, hT⟩ := id Y
    refine wpAny_handleBy_cons (codeAny_handlers_test ?_) (by intro q; cases q)
    k_steps
    refine hide_goal fun Cz hCz => ?_
    obtain ⟨k0, k1, k2, k3, k5, hC⟩ := fault_at (hK.keeps F₅.keep)
    refine hCz ?_
    clear hCz
    clear Cz
    refine wpAny_excMatches_sub_self hC hob hobc (by decide) (codeAny_handlers_suite ?_)
    refine lands_againW hheld fun h₆ hfl₆ hsm₆ => ?_
    have F₆ : Fr base L h₆ _ := F₅.of_stays hfl₆.1 hsm₆
    k_steps
    exact hno _ _ hbad hfl₆.1 (((Heap.UpToSlots.of_keeps F₀.keep).trans hsm₅).trans hsm₆)
end
/- MP -/
theorem off_MP : True := by w_top off; trivial
/- what split gives -/
theorem nth_here {l : List UInt8} {c : UInt8} {a j : Nat} (h : l[a]? = some c) (ha : a < j) : nth l c a j = some a := nth_eq (Nat.le_refl _) ha h fun m h1 h2 => by omega
theorem nth_skip {l : List UInt8} {c : UInt8} {a j : Nat} (h : l[a]? ≠ some c) : nth l c a j = nth l c (a + 1) j := by
  cases hn : nth l c (a + 1) j with
  | none =>
    refine nth_eq_none fun m h1 h2 h3 => ?_
    rcases Nat.lt_or_ge a m with hm | hm
    · exact nth_none hn m hm h2 h3
    · have : m = a := by omega
      subst this
      exact h h3
  | some k =>
    obtain ⟨g1, g2, g3, g4⟩ := nth_some hn
    refine nth_eq (by omega) g2 g3 fun m h1 h2 h3 => ?_
    rcases Nat.lt_or_ge a m with hm | hm
    · exact g4 m hm h2 h3
    · have : m = a := by omega
      subst this
      exact h h3
/-- the places of a byte from a on -/
inductive Pl (l : List UInt8) (c : UInt8) : Nat → List Nat → Prop
  | nil {a : Nat} (h : nth l c a l.length = none) : Pl l c a []
  | cons {a p : Nat} {ps : List Nat} (h : nth l c a l.length = some p) (r : Pl l c (p + 1) ps) : Pl l c a (p :: ps)
theorem pl_filter (l : List UInt8) (c : UInt8) : ∀ (k a : Nat), a + k = l.length → Pl l c a ((List.range' a k).filter fun i => l[i]? == some c) := by
  intro k
  induction k with
  | zero =>
    intro a ha
    exact .nil (nth_eq_none fun m h1 h2 => by omega)
  | succ k ih =>
    intro a ha
    have ih := ih (a + 1) (by omega)
    rw [List.range'_succ, List.filter_cons]
    by_cases h : l[a]? = some c
    · rw [if_pos (by rw [h]; exact beq_self_eq_true _)]
      exact .cons (nth_here h (by omega)) ih
    · rw [if_neg (by simpa using h)]
      have e := nth_skip (j := l.length) h
      cases hf : (List.range' (a + 1) k).filter fun i => l[i]? == some c with
      | nil =>
        rw [hf] at ih
        cases ih with
        | nil hh => exact .nil (by rw [e, hh])
      | cons p ps =>
        rw [hf] at ih
        cases ih with
        | cons hh r => exact .cons (by rw [e, hh]) r
theorem occ_eq (l : List UInt8) (c : UInt8) (n : Nat) (acc : List Nat × Nat) : ∀ k, (acc.2 ≤ 0) → 
    ((List.range k).foldl (fun (acc : List Nat × Nat) (i : Nat) => if (decide (i ≥ acc.2) && l.toArray.extract i (i + 1) == #[c]) = true then (i :: acc.1, i + 1) else acc) acc).1 = ((List.range k).filter fun i => l[i]? == some c).reverse ++ acc.1 ∧
    ((List.range k).foldl (fun (acc : List Nat × Nat) (i : Nat) => if (decide (i ≥ acc.2) && l.toArray.extract i (i + 1) == #[c]) = true then (i :: acc.1, i + 1) else acc) acc).2 ≤ k := by
  intro k h0
  induction k with
  | zero => exact ⟨by simp, by simpa using h0⟩
  | succ k ih =>
    obtain ⟨h1, h2⟩ := ih
    rw [List.range_succ, List.foldl_append, List.filter_append]
    generalize (List.range k).foldl _ acc = q at h1 h2 ⊢
    simp only [List.foldl_cons, List.foldl_nil, List.filter_cons, List.filter_nil]
    rw [extract_one]
    have hk : decide (k ≥ q.2) = true := decide_eq_true h2
    rw [hk, Bool.true_and]
    by_cases h : (l[k]? == some c) = true
    · rw [if_pos h, if_pos h]
      refine ⟨?_, Nat.le_refl _⟩
      rw [h1, List.reverse_append]
      rfl
    · rw [if_neg h, if_neg h, List.append_nil]
      exact ⟨h1, by omega⟩
theorem places_eq (l : List UInt8) (c : UInt8) : By.places l.toArray c = (List.range l.length).filter fun i => l[i]? == some c := by
  unfold By.places Builtin.Bytes.occurrences
  have e : (#[c] : Array UInt8).size = 1 := rfl
  have e2 : l.toArray.size + 1 - (0 + 1) = l.length := by rw [List.size_toArray]; omega
  have e3 : (List.range l.length).map (· + 0) = List.range l.length := by simp
  rw [e, e2, e3]
  dsimp only
  rw [(occ_eq l c l.length ([], 0) l.length (Nat.le_refl _)).1, List.append_nil, List.reverse_reverse, List.take_of_length_le]
  refine Nat.le_trans (List.length_filter_le _ _) ?_
  rw [List.length_range, List.size_toArray]
  omega
theorem places_pl (l : List UInt8) (c : UInt8) : Pl l c 0 (By.places l.toArray c) := by
  rw [places_eq, List.range_eq_range']
  exact pl_filter l c l.length 0 (by omega)
/-- the pieces between these places -/
noncomputable def betw (l : List UInt8) : Nat → List Nat → List (List UInt8)
  | a, [] => [l.drop a]
  | a, p :: ps => (l.drop a).take (p - a) :: betw l (p + 1) ps
theorem between_eq (l : List UInt8) (ps : List Nat) : Builtin.Bytes.between l.toArray 1 ps = (betw l 0 ps).map List.toArray := by
  unfold Builtin.Bytes.between
  have key : ∀ (ps : List Nat) (a : Nat) (parts : Array (Array UInt8)),
      ((ps.foldl (fun (q : Array (Array UInt8) × Nat) p => (q.1.push (l.toArray.extract q.2 p), p + 1)) (parts, a)).1.push
        (l.toArray.extract (ps.foldl (fun (q : Array (Array UInt8) × Nat) p => (q.1.push (l.toArray.extract q.2 p), p + 1)) (parts, a)).2 l.toArray.size)).toList = parts.toList ++ (betw l a ps).map List.toArray := by
    intro ps
    induction ps with
    | nil =>
      intro a parts
      simp only [List.foldl_nil, betw, List.map_cons, List.map_nil, Array.toList_push]
      congr 2
      rw [List.extract_toArray, List.extract_eq_take_drop, List.size_toArray, List.take_of_length_le]
      rw [List.length_drop]
      exact Nat.le_refl _
    | cons p ps ih =>
      intro a parts
      simp only [List.foldl_cons]
      rw [ih, Array.toList_push, List.append_assoc]
      congr 1
      simp only [betw, List.map_cons, List.singleton_append]
      congr 1
      rw [List.extract_toArray, List.extract_eq_take_drop]
  exact (key ps 0 #[]).trans (by rfl)
theorem pieces_eq (l : List UInt8) (c : UInt8) : By.pieces l.toArray c = (betw l 0 (By.places l.toArray c)).map List.toArray := by
  unfold By.pieces
  split
  · rename_i h
    rw [List.isEmpty_iff.1 h]
    rfl
  · exact between_eq _ _
/- MI -/
theorem off_MI : True := by w_top off; trivial
/-- a row of split without the CR at its end -/
noncomputable def strip (r : List UInt8) : List UInt8 := if r.getLast? = some 13 then r.dropLast else r
noncomputable def canRows : List (List UInt8) → Bool
  | [] => true
  | [r] => whiteHead r
  | r :: q :: rest => whiteHead (strip r) && canRows (q :: rest)
theorem whiteHead_take {l : List UInt8} {n : Nat} (h : 0 < n) : whiteHead (l.take n) = whiteHead l := by
  obtain ⟨m, rfl⟩ : ∃ m, n = m + 1 := ⟨n - 1, by omega⟩
  cases l <;> rfl
theorem whiteHead_drop_some {l : List UInt8} {a : Nat} {c : UInt8} (h : l[a]? = some c) : whiteHead (l.drop a) = isWhite c := by
  rw [drop_at h]
  rfl
theorem strip_white {l : List UInt8} {a p : Nat} (h : nth l 10 a l.length = some p) : whiteHead (strip ((l.drop a).take (p - a))) = whiteHead (l.drop a) := by
  obtain ⟨h1, h2, h3, h4⟩ := nth_some h
  rcases Nat.lt_or_ge a p with hlt | hge
  · obtain ⟨c, hc⟩ : ∃ c, l[a]? = some c := ⟨l[a]'(by omega), List.getElem?_eq_getElem _⟩
    obtain ⟨m, hm⟩ : ∃ m, p - a = m + 1 := ⟨p - a - 1, sub_up (by omega)⟩
    rw [hm, drop_at hc, List.take_succ_cons]
    unfold strip
    split
    · rename_i hl
      cases ht : (l.drop (a + 1)).take m with
      | nil =>
        rw [ht] at hl
        simp only [List.getLast?_singleton, Option.some.injEq] at hl
        subst hl
        rfl
      | cons d t => rfl
    · rfl
  · have : p = a := by omega
    subst this
    rw [Nat.sub_self, List.take_zero, whiteHead_drop_some h3]
    rfl
theorem can_tail {l : List UInt8} {a : Nat} {ps : List Nat} (h : Pl l 10 a ps) : canRows (betw l a ps).tail = okTail (l.drop a) := by
  induction h with
  | nil h => rw [okTail_none h]; rfl
  | @cons a p ps h r ih =>
    rw [okTail_some h]
    show canRows (betw l (p + 1) ps) = _
    cases r with
    | nil h' =>
      show whiteHead (l.drop (p + 1)) = _
      rw [okTail_none h', Bool.and_true]
    | @cons _ p' ps' h' r' =>
      rw [← ih]
      show canRows ((l.drop (p + 1)).take (p' - (p + 1)) :: betw l (p' + 1) ps') = _
      have hne : ∃ q rest, betw l (p' + 1) ps' = q :: rest := by
        cases ps' with
        | nil => exact ⟨_, _, rfl⟩
        | cons => exact ⟨_, _, rfl⟩
      obtain ⟨q, rest, hq⟩ := hne
      rw [hq]
      show (whiteHead (strip _) && canRows (q :: rest)) = (whiteHead _ && canRows (betw l (p' + 1) ps'))
      rw [strip_white h', hq]
/-- the row at a place, as the law looks at it -/
noncomputable def rowAt (ps : List (List UInt8)) (i : Nat) : List UInt8 := if i + 1 < ps.length then strip (ps.getD i []) else ps.getD i []
theorem canRows_of {ps : List (List UInt8)} : canRows ps = true ↔ ∀ i, i < ps.length → whiteHead (rowAt ps i) = true := by
  induction ps with
  | nil => simp [canRows]
  | cons r rest ih =>
    cases rest with
    | nil =>
      constructor
      · intro h i hi
        have : i = 0 := by simp at hi; omega
        subst this
        exact h
      · intro h
        exact h 0 (by simp)
    | cons q rest =>
      have e : ∀ i, rowAt (r :: q :: rest) (i + 1) = rowAt (q :: rest) i := by
        intro i
        unfold rowAt
        simp only [List.length_cons, List.getD_cons_succ, Nat.add_lt_add_iff_right]
      show (whiteHead (strip r) && canRows (q :: rest)) = true ↔ _
      rw [Bool.and_eq_true, ih]
      constructor
      · rintro ⟨h1, h2⟩ i hi
        cases i with
        | zero =>
          have : rowAt (r :: q :: rest) 0 = strip r := by
            unfold rowAt
            rw [if_pos (by simp)]
            rfl
          rw [this]
          exact h1
        | succ i =>
          rw [e]
          exact h2 i (by simpa using hi)
      · intro h
        refine ⟨?_, fun i hi => ?_⟩
        · have := h 0 (by simp)
          unfold rowAt at this
          rw [if_pos (by simp)] at this
          exact this
        · rw [← e]
          exact h (i + 1) (by simpa using hi)
/-- the pieces of a raw, and what the law finds in them -/
noncomputable def cutUp (l : List UInt8) : List (List UInt8) := betw l 0 (By.places l.toArray 10)
theorem cutUp_law (l : List UInt8) : okTail l = true ↔ ∀ i, 1 ≤ i → i < (cutUp l).length → whiteHead (rowAt (cutUp l) i) = true := by
  have h := can_tail (places_pl l 10)
  rw [List.drop_zero] at h
  rw [← h, canRows_of]
  show (∀ i, i < (cutUp l).tail.length → whiteHead (rowAt (cutUp l).tail i) = true) ↔ _
  have hne : ∃ q rest, cutUp l = q :: rest := by
    unfold cutUp
    cases By.places l.toArray 10 with
    | nil => exact ⟨_, _, rfl⟩
    | cons => exact ⟨_, _, rfl⟩
  obtain ⟨q, rest, hq⟩ := hne
  rw [hq]
  have e : ∀ i, rowAt (q :: rest) (i + 1) = rowAt rest i := by
    intro i
    unfold rowAt
    simp only [List.length_cons, List.getD_cons_succ, Nat.add_lt_add_iff_right]
  constructor
  · intro h i h1 h2
    obtain ⟨j, rfl⟩ : ∃ j, i = j + 1 := ⟨i - 1, by omega⟩
    rw [e]
    exact h j (by simpa using h2)
  · intro h i h1
    have := h (i + 1) (by omega) (by simpa using h1)
    rw [e] at this
    exact this
theorem betw_length (l : List UInt8) (ps : List Nat) (a : Nat) : (betw l a ps).length = ps.length + 1 := by
  induction ps generalizing a with
  | nil => rfl
  | cons p ps ih => simp only [betw, List.length_cons, ih]
theorem betw_le (l : List UInt8) (ps : List Nat) (a : Nat) : ∀ b ∈ betw l a ps, b.length ≤ l.length := by
  induction ps generalizing a with
  | nil =>
    intro b hb
    rw [List.mem_singleton.1 hb, List.length_drop]
    exact Nat.sub_le _ _
  | cons p ps ih =>
    intro b hb
    rcases List.mem_cons.1 hb with rfl | hb
    · rw [List.length_take, List.length_drop]; exact min_sub _ _ _
    · exact ih _ b hb
theorem cutUp_length (l : List UInt8) : (cutUp l).length ≤ l.length + 1 := by
  unfold cutUp
  rw [betw_length, places_eq]
  have := List.length_filter_le (fun i => l[i]? == some 10) (List.range l.length)
  rw [List.length_range] at this
  omega
theorem cutUp_le (l : List UInt8) : ∀ b ∈ cutUp l, b.length ≤ l.length := betw_le _ _ _
theorem split_L {prog : Program} {w : World} {A : Around} {E : Value → Shared → Prop} {h : Heap} {g : Array GenState} {dr : Drawn} {tk : Nat} {os : OsState} {l : List UInt8} {t t1 : Tok} {Q : Value → Shared → Prop} (hl : l.length ≤ 1000)
    (hq : ∀ h' k vs, Bl vs (cutUp l) → vs.length ≤ 1001 → NewAt h h' h.objs.size (listO vs) → Q (.ref h.objs.size) ⟨h', g, dr, k, os⟩) : wpAny (model prog w) A (call (.builtin "bytes.split") [.bytes l.toArray t, .bytes [10].toArray t1]) Q E ⟨h, g, dr, tk, os⟩ := by
  have hp : By.pieces l.toArray 10 = (cutUp l).map List.toArray := pieces_eq l 10
  have hl1 := cutUp_length l
  refine By.call_split ?_ ?_ ?_
  · intro p hm
    rw [hp] at hm
    obtain ⟨b, hb, rfl⟩ := List.mem_map.1 hm
    have := cutUp_le l b hb
    rw [List.size_toArray, sizeLine_eq]
    omega
  · rw [hp, List.length_map, sizeLine_eq]; omega
  · intro vs k hv
    rw [hp] at hv
    have hb : Bl vs (cutUp l) := hv
    exact hq _ _ vs hb (by rw [hb.length]; omega) ⟨fun b o e => Heap.get?_push_of_some _ e, Heap.get?_push_size _ rfl, Heap.get?_none_of_le (Nat.le_refl _)⟩
section
variable {prog : Program} {w : World} {A : Around} {E : Value → Shared → Prop} {s : Shared} {env : Env} {h₀ : Heap} {x : PySem.Str} {body : List Stmt} {Q : Flow → Shared → Prop} {m₀ : PySem.Str → Option Value}
/-- a loop over a range -/
theorem iter_rangeV {r : Addr} {a₀ b₀ : Int} {t₀ u₀ v₀ : Tok} {n : Nat} {news : List (Addr × Obj)} (J : Nat → (PySem.Str → Option Value) → List (Addr × Obj) → Prop)
    (hh : A.handled = none) (hr : IsRange s.heap r a₀ b₀ 1 t₀ u₀ v₀) (hsmall : Builtin.Range.small a₀ b₀ 1 = true) (hn : Builtin.Range.rangeSize a₀ b₀ 1 = (n : Int)) (F : Fr h₀ env.locals s.heap m₀) (N : News h₀ env.locals s.heap news) (hj : J 0 m₀ news)
    (turn : ∀ i t m₁ news₁ h tk own, i < n → OwnOff own (news.map (·.1)) → J i m₁ news₁ → Fr h₀ env.locals h (fun y => if y = x then some (.int (a₀ + (i : Int)) t) else m₁ y) → News h₀ env.locals h (news₁ ++ own) →
      wpAny (model prog w) A (execs body env) (InvPostN h₀ env.locals (J (i + 1)) own (news.map (·.1)) { s with heap := h, toks := tk } Q) E { s with heap := h, toks := tk })
    (done : ∀ m₁ news₁ h tk, J n m₁ news₁ → Fr h₀ env.locals h m₁ → News h₀ env.locals h news₁ → Q .next { s with heap := h, toks := tk }) :
    wpAny (model prog w) A (pyIter (.ref r)) (fun it s₂ => LoopAtV prog w A h₀ env x body Q E it s₂) E s := by
  refine wpAny_pyIter_range hr hsmall ?_
  have W : Walks prog w A s.heap.objs.size [s.heap.objs.size] [s.heap.objs.size] n (fun i v => i < n ∧ ∃ t, v = .int (a₀ + i * 1) t)
      (fun i h => IsRangeIter h s.heap.objs.size (a₀ + (i : Nat) * 1) ((n : Int) - (i : Nat)) 1) := (Walks.range hh _ a₀ 1 n).bound
  refine loop_invN J W ?_ ?_ ?_ ?_ (by show IsRangeIter _ _ _ _ _; rw [hn]; simpa using Heap.get?_push_size _ rfl) (F.push _) (fun p hp => ⟨Heap.get?_push_of_some _ (N p hp).1, (N p hp).2⟩) hj ?_ ?_
  · intro hm
    exact absurd F.ns.lt ((List.mem_singleton.mp hm) ▸ Nat.lt_irrefl _)
  · intro b hb
    rw [List.mem_singleton.mp hb]
    exact next_is_new F
  · intro p hp hI
    exact absurd (Heap.lt_size (N p hp).1) ((List.mem_singleton.mp hI) ▸ Nat.lt_irrefl _)
  · intro p hp hI
    exact absurd (Heap.lt_size (N p hp).1) ((List.mem_singleton.mp hI) ▸ Nat.lt_irrefl _)
  · rintro i v m₁ news₁ h tk own hi ⟨_, t, rfl⟩ _ hoff hJ F₁ N₁
    rw [Int.mul_one] at F₁
    exact turn i t m₁ news₁ h tk own hi hoff hJ F₁ N₁
  · intro m₁ news₁ h tk hJ F₁ N₁
    exact done m₁ news₁ h tk hJ F₁ N₁
end
section
variable {prog : Program} {w : World} {A : Around} {E : Value → Shared → Prop} {h : Heap} {g : Array GenState} {dr : Drawn} {tk : Nat} {os : OsState} {h₀ : Heap} {L l : Addr} {news : List (Addr × Obj)} {vs : List Value} {n : Nat} {od : Option Addr} {sl : Array (Option Value)} {Q : Value → Shared → Prop}
theorem len_Lst (N : News h₀ L h news) (hm : (l, { cls := .type "list", dict := od, data := .seq vs.toArray n, slots := sl }) ∈ news) (hz : vs.length ≤ 16777217)
    (hq : ∀ t k, Q (.int (vs.length : Nat) t) ⟨h, g, dr, k, os⟩) : wpAny (model prog w) A (call (.builtin "len") [.ref l]) Q E ⟨h, g, dr, tk, os⟩ := by
  refine len_list (News.isList N hm) (by rw [List.size_toArray]; omega) ?_
  rw [List.size_toArray]
  exact hq _ _
theorem item_Bl {value slice : PySem.Expr} {bs : List (List UInt8)} {i : Int} {u : Tok} (N : News h₀ L h news) (hm : (l, { cls := .type "list", dict := od, data := .seq vs.toArray n, slots := sl }) ∈ news) (hb : Bl vs bs) (h0 : 0 ≤ i) (h1 : i < bs.length) (hz : bs.length ≤ 16777217) (hbd : ∀ b ∈ bs, b.length ≤ 1000)
    (hq : ∀ b t, bs[i.toNat]? = some b → b.length ≤ 1000 → Q (.bytes b.toArray t) ⟨h, g, dr, tk, os⟩)
    (hs : subscripted slice false (.ref l) (.int i u) = operate [.ref l, .int i u] (getItem (.ref l) (.int i u)) := by with_unfolding_all rfl) :
    wpAny (model prog w) A (subscriptTail value slice (.ref l) (.int i u)) Q E ⟨h, g, dr, tk, os⟩ := by
  have hL := News.isList N hm
  have hlen := hb.length
  obtain ⟨v, hv⟩ : ∃ v, vs[i.toNat]? = some v := ⟨vs[i.toNat]'(by omega), List.getElem?_eq_getElem _⟩
  obtain ⟨b, t, hbb, rfl⟩ := hb.getV hv
  exact tail_any hL.typeIs slot_list_getitem.lookup (wpAny_getItem_list hL h0 (by omega) (by simpa using hv) (hq b t hbb (hbd b (List.mem_of_getElem? hbb)))) hs
end
theorem size_one {a b : Int} {n : Nat} (e : b = a + n) : Builtin.Range.rangeSize a b 1 = (n : Int) := by
  subst e
  unfold Builtin.Range.rangeSize
  rw [if_pos (by decide)]
  split
  · rw [Int.ediv_one]; omega
  · omega
theorem small_one {a b : Int} (ha : 0 ≤ a) (hb : a ≤ b) (hz : b ≤ 100000) : Builtin.Range.small a b 1 = true := by
  obtain ⟨n, hn⟩ : ∃ n : Nat, b = a + n := ⟨(b - a).toNat, by omega⟩
  have key : ∀ i : Int, 0 ≤ i → i ≤ 100000 → Builtin.Range.rangeFitsLong i = true := by
    intro i h1 h2
    unfold Builtin.Range.rangeFitsLong
    simp only [Bool.and_eq_true, decide_eq_true_eq]
    omega
  unfold Builtin.Range.small
  rw [size_one hn, key a ha (by omega), key b (by omega) hz, key 1 (by decide) (by decide), key (n : Int) (by omega) (by omega), if_pos (by decide), key (b + (1 - 1)) (by omega) (by omega)]
  simp
section
variable {prog : Program} {w : World} {A : Around} {E : Value → Shared → Prop} {s : Shared}
theorem eq_bool_L {a b : List UInt8} {t u : Tok} {Q : Bool → Shared → Prop} (h : Q (decide (a = b)) s) : wpAny (model prog w) A (eqBool (.bytes a.toArray t) (.bytes b.toArray u)) Q E s := eqBool_bytes h
theorem tuple_has_bytes {t : Addr} {vs : List Value} {bs : List (List UInt8)} {x : List UInt8} {u : Tok} {P : PySem.Fin → Shared → Prop} (ht : IsTup s.heap t vs.toArray) (hb : Bl vs bs)
    (h : P (.done (.ret (.bool (bs.any fun b => decide (b = x))))) s) : wpAny (model prog w) A (Builtin.«tuple.__contains__» ⟨[.ref t, .bytes x.toArray u], []⟩) P E s := by
  show wpAny _ _ (Builtin.Tuple.tupleItemsOf (.ref t) >>= _) _ _ s
  refine wpAny_bind (tupleItemsOf_ ht ?_)
  refine wpAny_bind (forIn_array_ _ (fun rest b s' => b.1 = none ∧ s' = s ∧ ∃ ms, Bl rest ms ∧ P (.done (.ret (.bool (ms.any fun b => decide (b = x))))) s) _ ?_ ?_ vs.toArray _ ⟨rfl, rfl, bs, by simpa using hb, h⟩)
  · rintro y rest b s' ⟨hb, rfl, ms, hm, hP⟩
    cases ms with
    | nil => cases hm
    | cons m ms =>
      cases hm with
      | cons tk e hm' =>
        subst e
        refine wpAny_bind (eq_bool_L ?_)
        rw [List.any_cons] at hP
        cases hnx : decide (m = x) with
        | true =>
          rw [hnx] at hP
          exact wpAny_bind (wpAny_pure (wpAny_pure (wpAny_pure (by simpa using hP))))
        | false =>
          rw [hnx] at hP
          exact wpAny_pure ⟨rfl, rfl, ms, hm', by simpa using hP⟩
  · rintro ⟨b1, b2⟩ s' ⟨hb, rfl, ms, hm, hP⟩
    cases ms with
    | cons m ms => cases hm
    | nil =>
      simp only at hb
      subst hb
      exact wpAny_pure (by simpa using hP)
theorem has_bytes {t : Addr} {vs : List Value} {bs : List (List UInt8)} {x : List UInt8} {u : Tok} {Q : Bool → Shared → Prop} (ht : IsTup s.heap t vs.toArray) (hb : Bl vs bs)
    (h : Q (bs.any fun b => decide (b = x)) s) : wpAny (model prog w) A (contains (.ref t) (.bytes x.toArray u)) Q E s := by
  unfold contains
  refine wpAny_holding ?_
  refine wpAny_bind (wpAny_specialOf ht.typeIs slot_tuple_contains.lookup ?_)
  rw [if_neg (by decide)]
  exact wpAny_bind (wpAny_callSpecialUnlessNone?_slot (name := Str.ofString "__contains__") ht.typeIs slot_tuple_contains
    (wpAny_call_entry slot_tuple_contains ht.typeIs entry_tuple_contains (tuple_has_bytes ht hb ⟨_, rfl, wpAny_truthy_bool h⟩) (args_tuple_contains _ _)))
theorem notin_bytes {h₀ : Heap} {L t : Addr} {news : List (Addr × Obj)} {vs : List Value} {n : Nat} {od : Option Addr} {sl : Array (Option Value)} {bs : List (List UInt8)} {x : List UInt8} {u : Tok} {Q : Value → Shared → Prop} (N : News h₀ L s.heap news) (hm : (t, { cls := .type "tuple", dict := od, data := .seq vs.toArray n, slots := sl }) ∈ news) (hb : Bl vs bs)
    (h : Q (.bool (!(bs.any fun b => decide (b = x)))) s) : wpAny (model prog w) A (compareOp .NotIn (.bytes x.toArray u) (.ref t)) Q E s := by
  show wpAny _ _ (do return .bool (!(← contains (.ref t) (.bytes x.toArray u)))) Q E s
  exact wpAny_bind (has_bytes (News.isTup N hm) hb (wpAny_pure h))
end
theorem Bl.cons {vs : List Value} {bs : List (List UInt8)} {b : List UInt8} {t : Tok} (h : Bl vs bs) : Bl (.bytes b.toArray t :: vs) (b :: bs) := By.Bs.cons t rfl h
theorem cut_first (c : List UInt8) : cut c none (some 1) = c.take 1 := by
  unfold cut lo0 hi0
  have e : clipAt c.length (1 : Int) = min 1 c.length := clipAt_nat c.length 1
  simp only [Option.elim, e, List.drop_zero, Nat.sub_zero]
  cases c with
  | nil => rfl
  | cons a t =>
    have : min 1 (a :: t).length = 1 := by simp
    rw [this]
theorem clip_neg (n : Nat) : clipAt n (-1) = n - 1 := by
  unfold clipAt
  rw [if_pos (by decide)]
  cases n with
  | zero => rfl
  | succ n =>
    rw [show (-1 : Int) + ((n + 1 : Nat) : Int) = (n : Int) from by rw [Int.natCast_add, Int.add_comm, Int.add_assoc]; exact Int.add_zero _, Int.min_eq_left (Int.ofNat_le.2 (Nat.le_succ n)), Int.max_eq_right (Int.natCast_nonneg n)]
    rfl
theorem cut_last (c : List UInt8) : cut c (some (-1)) none = c.drop (c.length - 1) := by
  unfold cut lo0 hi0
  simp only [Option.elim, clip_neg]
  rw [List.take_of_length_le (by rw [List.length_drop]; exact Nat.le_refl _)]
theorem cut_init (c : List UInt8) : cut c none (some (-1)) = c.dropLast := by
  unfold cut lo0 hi0
  simp only [Option.elim, clip_neg, List.drop_zero, Nat.sub_zero, List.dropLast_eq_take]
theorem last_13 (c : List UInt8) : (c.drop (c.length - 1) == [13]) = decide (c.getLast? = some 13) := by
  rw [Bool.eq_iff_iff, beq_iff_eq, decide_eq_true_eq]
  cases h : c.getLast? with
  | none =>
    rw [List.getLast?_eq_none_iff.1 h]
    simp
  | some x =>
    obtain ⟨ys, rfl⟩ := List.getLast?_eq_some_iff.1 h
    simp
theorem any_white (c : List UInt8) : ([[32], [9]].any fun b => decide (b = cut c none (some 1))) = whiteHead c := by
  rw [cut_first]
  cases c with
  | nil => rfl
  | cons a t =>
    show (decide ([32] = [a]) || (decide ([9] = [a]) || false)) = (a == 32 || a == 9)
    have e1 : decide (([32] : List UInt8) = [a]) = (a == 32) := by
      rw [Bool.eq_iff_iff, decide_eq_true_eq, beq_iff_eq]
      constructor
      · intro h; injection h with h; exact h.symm
      · intro h; rw [h]
    have e2 : decide (([9] : List UInt8) = [a]) = (a == 9) := by
      rw [Bool.eq_iff_iff, decide_eq_true_eq, beq_iff_eq]
      constructor
      · intro h; injection h with h; exact h.symm
      · intro h; rw [h]
    rw [e1, e2, Bool.or_false]
theorem rowAt_strip {ps : List (List UInt8)} {j : Nat} {b : List UInt8} (hb : ps[j]? = some b) (h : j + 1 < ps.length) (he : (cut b (some (-1)) none == [13]) = true) : rowAt ps j = cut b none (some (-1)) := by
  rw [cut_last, last_13, decide_eq_true_eq] at he
  unfold rowAt
  rw [if_pos h, List.getD_eq_getElem?_getD, hb, cut_init]
  exact if_pos he
theorem rowAt_keep {ps : List (List UInt8)} {j : Nat} {b : List UInt8} (hb : ps[j]? = some b) (he : (cut b (some (-1)) none == [13]) = false) : rowAt ps j = b := by
  rw [cut_last, last_13, decide_eq_false_iff_not] at he
  unfold rowAt
  rw [List.getD_eq_getElem?_getD, hb]
  split
  · exact if_neg he
  · rfl
theorem rowAt_end {ps : List (List UInt8)} {j : Nat} {b : List UInt8} (hb : ps[j]? = some b) (h : ¬ j + 1 < ps.length) : rowAt ps j = b := by
  unfold rowAt
  rw [if_neg h, List.getD_eq_getElem?_getD, hb]
  rfl
/- MJ -/
theorem off_MJ : True := by w_top off; trivial
local macro_rules | `(tactic| walk_at "call builtin:len") => `(tactic| (k_here; (with_reducible show wpAny _ _ (call (Value.builtin "len") [Value.ref _]) _ _ _); (refine' len_Lst ?N ?m ?z ?_; (case N => k_asm); (case m => k_dflt k_mem); (case z => walk_at "m_arith")); intro lenT lenK))
local macro_rules | `(tactic| walk_at "subscriptTail") => `(tactic| (k_here; (with_reducible show wpAny _ _ (subscriptTail _ _ (Value.ref _) (Value.int _ _)) _ _ _); (refine' item_Bl ?N ?m ?bl ?a ?b ?z ?bd ?_; (case N => k_asm); (case m => k_dflt k_mem); (case bl => assumption); (case a => walk_at "m_arith"); (case b => walk_at "m_arith"); (case z => walk_at "m_arith"); (case bd => assumption)); intro itB itT itH itL))
local macro_rules | `(tactic| walk_at "exec For Name Call cons nil") => `(tactic| (k_here; (with_reducible show wpAny _ _ (exec (Stmt.For _ _ _ _ _) _) _ _ _); refine stop_here ?_))
local macro_rules | `(tactic| walk_at "exec For Name Name cons nil") => `(tactic| (k_here; (with_reducible show wpAny _ _ (exec (Stmt.For _ _ _ _ _) _) _ _ _); refine stop_here ?_))
local macro_rules | `(tactic| walk_at "compareOp NotIn bytes ref") => `(tactic| (k_here; (with_reducible show wpAny _ _ (compareOp CmpOp.NotIn (Value.bytes _ _) (Value.ref _)) _ _ _); (refine' notin_bytes ?N ?m ?bl ?_; (case N => k_asm); (case m => k_dflt k_mem); (case bl => first | exact Bl.cons (Bl.cons Bl.nil) | assumption))))
section
variable {w : World} {mean : ExcName → Option Value} {mg mb : Str → Option Value} {A : Around} {s : Shared} {Q : Value → Shared → Prop} {E : Value → Shared → Prop}
theorem law_can_spec {x : Addr} {n r : List UInt8} (X : Wd w mean mg mb s.heap) (R : Room A 2) (hf : FieldAt s.heap x n r) (hn : n.length ≤ 100) (hr : r.length ≤ 1000)
    (hQ : ∀ h' tk, Grow s.heap h' → Q (.bool (n != [97, 32, 98] && okTail r)) { s with heap := h', toks := tk }) : wpAny (model prg w) A (call (.ref 179) [.ref x] []) Q E s := by
  obtain ⟨hK, hT⟩ := id X
  obtain ⟨hd, dp, fr, gd, un⟩ := A
  cases R.handled
  walk_at "m_enter"
  intro L h₁ tk r' F N
  k_steps
  · rename (_ == _) = true => he
    rw [show n = [97, 32, 98] from by simpa using he] at hQ
    rename Fr _ _ _ _ => F
    exact hQ _ _ F.keep
  · rename Fr _ _ _ _ => F'
    rename News _ _ _ _ => N'
    rename (_ == _) = false => he
    refine split_L hr fun h' k' vs' hv' hvl' x' => ?_
    have F'' := x'.fr F'
    have N'' := x'.news F' N'
    dsimp only [listO] at N''
    have hvl := hv'.length
    have hcl := cutUp_length r
    have hbd : ∀ b ∈ cutUp r, b.length ≤ 1000 := fun b hb => Nat.le_trans (cutUp_le r b hb) hr
    k_steps
    walk_at "m_for"
    rename_i hrg F₁ N₁ kk
    have hpos : 1 ≤ vs'.length := by
      rw [hvl]
      unfold cutUp
      rw [betw_length]
      omega
    refine go_on (iter_rangeV (n := vs'.length - 1) (fun i m nx => (nx = [(_, listO vs')] ∧ ∀ j, 1 ≤ j → j < 1 + i → whiteHead (rowAt (cutUp r) j) = true) ∧ m (Str.ofString "pieces") = some (.ref _)) rfl hrg ?_ ?_ F₁ N₁ ⟨⟨rfl, by omega⟩, rfl⟩ ?_ ?_)
    · exact small_one (by omega) (by omega) (by omega)
    · exact size_one (by omega)
    · clear F₁ N₁
      rintro i t m₁ nx h₁ tk own hi hoff ⟨⟨rfl, hG⟩, hm⟩ F' N'
      replace F' := (rd1 (x := Str.ofString "pieces") F' (fun _ => rfl) hm).1
      have ej : (1 + (i : Int)).toNat = 1 + i := by omega
      have fin : ∀ c, rowAt (cutUp r) (1 + i) = c → whiteHead c = true → ∀ j, 1 ≤ j → j < 1 + (i + 1) → whiteHead (rowAt (cutUp r) j) = true := by
        intro c hc hw j h1 h2
        rcases Nat.lt_or_ge j (1 + i) with h | h
        · exact hG j h1 h
        · have : j = 1 + i := by omega
          rw [this, hc]
          exact hw
      have bad : ∀ c, rowAt (cutUp r) (1 + i) = c → whiteHead c = false → ∀ h' tk, Grow s.heap h' → Q (.bool false) { s with heap := h', toks := tk } := by
        intro c hc hw h' tk k
        have : okTail r = false := by
          cases ho : okTail r with
          | false => rfl
          | true =>
            have := (cutUp_law r).1 ho (1 + i) (by omega) (by omega)
            rw [hc, hw] at this
            cases this
        have hq := hQ h' tk k
        rw [this, Bool.and_false] at hq
        exact hq
      refine gen_post fun Qx hQx => ?_
      k_steps
      all_goals subst hQx
      all_goals k_steps
      all_goals rename Fr _ _ _ _ => F'
      all_goals rename News _ _ _ _ => N'
      all_goals rename List.any _ _ = _ => hw
      all_goals rw [any_white] at hw
      all_goals rename (cutUp r)[_]? = _ => hb
      all_goals rw [ej] at hb
      · rename ((List.toArray _).toList == _) = true => hc
        have hr' := rowAt_strip hb (by omega) hc
        exact ⟨_, _, _, _, [_], rfl, F', N', fun p hp => List.mem_cons_of_mem _ (List.mem_append_left _ hp), fun p hp => List.mem_cons_of_mem _ (List.mem_append_right _ hp), rfl, ⟨rfl, fin _ hr' hw⟩, rfl⟩
      · rename ((List.toArray _).toList == _) = true => hc
        exact bad _ (rowAt_strip hb (by omega) hc) hw _ _ F'.keep
      · rename ((List.toArray _).toList == _) = false => hc
        have hr' := rowAt_keep hb hc
        exact ⟨_, _, _, _, [_], rfl, F', N', fun p hp => List.mem_cons_of_mem _ (List.mem_append_left _ hp), fun p hp => List.mem_cons_of_mem _ (List.mem_append_right _ hp), rfl, ⟨rfl, fin _ hr' hw⟩, rfl⟩
      · rename ((List.toArray _).toList == _) = false => hc
        exact bad _ (rowAt_keep hb hc) hw _ _ F'.keep
      · have hr' := rowAt_end hb (by omega)
        exact ⟨_, _, _, _, [_], rfl, F', N', fun p hp => List.mem_cons_of_mem _ (List.mem_append_left _ hp), fun p hp => List.mem_cons_of_mem _ (List.mem_append_right _ hp), rfl, ⟨rfl, fin _ hr' hw⟩, rfl⟩
      · exact bad _ (rowAt_end hb (by omega)) hw _ _ F'.keep
    · rintro m₁ nx h₁ tk ⟨⟨rfl, hG⟩, hm⟩ F' N'
      k_steps
      have ho : okTail r = true := (cutUp_law r).2 fun j h1 h2 => hG j h1 (by omega)
      have hq := hQ h₁ tk F'.keep
      rw [ho, show (n != [97, 32, 98]) = true from by simpa [bne] using he] at hq
      exact hq
end
/- MK -/
theorem off_MK : True := by w_top off; trivial
section
variable {g₀ : Heap} {w : World} {mean : ExcName → Option Value} {mg mb : Str → Option Value} {A : Around} {s : Shared} {Q : Value → Shared → Prop} {E : Value → Shared → Prop}
theorem told_spec {x : Addr} {n r : List UInt8} (X : Wd w mean mg mb s.heap) (R : Room A 1) (hf : FieldAt s.heap x n r)
    (hQ : ∀ a h' tk tn tr, NewAt s.heap h' a (tupO [.bytes n.toArray tn, .bytes r.toArray tr]) → Q (.ref a) { s with heap := h', toks := tk }) : wpAny (model prg w) A (call (.ref 90) [.ref x] []) Q E s := by
  obtain ⟨hK, hT⟩ := id X
  obtain ⟨hd, dp, fr, gd, un⟩ := A
  cases R.handled
  walk_at "m_enter"
  intro L h₁ tk r' F N
  k_steps
  rename Fr _ _ _ _ => F'
  rename News _ _ _ _ => N'
  exact hQ _ _ _ _ _ (NewAt.of F' N' (List.mem_cons_self ..))
noncomputable def PoolOk (ns : List Int) : Prop := ns.length ≤ 24 ∧ ∀ n ∈ ns, 0 ≤ n ∧ n < 10 ^ 80
theorem fdiv_in {n m : Int} (h1 : 0 ≤ n) (h2 : n < 10 ^ 80) (hm : 0 < m) : 0 ≤ n.fdiv m ∧ n.fdiv m < 10 ^ 80 := by
  rw [Int.fdiv_eq_ediv_of_nonneg _ (Int.le_of_lt hm)]
  refine ⟨Int.ediv_nonneg h1 (Int.le_of_lt hm), Int.lt_of_le_of_lt (Int.ediv_le_self _ h1) h2⟩
theorem law_take_spec {P : Addr} {ps : List Value} {ns : List Int} {nn : Nat} {m : Int} {tm : Tok} (X : Wd w mean mg mb g₀) (kg : Grow g₀ s.heap) (kp : g₀.get? P = none) (R : Room A 1)
    (hp : s.heap.get? P = some (listOf ps.toArray nn)) (hi : IntsAre ps ns) (ho : PoolOk ns) (hm : 0 < m) (hm2 : m ≤ 10)
    (hQ : ∀ h' tk d t ps' ns' nn', 0 ≤ d → d < m → (∀ b o, b ≠ P → s.heap.get? b = some o → h'.get? b = some o) → h'.get? P = some (listOf ps'.toArray nn') → IntsAre ps' ns' → PoolOk ns' → Q (.int d t) { s with heap := h', toks := tk }) :
    wpAny (model prg w) A (call (.ref 158) [.ref P, .int m tm] []) Q E s := by
  have X' := X.grow kg
  obtain ⟨hd, dp, fr, gd, un⟩ := A
  cases R.handled
  walk_at "m_enter"
  intro L h₁ tk r' F N
  have kB : Grow g₀ (hideAll s.heap [P]) := fun b o q => hideAll_get _ (kg _ _ q) fun hm => by
    rw [List.mem_singleton.mp hm, kp] at q
    cases q
  obtain ⟨hK, hT⟩ := X.grow kB
  have N' : News (hideAll s.heap [P]) L h₁ [(P, listOf ps.toArray nn)] := by
    intro p hp'
    rw [List.mem_singleton.mp hp']
    refine ⟨F.keep _ _ hp, ?_, hideAll_none _ (List.mem_singleton.mpr rfl)⟩
    exact Nat.ne_of_lt (Nat.lt_of_lt_of_le (Heap.lt_size hp) F.above)
  replace F := hide_fr (e := P) F
  generalize hB : hideAll s.heap [P] = B at F N' hK hT kB
  cases hi with
  | nil =>
    k_steps
    rename Fr _ _ _ _ => F'
    rename News _ _ _ _ => N'
    refine hQ _ _ 0 _ [] [] nn (Int.le_refl _) hm (fun b o hb q => F'.keep b o ?_) (N' _ (List.mem_singleton.mpr rfl)).1 .nil ho
    rw [← hB]
    exact hideAll_get _ q fun hm => hb (List.mem_singleton.mp hm)
  | @cons n t vs ns hi =>
    have hz : vs.length + 1 ≤ 24 := by
      have := ho.1
      rw [List.length_cons, ← hi.length] at this
      exact this
    obtain ⟨hn1, hn2⟩ := ho.2 n (List.mem_cons_self ..)
    k_steps
    · simp only [List.length_cons] at *
      omega
    · rename Fr _ _ _ _ => F'
      rename News _ _ _ _ => N'
      refine kl_popAt (p := []) (q := vs) (k := 0) F' N' (by decide) (by simp [seqIndex?]) rfl (Upd.head (fun _ h => nomatch h)) (by rw [sizeLine_eq]; simp only [List.length_cons]; omega) fun h' F' N' => ?_
      k_steps
      refine hQ _ _ _ _ vs ns _ (Int.fmod_nonneg_of_pos _ hm) (Int.fmod_lt_of_pos _ hm) (fun b o hb q => F'.keep b o ?_) (N' _ (List.mem_singleton.mpr rfl)).1 hi ⟨by rw [← hi.length]; omega, fun k hk => ho.2 k (List.mem_cons_of_mem _ hk)⟩
      rw [← hB]
      exact hideAll_get _ q fun hm => hb (List.mem_singleton.mp hm)
    · rename Fr _ _ _ _ => F'
      rename News _ _ _ _ => N'
      refine hQ _ _ _ _ _ (n.fdiv m :: ns) _ (Int.fmod_nonneg_of_pos _ hm) (Int.fmod_lt_of_pos _ hm) (fun b o hb q => F'.keep b o ?_) (N' _ (List.mem_singleton.mpr rfl)).1 (.cons _ _ hi) ⟨by rw [List.length_cons, ← hi.length]; omega, fun k hk => ?_⟩
      · rw [← hB]
        exact hideAll_get _ q fun hm => hb (List.mem_singleton.mp hm)
      · rcases List.mem_cons.1 hk with rfl | hk
        · exact fdiv_in hn1 hn2 hm
        · exact ho.2 k (List.mem_cons_of_mem _ hk)
end
/- MM -/
theorem off_MM : True := by w_top off; trivial
section
variable {prog : Program} {w : World} {A : Around} {E : Value → Shared → Prop} {h : Heap} {g : Array GenState} {dr : Drawn} {tk : Nat} {os : OsState} {h₀ : Heap} {L l : Addr} {news : List (Addr × Obj)} {vs : List Value} {n : Nat} {od : Option Addr} {sl : Array (Option Value)} {Q : Value → Shared → Prop}
theorem item_Tup {value slice : PySem.Expr} {bs : List (List UInt8)} {i : Int} {u : Tok} (N : News h₀ L h news) (hm : (l, { cls := .type "tuple", dict := od, data := .seq vs.toArray n, slots := sl }) ∈ news) (hb : Bl vs bs) (h0 : 0 ≤ i) (h1 : i < bs.length) (hz : bs.length ≤ 100) (hbd : ∀ b ∈ bs, b.length ≤ 5)
    (hq : ∀ b t, b ∈ bs → b.length ≤ 5 → Q (.bytes b.toArray t) ⟨h, g, dr, tk, os⟩)
    (hs : subscripted slice false (.ref l) (.int i u) = operate [.ref l, .int i u] (getItem (.ref l) (.int i u)) := by with_unfolding_all rfl) :
    wpAny (model prog w) A (subscriptTail value slice (.ref l) (.int i u)) Q E ⟨h, g, dr, tk, os⟩ := by
  have hL := News.isTup N hm
  have hlen := hb.length
  obtain ⟨v, hv⟩ : ∃ v, vs[i.toNat]? = some v := ⟨vs[i.toNat]'(by omega), List.getElem?_eq_getElem _⟩
  obtain ⟨b, t, hbb, rfl⟩ := hb.getV hv
  have hj : seqIndex? i vs.toArray.size = some i.toNat := by
    have hn : ¬ i < 0 := by omega
    have h2 : i < vs.length := by omega
    simp [seqIndex?, hn, h0, h2]
  exact tail_any hL.typeIs slot_tuple_getitem.lookup (getItem_tuple hL (by omega) (by omega) hj (by simpa using hv) (hq b t (List.mem_of_getElem? hbb) (hbd b (List.mem_of_getElem? hbb)))) hs
end
section
variable {w : World} {mean : ExcName → Option Value} {mg mb : Str → Option Value} {A : Around} {E : Value → Shared → Prop} {h : Heap} {g : Array GenState} {dr : Drawn} {tk : Nat} {os : OsState} {B : Heap} {L P : Addr} {m : Str → Option Value} {news : List (Addr × Obj)} {ps : List Value} {ns : List Int} {nn : Nat} {k : Int} {tm : Tok} {Q : Value → Shared → Prop}
theorem take_K (X : Wd w mean mg mb B) (R : Room A 1) (F : Fr B L h m) (N : News B L h news) (hm : (P, listOf ps.toArray nn) ∈ news) (hi : IntsAre ps ns) (ho : PoolOk ns) (hk : 0 < k) (hk2 : k ≤ 10)
    (hQ : ∀ h' tk d t ps' ns' nn', 0 ≤ d → d < k → IntsAre ps' ns' → PoolOk ns' → Fr B L h' m → (∀ news', Upd P (listOf ps.toArray nn) (listOf ps'.toArray nn') news news' → News B L h' news') → Q (.int d t) ⟨h', g, dr, tk, os⟩) :
    wpAny (model prg w) A (call (.ref 158) [.ref P, .int k tm] []) Q E ⟨h, g, dr, tk, os⟩ := by
  obtain ⟨n1, n2, n3⟩ := N _ hm
  refine law_take_spec X F.keep n3 R n1 hi ho hk hk2 fun h' tk d t ps' ns' nn' d0 d1 k' e' i' o' => hQ h' tk d t ps' ns' nn' d0 d1 i' o' (fr_but_e F n3 (Ne.symm n2) k') fun news' U => ?_
  obtain ⟨pre, post, rfl, rfl, a, b⟩ := U.split
  intro p hp
  rcases List.mem_append.1 hp with hp | hp
  · have z := N p (List.mem_append_left _ hp)
    exact ⟨k' _ _ (a p hp) z.1, z.2⟩
  · rcases List.mem_cons.1 hp with rfl | hp
    · exact ⟨e', n2, n3⟩
    · have z := N p (List.mem_append_right _ (List.mem_cons_of_mem _ hp))
      exact ⟨k' _ _ (b p hp) z.1, z.2⟩
end
theorem range_1K {prog : Program} {w : World} {A : Around} {E : Value → Shared → Prop} {h : Heap} {g : Array GenState} {dr : Drawn} {tk : Nat} {os : OsState} {B : Heap} {L : Addr} {m : Str → Option Value} {news : List (Addr × Obj)} {n : Int} {t : Tok} {Q : Value → Shared → Prop} (F : Fr B L h m) (N : News B L h news)
    (hq : ∀ r h' tk t u v, Fr B L h' m → News B L h' news → IsRange h' r 0 n 1 t u v → Q (.ref r) ⟨h', g, dr, tk, os⟩) : wpAny (model prog w) A (call (.type "range") [.int n t]) Q E ⟨h, g, dr, tk, os⟩ :=
  call_range_1 (hq _ _ _ _ _ _ (F.push _) (N.pushKeep _) (IsRange.new ..))
theorem newTuple_L {prog : Program} {w : World} {A : Around} {E : Value → Shared → Prop} {h : Heap} {g : Array GenState} {dr : Drawn} {tk : Nat} {os : OsState} {B : Heap} {L : Addr} {m : Str → Option Value} {news : List (Addr × Obj)} {vs : List Value} {Q : Value → Shared → Prop} (F : Fr B L h m) (N : News B L h news)
    (hq : ∀ D h', Fr B L h' m → News B L h' ((D, { cls := .type "tuple", data := .seq vs.toArray }) :: news) → (∀ p ∈ news, @Ne Nat p.1 D) → Q (.ref D) ⟨h', g, dr, tk, os⟩) (hz : vs.length ≤ 100) : wpAny (model prog w) A (newTuple vs) Q E ⟨h, g, dr, tk, os⟩ :=
  wpAny_newTuple (hq _ _ (F.push _) (N.push F _) fun p hp => Nat.ne_of_lt (Heap.lt_size (N p hp).1)) (by rw [sizeLine_eq]; omega)
/- MN -/
theorem off_MN : True := by w_top off; trivial
local macro_rules | `(tactic| walk_at "call ref") => `(tactic| (k_here; (with_reducible show wpAny _ _ (call (Value.ref 158) _ _) _ _ _); (with_reducible rename Fr _ _ _ _ => F'); (with_reducible rename News _ _ _ _ => N'); (with_reducible rename Wd _ _ _ _ _ => X'); (with_reducible rename Room _ _ => r'); (refine' take_K X' (r'.mono (by decide)) F' N' ?m ?i ?o ?a ?b ?_; (case m => k_dflt k_mem); (case i => assumption); (case o => assumption); (case a => decide); (case b => decide)); intro h' tk' d' t' ps' ns' nn' lo' hi' in' ok' F'' nu'; (have N'' := nu' _ (by k_dflt k_upd))))
local macro_rules | `(tactic| walk_at "subscriptTail") => `(tactic| (k_here; (with_reducible show wpAny _ _ (subscriptTail _ _ (Value.ref _) (Value.int _ _)) _ _ _); (refine' item_Tup ?N ?m ?bl ?a ?b ?z ?bd ?_; (case N => k_asm); (case m => k_dflt k_mem); (case bl => repeat (first | exact Bl.nil | apply Bl.cons)); (case a => walk_at "m_arith"); (case b => walk_at "m_arith"); (case z => decide); (case bd => decide)); intro itB itT itM itL))
local macro_rules | `(tactic| walk_at "call type:range") => `(tactic| (k_here; (with_reducible show wpAny _ _ (call (Value.type "range") [Value.int _ _]) _ _ _); (with_reducible rename Fr _ _ _ _ => F'); (with_reducible rename News _ _ _ _ => N'); (refine range_1K F' N' ?_); intro r' h' tk' t' u' v' F'' N'' rg'))
local macro_rules | `(tactic| walk_at "callWith") => `(tactic| ((try dsimp only); (with_reducible refine' callWith_method1 ?h ?he ?hp); (case he => rfl); (case hp => rfl)))
local macro_rules | `(tactic| walk_at "newTuple") => `(tactic| (k_here; (with_reducible show wpAny _ _ (newTuple _) _ _ _); (with_reducible rename Fr _ _ _ _ => F'); (with_reducible rename News _ _ _ _ => N'); (refine newTuple_L F' N' ?_ (by first | decide | (show _ ≤ _; simp only [List.length_cons, List.length_nil]; omega))); intro D' h' F'' N'' z''; (try simp only [List.forall_mem_append, List.forall_mem_cons, List.forall_mem_nil, and_true, true_and] at z'')))
section
variable {g₀ : Heap} {w : World} {mean : ExcName → Option Value} {mg mb : Str → Option Value} {A : Around} {s : Shared} {Q : Value → Shared → Prop} {E : Value → Shared → Prop}
theorem sum_le5 {bs : List (List UInt8)} (h : ∀ b ∈ bs, b.length ≤ 5) : (bs.map List.length).sum ≤ 5 * bs.length := by
  induction bs with
  | nil => simp
  | cons b bs ih =>
    have h1 := h b (List.mem_cons_self ..)
    have h2 := ih fun c hc => h c (List.mem_cons_of_mem _ hc)
    rw [List.map_cons, List.sum_cons, List.length_cons]
    omega
theorem law_raw_spec {P : Addr} {ps : List Value} {ns : List Int} {nn : Nat} (X : Wd w mean mg mb g₀) (kg : Grow g₀ s.heap) (kp : g₀.get? P = none) (R : Room A 2)
    (hp : s.heap.get? P = some (listOf ps.toArray nn)) (hi : IntsAre ps ns) (ho : PoolOk ns)
    (hQ : ∀ h' tk r t ps' ns' nn', r.length ≤ 100 → (∀ b o, b ≠ P → s.heap.get? b = some o → h'.get? b = some o) → h'.get? P = some (listOf ps'.toArray nn') → IntsAre ps' ns' → PoolOk ns' → Q (.bytes (List.toArray r) t) { s with heap := h', toks := tk }) :
    wpAny (model prg w) A (call (.ref 165) [.ref P] []) Q E s := by
  have X' := X.grow kg
  obtain ⟨hd, dp, fr, gd, un⟩ := A
  cases R.handled
  walk_at "m_enter"
  intro L h₁ tk r' F N
  have kB : Grow g₀ (hideAll s.heap [P]) := fun b o q => hideAll_get _ (kg _ _ q) fun hm => by
    rw [List.mem_singleton.mp hm, kp] at q
    cases q
  have Y := X.grow kB
  obtain ⟨hK, hT⟩ := id Y
  have N' : News (hideAll s.heap [P]) L h₁ [(P, listOf ps.toArray nn)] := by
    intro p hp'
    rw [List.mem_singleton.mp hp']
    refine ⟨F.keep _ _ hp, ?_, hideAll_none _ (List.mem_singleton.mpr rfl)⟩
    exact Nat.ne_of_lt (Nat.lt_of_lt_of_le (Heap.lt_size hp) F.above)
  replace F := hide_fr (e := P) F
  generalize hB : hideAll s.heap [P] = B at F N' hK hT kB Y
  k_steps
  walk_at "m_for"
  rename_i rows _ lrow _ _ _ _ _ d _ ps₁ ns₁ nn₁ lo₁ hi₁ in₁ ok₁ _ _ _ _ _ _ _ _ _ F₁ N₁ hrg
  have hPr : @Ne Nat P rows := Nat.ne_of_lt lrow
  refine go_on (iter_rangeV (n := (1 + d).toNat) (fun i m nx => (∃ vs bs ps ns n1 n2, nx = [(rows, listOf vs.toArray n1), (P, listOf ps.toArray n2)] ∧ Bl vs bs ∧ bs.length = i ∧ (∀ b ∈ bs, b.length ≤ 5) ∧ IntsAre ps ns ∧ PoolOk ns) ∧ m (Str.ofString "rows") = some (.ref rows) ∧ m (Str.ofString "pool") = some (.ref P))
    rfl hrg (small_one (by omega) (by omega) (by omega)) (size_one (by omega)) F₁ N₁ ⟨⟨[], [], ps₁, ns₁, _, _, rfl, Bl.nil, rfl, (fun _ h => nomatch h), in₁, ok₁⟩, rfl, rfl⟩ ?_ ?_)
  · rintro i t m₁ nx h₁ tk own hin hoff hJz
    refine hide_goal fun Cz hCz => ?_
    obtain ⟨⟨vs, bs, ps, ns, n1, n2, rfl, hb, hbl, hbs, hi, ho⟩, hm1, hm2⟩ := hJz
    refine hCz ?_
    clear hCz
    clear Cz
    rintro F' N'
    clear F₁ N₁
    have hvs : vs.length ≤ 3 := by rw [hb.length]; omega
    replace F' := rd1 (x := Str.ofString "rows") F' (fun _ => rfl) hm1
    replace F' := (rd1 (x := Str.ofString "pool") F'.1 F'.2 hm2).1
    refine gen_post fun Qx hQx => ?_
    k_steps
    subst hQx
    k_steps
    with_reducible rename Fr _ _ _ _ => F'
    with_reducible rename News _ _ _ _ => N'
    rename PoolOk _ => ok'
    rename IntsAre _ _ => in'
    rename List.length (α := UInt8) _ ≤ 5 => hb5
    refine ⟨_, _, _, _, [_, _], rfl, F', N', fun p hp => List.mem_cons_of_mem _ (List.mem_append_left own hp), fun p hp => List.mem_cons_of_mem _ (List.mem_append_right [_, _] hp), ?_, ⟨_, _, _, _, _, _, rfl, hb.snoc, ?_, ?_, in', ok'⟩, rfl, rfl⟩
    · rfl
    · rw [List.length_append, hbl]; rfl
    · intro b hb'
      rcases List.mem_append.1 hb' with hb' | hb'
      · exact hbs b hb'
      · rw [List.mem_singleton.1 hb']; exact hb5
  · rintro m₁ nx h₁ tk hJz
    refine hide_goal fun Cz hCz => ?_
    obtain ⟨⟨vs, bs, ps, ns, n1, n2, rfl, hb, hbl, hbs, hi, ho⟩, hm1, hm2⟩ := hJz
    refine hCz ?_
    clear hCz
    clear Cz
    rintro F' N'
    clear F₁ N₁
    replace F' := rd1 (x := Str.ofString "rows") F' (fun _ => rfl) hm1
    replace F' := (rd1 (x := Str.ofString "pool") F'.1 F'.2 hm2).1
    k_steps
    rename PoolOk _ => ok'
    rename IntsAre _ _ => in'
    with_reducible rename Fr _ _ _ _ => F'
    with_reducible rename News _ _ _ _ => N'
    rename List.length (α := UInt8) _ ≤ 5 => hb5
    have hsum : (bs.map List.length).sum ≤ 5 * bs.length := sum_le5 hbs
    have hbl' : bs.length ≤ 3 := by omega
    have hmul : ∀ (x y : Nat), x ≤ 5 → y ≤ 3 → x * (y - 1) ≤ 10 := by
      intro x y hx hy
      exact Nat.le_trans (Nat.mul_le_mul hx (show y - 1 ≤ 2 by omega)) (Nat.le_refl _)
    have hm5 := hmul _ _ hb5 hbl'
    refine join_L (News.isList N' (by k_dflt k_mem)) hb ?_ fun t' k => ?_
    · omega
    · refine hQ _ _ _ _ _ _ _ (Nat.le_trans (joinL_length _ _) (by omega)) (fun b o hb q => F'.keep b o ?_) (N' _ (List.mem_cons_of_mem _ (List.mem_cons_of_mem _ (List.mem_cons_self ..)))).1 in' ok'
      rw [← hB]
      exact hideAll_get _ q fun hm => hb (List.mem_singleton.mp hm)
end
/- MO -/
theorem off_MO : True := by w_top off; trivial
section
variable {g₀ : Heap} {w : World} {mean : ExcName → Option Value} {mg mb : Str → Option Value} {A : Around} {s : Shared} {Q : Value → Shared → Prop} {E : Value → Shared → Prop}
theorem hide_fr2 {h₀ h : Heap} {L : Addr} {l : List Addr} {m : Str → Option Value} (F : Fr h₀ L h m) : Fr (hideAll h₀ l) L h m := ⟨F.ns, fun b o q => F.keep b o (of_hideAll _ q), by rw [hideAll_size]; exact F.above⟩
theorem field_init_spec {x dx : Addr} {n r : List UInt8} {t1 t2 : Tok} {R : Result → Shared → Prop} (X : Wd w mean mg mb g₀) (kg : Grow g₀ s.heap) (kx : g₀.get? x = none) (kd : g₀.get? dx = none) (hlt : dx < x) (rr : Room A 1)
    (hx : s.heap.get? x = some (instObj 93 dx)) (hdx : s.heap.get? dx = some (dictOf [] 0))
    (hQ : ∀ h' tk es nn tn tr, (∀ b o, b ≠ x → b ≠ dx → s.heap.get? b = some o → h'.get? b = some o) → h'.get? x = some (instObj 93 dx) → h'.get? dx = some (dictOf es nn) →
      getL (Str.ofString "name") es = some (some (.bytes n.toArray tn)) → RawIs es r tr → R (.ok (.ret .none)) { s with heap := h', toks := tk }) :
    codeAny (model prg w) A (.call (.ref 76) ⟨[.ref x, .bytes n.toArray t1, .bytes r.toArray t2], []⟩) R s := by
  have X' := X.grow kg
  obtain ⟨hd, dp, fr, gd, un⟩ := A
  cases rr.handled
  (k_dflt (refine' enter (args := ⟨_, _⟩) ?X ?r ?k1 ?k2 ?k3 ?k4 ?_ ?k5 ?k6 ?k7 ?k8); (case X => assumption); (case r => assumption); (case k1 => k_dflt k_is); (case k2 => k_dflt k_is); (case k3 => exact BindsTo.of_eq rfl); (case k4 => exact locs rfl); (case k5 => decide); (case k6 => exact rfl); (case k7 => exact rfl); (case k8 => exact rfl))
  intro L h₁ tk r' F N
  have kB : Grow g₀ (hideAll s.heap [x, dx]) := fun b o q => hideAll_get _ (kg _ _ q) fun hm => by
    rcases List.mem_cons.mp hm with e | hm
    · rw [e, kx] at q; cases q
    · rw [List.mem_singleton.mp hm, kd] at q; cases q
  obtain ⟨hK, hT⟩ := X.grow kB
  have N' : News (hideAll s.heap [x, dx]) L h₁ [(x, instObj 93 dx), (dx, dictOf [] 0)] := by
    intro p hp
    rcases List.mem_cons.mp hp with e | hp
    · rw [e]
      exact ⟨F.keep _ _ hx, Nat.ne_of_lt (Nat.lt_of_lt_of_le (Heap.lt_size hx) F.above), hideAll_none _ (by simp)⟩
    · rw [List.mem_singleton.mp hp]
      exact ⟨F.keep _ _ hdx, Nat.ne_of_lt (Nat.lt_of_lt_of_le (Heap.lt_size hdx) F.above), hideAll_none _ (by simp)⟩
  replace F := hide_fr2 (l := [x, dx]) F
  generalize hB : hideAll s.heap [x, dx] = B at F N' hK hT kB
  have hne : @Ne Nat x dx := Nat.ne_of_gt hlt
  have hne2 : @Ne Nat dx x := Nat.ne_of_lt hlt
  k_steps
  with_reducible rename Fr _ _ _ _ => F'
  with_reducible rename News _ _ _ _ => N'
  refine hQ _ _ _ _ _ _ (fun b o h1 h2 q => F'.keep b o ?_) (N' _ (List.mem_cons_self ..)).1 (N' _ (List.mem_cons_of_mem _ (List.mem_cons_self ..))).1 rfl ⟨rfl, rfl⟩
  rw [← hB]
  refine hideAll_get _ q fun hm => ?_
  rcases List.mem_cons.mp hm with e | hm
  · exact h1 e
  · exact h2 (List.mem_singleton.mp hm)
/-- a new Field -/
theorem new_field {n r : List UInt8} {t1 t2 : Tok} {L : Addr} {m : PySem.Str → Option Value} {B : Heap} {news : List (Addr × Obj)} (X : Wd w mean mg mb B) (F : Fr B L s.heap m) (N : News B L s.heap news) (rr : Room A 2)
    (hQ : ∀ h' tk x dx es nn tn tr, Fr B L h' m → News B L h' ((x, instObj 93 dx) :: (dx, dictOf es nn) :: news) → (∀ p ∈ news, @Ne Nat p.1 dx) → (∀ p ∈ news, @Ne Nat p.1 x) →
      getL (Str.ofString "name") es = some (some (.bytes n.toArray tn)) → RawIs es r tr → Q (.ref x) { s with heap := h', toks := tk }) :
    wpAny (model prg w) A (call (.ref 93) [.bytes n.toArray t1, .bytes r.toArray t2] []) Q E s := by
  refine call_cls F X.K N (by k_dflt k_is) (by k_dflt k_is) (by k_dflt k_is) fun x dx h' F' N' lo hlt => ?_
  obtain ⟨x1, x2, x3⟩ := N' _ (List.mem_cons_self ..)
  obtain ⟨d1, d2, d3⟩ := N' _ (List.mem_cons_of_mem _ (List.mem_cons_self ..))
  refine field_init_spec (s := { s with heap := h' }) X F'.keep x3 d3 hlt rr.creation x1 d1 fun h₂ tk es nn tn tr k ex ed en er => ⟨rfl, ?_⟩
  have lo' : ∀ p ∈ news, @Ne Nat p.1 dx := fun p hp => Nat.ne_of_lt (lo p hp)
  have lo'' : ∀ p ∈ news, @Ne Nat p.1 x := fun p hp => Nat.ne_of_lt (Nat.lt_trans (lo p hp) hlt)
  refine hQ h₂ tk x dx es nn tn tr ⟨F'.ns.at' fun o q => k _ _ (Ne.symm x2) (Ne.symm d2) q, fun b o q => k _ _ (fun z => by rw [z, x3] at q; cases q) (fun z => by rw [z, d3] at q; cases q) (F'.keep b o q), F'.above⟩ ?_ lo' lo'' en er
  intro p hp
  rcases List.mem_cons.mp hp with e | hp
  · rw [e]; exact ⟨ex, x2, x3⟩
  · rcases List.mem_cons.mp hp with e | hp
    · rw [e]; exact ⟨ed, d2, d3⟩
    · have z := N' p (List.mem_cons_of_mem _ (List.mem_cons_of_mem _ hp))
      exact ⟨k _ _ (lo'' p hp) (lo' p hp) z.1, z.2⟩
end
/- MQ -/
theorem off_MQ : True := by w_top off; trivial
section
variable {w : World} {mean : ExcName → Option Value} {mg mb : Str → Option Value} {A : Around} {E : Value → Shared → Prop} {h : Heap} {g : Array GenState} {dr : Drawn} {tk : Nat} {os : OsState} {B : Heap} {L P : Addr} {m : Str → Option Value} {news : List (Addr × Obj)} {ps : List Value} {ns : List Int} {nn : Nat} {Q : Value → Shared → Prop}
theorem raw_K (X : Wd w mean mg mb B) (R : Room A 2) (F : Fr B L h m) (N : News B L h news) (hm : (P, listOf ps.toArray nn) ∈ news) (hi : IntsAre ps ns) (ho : PoolOk ns)
    (hQ : ∀ h' tk (r : List UInt8) t ps' ns' nn', r.length ≤ 100 → IntsAre ps' ns' → PoolOk ns' → Fr B L h' m → (∀ news', Upd P (listOf ps.toArray nn) (listOf ps'.toArray nn') news news' → News B L h' news') → Q (.bytes r.toArray t) ⟨h', g, dr, tk, os⟩) :
    wpAny (model prg w) A (call (.ref 165) [.ref P] []) Q E ⟨h, g, dr, tk, os⟩ := by
  obtain ⟨n1, n2, n3⟩ := N _ hm
  refine law_raw_spec X F.keep n3 R n1 hi ho fun h' tk r t ps' ns' nn' rl k' e' i' o' => hQ h' tk r t ps' ns' nn' rl i' o' (fr_but_e F n3 (Ne.symm n2) k') fun news' U => ?_
  refine hide_goal fun Cz hCz => ?_
  obtain ⟨pre, post, rfl, rfl, a, b⟩ := U.split
  refine hCz ?_
  clear hCz
  clear Cz
  intro p hp
  rcases List.mem_append.1 hp with hp | hp
  · have z := N p (List.mem_append_left _ hp)
    exact ⟨k' _ _ (a p hp) z.1, z.2⟩
  · rcases List.mem_cons.1 hp with rfl | hp
    · exact ⟨e', n2, n3⟩
    · have z := N p (List.mem_append_right _ (List.mem_cons_of_mem _ hp))
      exact ⟨k' _ _ (b p hp) z.1, z.2⟩
end
local macro_rules | `(tactic| walk_at "call ref") => `(tactic| (k_here; (with_reducible show wpAny _ _ (call (Value.ref 165) _ _) _ _ _); refine stop_here ?_))
local macro_rules | `(tactic| walk_at "call ref") => `(tactic| (k_here; (with_reducible show wpAny _ _ (call (Value.ref 93) _ _) _ _ _); (with_reducible rename Fr _ _ _ _ => F'); (with_reducible rename News _ _ _ _ => N'); (with_reducible rename Wd _ _ _ _ _ => X'); (with_reducible rename Room _ _ => r'); (refine new_field X' F' N' (r'.mono (by decide)) ?_); intro h' tk' x' dx' es' nn' tn' tr' F'' N'' zd' zx' en' er'; (try simp only [List.forall_mem_append, List.forall_mem_cons, List.forall_mem_nil, and_true, true_and] at zd' zx')))
/-- the names of the law's menu -/
noncomputable def menu : List (List UInt8) := [[84, 111], [88, 45, 121], [67, 99], [84, 111], [97, 32, 98]]
section
variable {g₀ : Heap} {w : World} {mean : ExcName → Option Value} {mg mb : Str → Option Value} {A : Around} {s : Shared} {Q : Value → Shared → Prop} {E : Value → Shared → Prop}
theorem law_field_spec {P : Addr} {ps : List Value} {ns : List Int} {nn : Nat} (X : Wd w mean mg mb g₀) (kg : Grow g₀ s.heap) (kp : g₀.get? P = none) (R : Room A 3)
    (hp : s.heap.get? P = some (listOf ps.toArray nn)) (hi : IntsAre ps ns) (ho : PoolOk ns)
    (hQ : ∀ h' tk x dx es n2 tn tr nm (r : List UInt8) ps' ns' nn', nm ∈ menu → r.length ≤ 100 → (∀ b o, b ≠ P → s.heap.get? b = some o → h'.get? b = some o) → h'.get? P = some (listOf ps'.toArray nn') → IntsAre ps' ns' → PoolOk ns' →
      h'.get? x = some (instObj 93 dx) → h'.get? dx = some (dictOf es n2) → s.heap.get? x = none → s.heap.get? dx = none → getL (Str.ofString "name") es = some (some (.bytes (List.toArray nm) tn)) → RawIs es r tr →
      Q (.ref x) { s with heap := h', toks := tk }) :
    wpAny (model prg w) A (call (.ref 172) [.ref P] []) Q E s := by
  have X' := X.grow kg
  obtain ⟨hd, dp, fr, gd, un⟩ := A
  cases R.handled
  walk_at "m_enter"
  intro L h₁ tk r' F N
  have kB : Grow g₀ (hideAll s.heap [P]) := fun b o q => hideAll_get _ (kg _ _ q) fun hm => by
    rw [List.mem_singleton.mp hm, kp] at q
    cases q
  have Y := X.grow kB
  obtain ⟨hK, hT⟩ := id Y
  have N' : News (hideAll s.heap [P]) L h₁ [(P, listOf ps.toArray nn)] := by
    intro p hp'
    rw [List.mem_singleton.mp hp']
    refine ⟨F.keep _ _ hp, ?_, hideAll_none _ (List.mem_singleton.mpr rfl)⟩
    exact Nat.ne_of_lt (Nat.lt_of_lt_of_le (Heap.lt_size hp) F.above)
  replace F := hide_fr (e := P) F
  generalize hB : hideAll s.heap [P] = B at F N' hK hT kB Y
  k_steps
  refine go_on ?_
  with_reducible rename Fr _ _ _ _ => F'
  with_reducible rename News _ _ _ _ => N'
  with_reducible rename Wd _ _ _ _ _ => X'
  with_reducible rename Room _ _ => r'
  refine' raw_K X' (r'.mono (by decide)) F' N' ?m ?i ?o ?_
  case m => k_dflt k_mem
  case i => assumption
  case o => assumption
  intro h₇ tk₇ rw₇ t₇ ps₇ ns₇ nn₇ ln₇ in₇ ok₇ F₇ nu₇
  have N₇ := nu₇ _ (by k_dflt k_upd)
  k_steps
  rename_i zd' zx'
  with_reducible rename Fr _ _ _ _ => F'
  with_reducible rename News _ _ _ _ => N'
  rename PoolOk _ => ok'
  rename IntsAre _ _ => in'
  rename List.length (α := UInt8) _ ≤ 100 => hb5
  rename (_ : List UInt8) ∈ _ => hmem
  obtain ⟨x1, x2, x3⟩ := N' _ (List.mem_cons_self ..)
  obtain ⟨d1, d2, d3⟩ := N' _ (List.mem_cons_of_mem _ (List.mem_cons_self ..))
  have fresh : ∀ b, b ≠ P → B.get? b = none → s.heap.get? b = none := by
    intro b hb q
    cases z : s.heap.get? b with
    | none => rfl
    | some o =>
      rw [← hB, hideAll_get _ z fun hm => hb (List.mem_singleton.mp hm)] at q
      cases q
  refine hQ _ _ _ _ _ _ _ _ _ _ _ _ _ hmem hb5 (fun b o hb q => F'.keep b o ?_) (N' _ (List.mem_cons_of_mem _ (List.mem_cons_of_mem _ (List.mem_cons_of_mem _ (List.mem_cons_self ..))))).1 in' ok' x1 d1 (fresh _ (fun e => zx'.2.1 e.symm) x3) (fresh _ (fun e => zd'.2.1 e.symm) d3) (by assumption) (by assumption)
  rw [← hB]
  exact hideAll_get _ q fun hm => hb (List.mem_singleton.mp hm)
end
/- MR -/
theorem off_MR : True := by w_top off; trivial
/-- the rows of one field, one behind the other -/
inductive Fold (l : List UInt8) : Nat → Nat → Nat → Nat → Prop
  | done {a b : Nat} (h : b < l.length → ∀ c, l[b]? = some c → isWhite c = false) : Fold l a b a b
  | more {a b a' b' : Nat} {c : UInt8} (h : b < l.length) (hc : l[b]? = some c) (hw : isWhite c = true) (r : Fold l (lineAt l b l.length).1 (lineAt l b l.length).2 a' b') : Fold l a b a' b'
noncomputable def part (l : List UInt8) (i j : Nat) : List UInt8 := (l.drop i).take (j - i)
abbrev Span := (List UInt8 × List UInt8) × Nat × Nat
inductive Spans (l : List UInt8) : Nat → List Span → Nat → Prop
  | stop {i : Nat} (h : ¬ i < l.length) : Spans l i [] l.length
  | blank {i : Nat} (h : i < l.length) (e : (lineAt l i l.length).1 = i) : Spans l i [] (lineAt l i l.length).2
  | bad {i : Nat} (h : i < l.length) (e : (lineAt l i l.length).1 ≠ i) (hc : colonIn l i (lineAt l i l.length).1 = none) : Spans l i [] i
  | more {i c a b p : Nat} {rs : List Span} (h : i < l.length) (e : (lineAt l i l.length).1 ≠ i) (hc : colonIn l i (lineAt l i l.length).1 = some c) (f : Fold l (lineAt l i l.length).1 (lineAt l i l.length).2 a b) (r : Spans l b rs p) :
      Spans l i (((part l i c, part l (c + 1) a), i, b) :: rs) p
theorem cut_part {l : List UInt8} {x y : Int} {a b : Nat} (hx : x = a) (hy : y = b) (hb : b ≤ l.length) (ha : a ≤ b) : cut l (some x) (some y) = part l a b := cut_nat hx hy hb ha
/-- a Field in a ledger -/
noncomputable def FieldIn (ents : List (Addr × Obj)) (x : Addr) (n r : List UInt8) : Prop :=
  ∃ dx es nn tn tr, (x, instObj 93 dx) ∈ ents ∧ (dx, dictOf es nn) ∈ ents ∧ getL (Str.ofString "name") es = some (some (.bytes n.toArray tn)) ∧ RawIs es r tr
theorem FieldIn.at {h₀ h : Heap} {L x : Addr} {ents : List (Addr × Obj)} {n r : List UInt8} (f : FieldIn ents x n r) (N : News h₀ L h ents) : FieldAt h x n r := by
  obtain ⟨dx, es, nn, tn, tr, h1, h2, h3, h4⟩ := f
  exact ⟨dx, es, nn, tn, tr, (N _ h1).1, (N _ h2).1, h3, h4⟩
theorem FieldIn.mono {x : Addr} {ents ents' : List (Addr × Obj)} {n r : List UInt8} (f : FieldIn ents x n r) (k : ∀ p ∈ ents, p ∈ ents') : FieldIn ents' x n r := by
  obtain ⟨dx, es, nn, tn, tr, h1, h2, h3, h4⟩ := f
  exact ⟨dx, es, nn, tn, tr, k _ h1, k _ h2, h3, h4⟩
/-- the rows that read_spans gives, in a ledger -/
inductive SpanIn (ents : List (Addr × Obj)) : List Value → List Span → Prop
  | nil : SpanIn ents [] []
  | cons {t x : Addr} {ti tb : Tok} {n r : List UInt8} {i b : Nat} {vs : List Value} {rs : List Span} (h1 : (t, tupO [.ref x, .int (i : Nat) ti, .int (b : Nat) tb]) ∈ ents) (h2 : FieldIn ents x n r) (rest : SpanIn ents vs rs) : SpanIn ents (.ref t :: vs) (((n, r), i, b) :: rs)
theorem SpanIn.mono {ents ents' : List (Addr × Obj)} (k : ∀ p ∈ ents, p ∈ ents') {vs : List Value} {rs : List Span} (h : SpanIn ents vs rs) : SpanIn ents' vs rs := by
  induction h with
  | nil => exact .nil
  | cons h1 h2 _ ih => exact .cons (k _ h1) (h2.mono k) ih
theorem SpanIn.snoc {ents : List (Addr × Obj)} {vs : List Value} {rs : List Span} (h : SpanIn ents vs rs) {t x : Addr} {ti tb : Tok} {n r : List UInt8} {i b : Nat} (h1 : (t, tupO [.ref x, .int (i : Nat) ti, .int (b : Nat) tb]) ∈ ents) (h2 : FieldIn ents x n r) :
    SpanIn ents (vs ++ [.ref t]) (rs ++ [((n, r), i, b)]) := by
  induction h with
  | nil => exact .cons h1 h2 .nil
  | cons g1 g2 _ ih => exact .cons g1 g2 ih
theorem SpanIn.length {ents : List (Addr × Obj)} {vs : List Value} {rs : List Span} (h : SpanIn ents vs rs) : vs.length = rs.length := by
  induction h with
  | nil => rfl
  | cons _ _ _ ih => rw [List.length_cons, List.length_cons, ih]
structure NewAll (h h' : Heap) (ents : List (Addr × Obj)) : Prop where
  keep : Grow h h'
  get : ∀ p ∈ ents, h'.get? p.1 = some p.2 ∧ h.get? p.1 = none
theorem NewAll.of {h₀ h' : Heap} {L : Addr} {m : Str → Option Value} {news ents : List (Addr × Obj)} (F : Fr h₀ L h' m) (N : News h₀ L h' news) (k : ∀ p ∈ ents, p ∈ news) : NewAll h₀ h' ents :=
  ⟨F.keep, fun p hp => ⟨(N p (k p hp)).1, (N p (k p hp)).2.2⟩⟩
theorem NewAll.news {h₀ h h' : Heap} {L : Addr} {m : Str → Option Value} {news ents : List (Addr × Obj)} (x : NewAll h h' ents) (F : Fr h₀ L h m) (N : News h₀ L h news) : News h₀ L h' (ents ++ news) := fun p hp => by
  rcases List.mem_append.1 hp with hp | hp
  · exact (NewAt.news ⟨x.keep, (x.get p hp).1, (x.get p hp).2⟩ F N) p (List.mem_cons_self ..)
  · exact (N.grown x.keep) p hp
theorem NewAll.off {h₀ h h' : Heap} {L : Addr} {news ents : List (Addr × Obj)} (x : NewAll h h' ents) (N : News h₀ L h news) : ∀ p ∈ ents, ∀ q ∈ news, @Ne Nat p.1 q.1 := fun p hp q hq e => by
  have h1 := (x.get p hp).2
  have h2 := (N q hq).1
  have e' : p.1 = q.1 := e
  rw [e', h2] at h1
  cases h1
/- MU -/
theorem off_MU : True := by w_top off; trivial
section
local macro_rules | `(tactic| walk_at "exec While Compare") => `(tactic| (k_here; (with_reducible show wpAny _ _ (exec (Stmt.While _ _ _ _) _) _ _ _); refine stop_here ?_))
local macro_rules | `(tactic| walk_at "exec While BoolOp") => `(tactic| (k_here; (with_reducible show wpAny _ _ (exec (Stmt.While _ _ _ _) _) _ _ _); refine stop_here ?_))
theorem rot4 {α : Type} {a b c d p : α} {l : List α} (h : p ∈ d :: a :: b :: c :: l) : p ∈ a :: b :: c :: d :: l := by
  simp only [List.mem_cons] at h ⊢
  rcases h with h | h | h | h | h <;> simp [h]
theorem off_cons {x P : Addr} {o : Obj} {ents : List (Addr × Obj)} (h : @Ne Nat x P) (k : OwnOff ents [P]) : OwnOff ((x, o) :: ents) [P] := fun p hp b hb => by
  rcases List.mem_cons.1 hp with rfl | hp
  · rw [List.mem_singleton.1 hb]; exact h
  · exact k p hp b hb
theorem binds_at {s : Shared} {K : Frag} {f : Addr} {oc oc' : Value} {od od' : Option Addr} {fd fd' : FuncData} {sl sl' : Array (Option Value)} {args : Args} {b : List (PySem.Str × Value)}
    (ho : K.lookup f = some ⟨oc, od, .func fd, sl⟩) (k1 : K.lookup f = some ⟨oc', od', .func fd', sl'⟩) (k3 : BindsTo s fd' args b) : BindsTo s fd args b := by
  rw [k1] at ho
  cases ho
  exact k3
noncomputable def rsInv (l : List UInt8) (i₀ : Nat) (P : Addr) (h₀ : Heap) (L : Addr) (n : Nat) (h : Heap) : Prop := ∃ (i : Nat) (ti : Tok) (vs : List Value) (rs : List Span) (nn : Nat) (ents : List (Addr × Obj)) (m : Str → Option Value) (td ts : Tok), n = l.length - i ∧ i ≤ l.length ∧ vs.length ≤ i ∧ SpanIn ents vs rs ∧ OwnOff ents [P] ∧ (∀ rs' p, Spans l i rs' p → Spans l i₀ (rs ++ rs') p) ∧
    m (Str.ofString "data") = some (.bytes l.toArray td) ∧ m (Str.ofString "stop") = some (.int (l.length : Nat) ts) ∧ m (Str.ofString "rows") = some (.ref P) ∧ m (Str.ofString "here") = some (.int (i : Nat) ti) ∧
    Fr h₀ L h m ∧ News h₀ L h ((P, listOf vs.toArray nn) :: ents)
noncomputable def rsInv2 (l : List UInt8) (P : Addr) (vs : List Value) (nn : Nat) (ents : List (Addr × Obj)) (i c : Nat) (h₀ : Heap) (L : Addr) (n : Nat) (h : Heap) : Prop := ∃ (a b : Nat) (ta tb tc th td ts : Tok) (m : Str → Option Value), n = l.length - b ∧ (lineAt l i l.length).1 ≤ a ∧ a ≤ b ∧ b ≤ l.length ∧ i < b ∧ (∀ a' b', Fold l a b a' b' → Fold l (lineAt l i l.length).1 (lineAt l i l.length).2 a' b') ∧
          m (Str.ofString "data") = some (.bytes l.toArray td) ∧ m (Str.ofString "stop") = some (.int (l.length : Nat) ts) ∧ m (Str.ofString "rows") = some (.ref P) ∧ m (Str.ofString "here") = some (.int (i : Nat) th) ∧
          m (Str.ofString "colon") = some (.int (c : Nat) tc) ∧ m (Str.ofString "last") = some (.int (a : Nat) ta) ∧ m (Str.ofString "later") = some (.int (b : Nat) tb) ∧
          Fr h₀ L h m ∧ News h₀ L h ((P, listOf vs.toArray nn) :: ents)
section
variable {w : World} {mean : ExcName → Option Value} {mg mb : Str → Option Value} {A : Around} {s : Shared} {Q : Value → Shared → Prop} {E : Value → Shared → Prop}
theorem read_spans_G {l : List UInt8} {t1 t2 t3 : Tok} {i₀ : Nat} {args : List Value}
    (hb : ∀ oc od fd osl, (hd.heap_39 w.params).lookup 126 = some ⟨oc, od, .func fd, osl⟩ → BindsTo s fd ⟨args, []⟩ [(Str.ofString "data", .bytes l.toArray t1), (Str.ofString "at", .int (i₀ : Nat) t2), (Str.ofString "end", .int (-1) t3)])
    (X : Wd w mean mg mb s.heap) (R : Room A 4) (hi : i₀ ≤ l.length) (hl : l.length ≤ 100000)
    (hQ : ∀ a h' tk vs rs ents P nn place tp, Spans l i₀ rs place → SpanIn ents vs rs → vs.length ≤ l.length → place ≤ l.length → (a, tupO [.ref P, .int (place : Nat) tp]) ∈ ents → (P, listOf vs.toArray nn) ∈ ents → NewAll s.heap h' ents → Q (.ref a) { s with heap := h', toks := tk }) :
    wpAny (model prg w) A (call (.ref 126) args []) Q E s := by
  obtain ⟨hK, hT⟩ := id X
  obtain ⟨hd, dp, fr, gd, un⟩ := A
  cases R.handled
  (k_dflt (refine' enter_pure (args := ⟨_, _⟩) ?X ?r ?k1 ?k2 ?k3 ?k4 ?_ ?k5 ?k6 ?k7 ?k8); (case X => assumption); (case r => assumption); (case k1 => k_dflt k_is); (case k2 => k_dflt k_is); (case k3 => exact hb _ _ _ _ (by k_dflt k_is)); (case k4 => exact locs rfl); (case k5 => decide); (case k6 => exact rfl); (case k7 => exact rfl); (case k8 => exact rfl))
  intro L h₁ tk r' F N
  k_steps
  skip
  rename_i P _ _ _ _ F' N'
  refine go_on (While_O (rsInv l i₀ P s.heap L) (n₀ := l.length - i₀) ?_ ?_)
  · exact ⟨i₀, _, [], [], _, [], _, _, _, rfl, hi, Nat.zero_le _, .nil, (fun _ h => nomatch h), fun rs p h => h, rfl, rfl, rfl, rfl, F', N'⟩
  · rintro n h₁ tk₁ hJz
    refine hide_goal fun Cz hCz => ?_
    obtain ⟨i, ti, vs, rs, nn, ents, m, td, ts, rfl, hil, hvs, hsp, hoff, hrows, m1, m2, m3, m4, F₁, N₁⟩ := hJz
    refine hCz ?_
    clear hCz
    clear Cz
    clear F' N'
    have hb := lineAt_bounds (l := l) hil
    replace F₁ := rd1 F₁ (fun _ => rfl) m1
    replace F₁ := rd1 F₁.1 F₁.2 m2
    replace F₁ := rd1 F₁.1 F₁.2 m3
    replace F₁ := (rd1 F₁.1 F₁.2 m4).1
    intro Qb hQb Qf hQf
    k_steps
    all_goals with_reducible rename Fr _ _ _ _ => F'
    all_goals with_reducible rename News _ _ _ _ => N'
    · rename (_ : Int) = _ => he
      subst hQb
      k_steps
      refine hQ _ _ _ _ _ _ _ _ _ _ (hrows _ _ (.blank (by omega) (by omega))) (by rw [List.append_nil]; exact hsp.mono (fun p hp => List.mem_cons_of_mem _ (List.mem_cons_of_mem _ (List.mem_cons_of_mem _ hp)))) (by omega) (by omega) (List.mem_cons_self ..) (List.mem_cons_of_mem _ (List.mem_cons_of_mem _ (List.mem_cons_self ..))) (NewAll.of F' N' fun _ h => h)
    · rename (_ : Int) ≠ _ => he
      have he' : (lineAt l i l.length).1 ≠ i := by omega
      have hN2 := fun p hp => N' p (List.mem_cons_of_mem _ hp)
      with_reducible rename Wd _ _ _ _ _ => X
      with_reducible rename Room _ _ => r'
      refine colon_in_spec (X.grow F'.keep) (r'.mono (by decide)) hb.1 (by omega) (by omega) (fun c h' tk t hc h1 h2 k => ?_) (fun h' tk t hc k => ?_)
      · replace F' := F'.keptAll k
        replace N' := News.grown hN2 k
        clear hN2
        k_steps
        with_reducible rename Fr _ _ _ _ => F'
        with_reducible rename News _ _ _ _ => N'
        refine go_on (While_O (rsInv2 l P vs nn ents i c s.heap L) (n₀ := l.length - (lineAt l i l.length).2) ?_ ?_)
        · exact ⟨_, _, _, _, _, _, _, _, _, rfl, Nat.le_refl _, hb.2.1, hb.2.2.1, hb.2.2.2.1 (by omega), fun _ _ h => h, rfl, rfl, rfl, rfl, rfl, rfl, rfl, F', N'⟩
        · clear F' N'
          rintro n h₂ tk₂ hJz
          refine hide_goal fun Cz hCz => ?_
          obtain ⟨a, b, ta, tb, tc, th, td, ts, m, rfl, hab, habb, hbl, hib, hfold, q1, q2, q3, q4, q5, q6, q7, F₁, N₁⟩ := hJz
          refine hCz ?_
          clear hCz
          clear Cz
          have hb2 := lineAt_bounds (l := l) hbl
          replace F₁ := rd1 F₁ (fun _ => rfl) q1
          replace F₁ := rd1 F₁.1 F₁.2 q2
          replace F₁ := rd1 F₁.1 F₁.2 q3
          replace F₁ := rd1 F₁.1 F₁.2 q4
          replace F₁ := rd1 F₁.1 F₁.2 q5
          replace F₁ := rd1 F₁.1 F₁.2 q6
          replace F₁ := (rd1 F₁.1 F₁.2 q7).1
          intro Qc hQc Qg hQg
          k_steps
          all_goals with_reducible rename Fr _ _ _ _ => F'
          all_goals with_reducible rename News _ _ _ _ => N'
          · rename isWhite _ = true => hw
            rename l[_]? = some _ => hcb
            subst hQc
            k_steps
            refine ⟨_, _, _, rfl, ?_, (lineAt l b l.length).1, (lineAt l b l.length).2, _, _, _, _, _, _, _, rfl, by omega, hb2.2.1, hb2.2.2.1, by omega, fun a' b' h => hfold _ _ (.more (by omega) (by simpa using hcb) hw h), rfl, rfl, rfl, rfl, rfl, rfl, rfl, F', fun p hp => N' p (List.mem_cons_of_mem _ hp)⟩
            have := hb2.2.2.2.1 (by omega)
            omega
          · rename isWhite _ = false => hw
            rename l[_]? = some _ => hcb
            have hno : b < l.length → ∀ c, l[b]? = some c → isWhite c = false := fun _ d hd => by
              have e : l[((b : Nat) : Int).toNat]? = l[b]? := by simp
              rw [e, hd] at hcb
              cases hcb
              exact hw
            have ec1 : cut l (some (i : Int)) (some (c : Int)) = part l i c := cut_part rfl rfl (by omega) h1
            have ec2 : cut l (some ((c : Int) + 1)) (some (a : Int)) = part l (c + 1) a := cut_part (b := a) (a := c + 1) rfl rfl (by omega) (by omega)
            subst hQg
            k_steps
            subst hQb
            k_steps
            with_reducible rename Fr _ _ _ _ => F'
            with_reducible rename News _ _ _ _ => N'
            rename getL (Str.ofString "name") _ = _ => en
            rename RawIs _ _ _ => er
            rename_i zd' zx' D' h4 z'' h5 h6
            rw [ec1] at en
            rw [ec2] at er
            refine ⟨_, _, _, rfl, ?_, b, _, _, _, _, _, _, _, _, rfl, hbl, ?_, (hsp.mono fun p hp => List.mem_cons_of_mem _ (List.mem_cons_of_mem _ (List.mem_cons_of_mem _ hp))).snoc (List.mem_cons_self ..) ⟨_, _, _, _, _, List.mem_cons_of_mem _ (List.mem_cons_self ..), List.mem_cons_of_mem _ (List.mem_cons_of_mem _ (List.mem_cons_self ..)), en, er⟩, ?_, ?_, rfl, rfl, rfl, rfl, F', fun p hp => N' p (rot4 hp)⟩
            · omega
            · rw [List.length_append]; simp only [List.length_cons, List.length_nil]; omega
            · exact off_cons (Ne.symm z''.2.2.1) (off_cons (Ne.symm zx'.1) (off_cons (Ne.symm zd'.1) hoff))
            · intro rs' p h
              rw [List.append_assoc]
              exact hrows _ _ (.more (by omega) he' hc (hfold _ _ (.done hno)) h)
          · have hno : b < l.length → ∀ c, l[b]? = some c → isWhite c = false := fun _ => by omega
            have ec1 : cut l (some (i : Int)) (some (c : Int)) = part l i c := cut_part rfl rfl (by omega) h1
            have ec2 : cut l (some ((c : Int) + 1)) (some (a : Int)) = part l (c + 1) a := cut_part (b := a) (a := c + 1) rfl rfl (by omega) (by omega)
            subst hQg
            k_steps
            subst hQb
            k_steps
            with_reducible rename Fr _ _ _ _ => F'
            with_reducible rename News _ _ _ _ => N'
            rename getL (Str.ofString "name") _ = _ => en
            rename RawIs _ _ _ => er
            rename_i zd' zx' D' h4 z'' h5 h6
            rw [ec1] at en
            rw [ec2] at er
            refine ⟨_, _, _, rfl, ?_, b, _, _, _, _, _, _, _, _, rfl, hbl, ?_, (hsp.mono fun p hp => List.mem_cons_of_mem _ (List.mem_cons_of_mem _ (List.mem_cons_of_mem _ hp))).snoc (List.mem_cons_self ..) ⟨_, _, _, _, _, List.mem_cons_of_mem _ (List.mem_cons_self ..), List.mem_cons_of_mem _ (List.mem_cons_of_mem _ (List.mem_cons_self ..)), en, er⟩, ?_, ?_, rfl, rfl, rfl, rfl, F', fun p hp => N' p (rot4 hp)⟩
            · omega
            · rw [List.length_append]; simp only [List.length_cons, List.length_nil]; omega
            · exact off_cons (Ne.symm z''.2.2.1) (off_cons (Ne.symm zx'.1) (off_cons (Ne.symm zd'.1) hoff))
            · intro rs' p h
              rw [List.append_assoc]
              exact hrows _ _ (.more (by omega) he' hc (hfold _ _ (.done hno)) h)
      · replace F' := F'.keptAll k
        replace N' := News.grown hN2 k
        clear hN2
        k_steps
        subst hQb
        k_steps
        with_reducible rename Fr _ _ _ _ => F'
        with_reducible rename News _ _ _ _ => N'
        refine hQ _ _ _ _ _ _ _ _ _ _ (hrows _ _ (.bad (by omega) he' hc)) (by rw [List.append_nil]; exact hsp.mono (fun p hp => List.mem_cons_of_mem _ (List.mem_cons_of_mem _ hp))) (by omega) (by omega) (List.mem_cons_self ..) (List.mem_cons_of_mem _ (List.mem_cons_self ..)) (NewAll.of F' N' fun _ h => h)
    · subst hQf
      k_steps
      with_reducible rename Fr _ _ _ _ => F'
      with_reducible rename News _ _ _ _ => N'
      refine hQ _ _ _ _ _ _ _ _ _ _ (hrows _ _ (.stop (by omega))) (by rw [List.append_nil]; exact hsp.mono (fun p hp => List.mem_cons_of_mem _ (List.mem_cons_of_mem _ hp))) (by omega) (by omega) (List.mem_cons_self ..) (List.mem_cons_of_mem _ (List.mem_cons_self ..)) (NewAll.of F' N' fun _ h => h)
theorem read_spans_3 {l : List UInt8} {t1 t2 t3 : Tok} {i₀ : Nat}
    (X : Wd w mean mg mb s.heap) (R : Room A 4) (hi : i₀ ≤ l.length) (hl : l.length ≤ 100000)
    (hQ : ∀ a h' tk vs rs ents P nn place tp, Spans l i₀ rs place → SpanIn ents vs rs → vs.length ≤ l.length → place ≤ l.length → (a, tupO [.ref P, .int (place : Nat) tp]) ∈ ents → (P, listOf vs.toArray nn) ∈ ents → NewAll s.heap h' ents → Q (.ref a) { s with heap := h', toks := tk }) :
    wpAny (model prg w) A (call (.ref 126) [.bytes l.toArray t1, .int (i₀ : Nat) t2, .int (-1) t3] []) Q E s := by
  k_dflt (refine' read_spans_G (t2 := t2) (t3 := t3) ?hb X R hi hl hQ)
  case hb =>
    intro oc od fd osl ho
    k_dflt (refine' binds_at ho ?k1 ?k3)
    case k1 => k_dflt k_is
    case k3 => refine' binds_dflt X.K ?dd ?dg ?d1 ?d2; (case dd => exact rfl); (case dg => k_dflt k_is); (case d1 => exact rfl); (case d2 => exact rfl)
theorem read_spans_1 {l : List UInt8} {t1 t2 t3 : Tok} 
    (X : Wd w mean mg mb s.heap) (R : Room A 4) (hi : 0 ≤ l.length) (hl : l.length ≤ 100000)
    (hQ : ∀ a h' tk vs rs ents P nn place tp, Spans l 0 rs place → SpanIn ents vs rs → vs.length ≤ l.length → place ≤ l.length → (a, tupO [.ref P, .int (place : Nat) tp]) ∈ ents → (P, listOf vs.toArray nn) ∈ ents → NewAll s.heap h' ents → Q (.ref a) { s with heap := h', toks := tk }) :
    wpAny (model prg w) A (call (.ref 126) [.bytes l.toArray t1] []) Q E s := by
  k_dflt (refine' read_spans_G (t2 := ?a) (t3 := ?b) ?hb X R hi hl hQ)
  case hb =>
    intro oc od fd osl ho
    k_dflt (refine' binds_at ho ?k1 ?k3)
    case k1 => k_dflt k_is
    case k3 => refine' binds_dflt X.K ?dd ?dg ?d1 ?d2; (case dd => exact rfl); (case dg => k_dflt k_is); (case d1 => exact rfl); (case d2 => exact rfl)
end
end
/- MV -/
theorem off_MV : True := by w_top off; trivial
inductive FsIn (ents : List (Addr × Obj)) : List Value → List (List UInt8 × List UInt8) → Prop
  | nil : FsIn ents [] []
  | cons {x : Addr} {n r : List UInt8} {vs : List Value} {fs : List (List UInt8 × List UInt8)} (f : FieldIn ents x n r) (t : FsIn ents vs fs) : FsIn ents (.ref x :: vs) ((n, r) :: fs)
namespace FsIn
theorem mono {ents ents' : List (Addr × Obj)} (k : ∀ p ∈ ents, p ∈ ents') {vs : List Value} {fs : List (List UInt8 × List UInt8)} (h : FsIn ents vs fs) : FsIn ents' vs fs := by
  induction h with
  | nil => exact .nil
  | cons f _ ih => exact .cons (f.mono k) ih
theorem snoc {ents : List (Addr × Obj)} {vs : List Value} {fs : List (List UInt8 × List UInt8)} {x : Addr} {n r : List UInt8} (h : FsIn ents vs fs) (f : FieldIn ents x n r) : FsIn ents (vs ++ [.ref x]) (fs ++ [(n, r)]) := by
  induction h with
  | nil => exact .cons f .nil
  | cons g _ ih => exact .cons g ih
theorem append {ents : List (Addr × Obj)} {vs vs' : List Value} {fs fs' : List (List UInt8 × List UInt8)} (h : FsIn ents vs fs) (h' : FsIn ents vs' fs') : FsIn ents (vs ++ vs') (fs ++ fs') := by
  induction h with
  | nil => exact h'
  | cons g _ ih => exact .cons g ih
theorem length {ents : List (Addr × Obj)} {vs : List Value} {fs : List (List UInt8 × List UInt8)} (h : FsIn ents vs fs) : vs.length = fs.length := by
  induction h with
  | nil => rfl
  | cons _ _ ih => rw [List.length_cons, List.length_cons, ih]
theorem at_ {h₀ h : Heap} {L : Addr} {ents : List (Addr × Obj)} {vs : List Value} {fs : List (List UInt8 × List UInt8)} (f : FsIn ents vs fs) (N : News h₀ L h ents) : FsAt h vs fs := by
  induction f with
  | nil => exact .nil
  | cons g _ ih => exact .cons (g.at N) ih
theorem getV {ents : List (Addr × Obj)} {vs : List Value} {fs : List (List UInt8 × List UInt8)} (h : FsIn ents vs fs) : ∀ {i : Nat} {v : Value}, vs[i]? = some v → ∃ (x : Addr) (n r : List UInt8), v = .ref x ∧ fs[i]? = some (n, r) ∧ FieldIn ents x n r := by
  induction h with
  | nil => intro i v hv; simp at hv
  | cons f t ih =>
    intro i v hv
    cases i with
    | zero =>
      simp only [List.getElem?_cons_zero, Option.some.injEq] at hv
      exact ⟨_, _, _, hv.symm, rfl, f⟩
    | succ i =>
      simp only [List.getElem?_cons_succ] at hv ⊢
      exact ih hv
end FsIn
theorem SpanIn.getV {ents : List (Addr × Obj)} {vs : List Value} {rs : List Span} (h : SpanIn ents vs rs) : ∀ {i : Nat} {v : Value}, vs[i]? = some v → ∃ (t x : Addr) (ti tb : Tok) (n r : List UInt8) (a b : Nat), v = .ref t ∧ rs[i]? = some ((n, r), a, b) ∧ (t, tupO [.ref x, .int (a : Nat) ti, .int (b : Nat) tb]) ∈ ents ∧ FieldIn ents x n r := by
  induction h with
  | nil => intro i v hv; simp at hv
  | cons f g t ih =>
    intro i v hv
    cases i with
    | zero =>
      simp only [List.getElem?_cons_zero, Option.some.injEq] at hv
      exact ⟨_, _, _, _, _, _, _, _, hv.symm, rfl, f, g⟩
    | succ i =>
      simp only [List.getElem?_cons_succ] at hv ⊢
      exact ih hv
theorem NewAll.sub2 {h h' : Heap} {ents : List (Addr × Obj)} {p q : Addr × Obj} (x : NewAll h h' ents) (m1 : p ∈ ents) (m2 : q ∈ ents) : NewAll h h' (p :: q :: ents) :=
  ⟨x.keep, fun r hr => by
    rcases List.mem_cons.1 hr with rfl | hr
    · exact x.get _ m1
    · rcases List.mem_cons.1 hr with rfl | hr
      · exact x.get _ m2
      · exact x.get _ hr⟩
local macro_rules | `(tactic| walk_at "call ref") => `(tactic| (k_here; (with_reducible show wpAny _ _ (call (Value.ref 126) _ _) _ _ _); refine stop_here ?_))
section
variable {w : World} {mean : ExcName → Option Value} {mg mb : Str → Option Value} {A : Around} {s : Shared} {Q : Value → Shared → Prop} {E : Value → Shared → Prop}
theorem read_fields_spec {l : List UInt8} {t1 t2 : Tok} {i₀ : Nat}
    (X : Wd w mean mg mb s.heap) (R : Room A 5) (hi : i₀ ≤ l.length) (hl : l.length ≤ 100000)
    (hQ : ∀ a h' tk ys rs ents D nn place tp, Spans l i₀ rs place → FsIn ents ys (rs.map Prod.fst) → place ≤ l.length → (a, tupO [.ref D, .int (place : Nat) tp]) ∈ ents → (D, listOf ys.toArray nn) ∈ ents → NewAll s.heap h' ents → Q (.ref a) { s with heap := h', toks := tk }) :
    wpAny (model prg w) A (call (.ref 132) [.bytes l.toArray t1, .int (i₀ : Nat) t2] []) Q E s := by
  obtain ⟨hK, hT⟩ := id X
  obtain ⟨hd, dp, fr, gd, un⟩ := A
  cases R.handled
  (k_dflt (refine' enter_pure (args := ⟨_, _⟩) ?X ?r ?k1 ?k2 ?k3 ?k4 ?_ ?k5 ?k6 ?k7 ?k8); (case X => assumption); (case r => assumption); (case k1 => k_dflt k_is); (case k2 => k_dflt k_is); (case k3 => (with_reducible rename Wd _ _ _ _ _ => X'); refine' binds_dflt X'.K ?dd ?dg ?d1 ?d2; (case dd => exact rfl); (case dg => k_dflt k_is); (case d1 => exact rfl); (case d2 => exact rfl)); (case k4 => exact locs rfl); (case k5 => decide); (case k6 => exact rfl); (case k7 => exact rfl); (case k8 => exact rfl))
  intro L h₁ tk r' F N
  k_steps
  refine go_on ?_
  with_reducible rename Fr _ _ _ _ => F'
  with_reducible rename News _ _ _ _ => N'
  with_reducible rename Wd _ _ _ _ _ => X'
  with_reducible rename Room _ _ => r'
  refine read_spans_3 (X'.grow F'.keep) (r'.mono (by decide)) (by walk_at "m_arith") (by walk_at "m_arith") ?_
  intro a' h3 tk3 vs' rs' ents' P' nn' pl' tp' sp' si' vl' pz' m1' m2' x'
  have F'' := F'.keptAll x'.keep
  have N'' := (x'.sub2 m1' m2').news F' N'
  dsimp only [tupO] at N''
  clear F' N'
  k_steps
  (refine go_on ?_; k_dflt (refine LCg.ListComp_U (F₀ := by k_asm) (by with_unfolding_all rfl) (by decide) (by rfl) (by decide) (by rfl) ?_); k_steps)
  with_reducible rename Fr _ _ _ _ => F'
  with_reducible rename News _ _ _ _ => N'
  rw [List.append_nil] at N'
  refine go_on (LCg.CompSrc.ledger rfl F' N' (List.mem_cons_of_mem _ (List.mem_cons_self ..)) (by rw [List.size_toArray, sizeLine_eq]; omega) ?_)
  intro g
  refine comp_ind (Inv := fun i ys news => news = (a', _) :: (P', _) :: ents' ∧ FsIn ents' ys ((rs'.take i).map Prod.fst)) _ ?_ ?_ _ 0 [] _ (Nat.zero_add _) ⟨rfl, .nil⟩
  · rintro i ys news v I oI C oC D m₂ h tk E' hi ⟨rfl, hys⟩ hv hC hx F' N' off ne
    rw [List.getElem?_toArray] at hv
    refine hide_goal fun Cz hCz => ?_
    obtain ⟨t, x, ti, tb, n, r, a, b, rfl, hrs, hmem, hfx⟩ := si'.getV hv
    refine hCz ?_
    clear hCz
    clear Cz
    have N'' : News s.heap L h ((t, tupO [.ref x, .int (a : Nat) ti, .int (b : Nat) tb]) :: _) := fun p hp => by
      rcases List.mem_cons.1 hp with rfl | hp
      · exact N' _ (List.mem_cons_of_mem _ (List.mem_cons_of_mem _ (List.mem_cons_of_mem _ (List.mem_cons_of_mem _ (List.mem_cons_of_mem _ hmem)))))
      · exact N' _ hp
    dsimp only [tupO] at N''
    k_steps
    refine LCg.CompEnd.intro F' N' ((a', _) :: (P', _) :: ents') (fun p hp => hp) off (.inr ⟨_, List.mem_cons_of_mem _ (List.mem_cons_self ..), rfl, _, rfl⟩) ⟨rfl, ?_⟩
    rw [List.take_add_one, hrs]
    simp only [Option.toList, List.map_append, List.map_cons, List.map_nil]
    exact hys.snoc hfx
  · rintro ys news ⟨rfl, hys⟩
    rw [List.size_toArray, si'.length, List.take_length] at hys
    unfold LCg.FinE
    intro D h' tk F' N' off
    k_steps
    with_reducible rename Fr _ _ _ _ => F''
    with_reducible rename News _ _ _ _ => N''
    exact hQ _ _ _ _ _ _ _ _ _ _ sp' (hys.mono fun p hp => List.mem_cons_of_mem _ (List.mem_cons_of_mem _ (List.mem_cons_of_mem _ (List.mem_cons_of_mem _ hp)))) pz' (List.mem_cons_self ..) (List.mem_cons_of_mem _ (List.mem_cons_self ..)) (NewAll.of F'' N'' fun _ h => h)
end
/- MX -/
theorem off_MX : True := by w_top off; trivial
local macro_rules | `(tactic| walk_at "call ref") => `(tactic| (k_here; (with_reducible show wpAny _ _ (call (Value.ref 132) _ _) _ _ _); refine stop_here ?_))
theorem room_caller {env : Env} : Room (callerA.deeper env) 12 := ⟨rfl, by show 1 + claimMargin + 1 + 12 < recursionLimit; decide, by show 4 + 3 + 8 * 12 < cLine; decide⟩
theorem units_caller {env : Env} : (callerA.deeper env).units + 1 < cLine := by show 4 + 3 + 1 < cLine; decide
theorem with_room {α : Type} {M : Model} {env : Env} {x : Sem α} {Q : α → Shared → Prop} {E : Value → Shared → Prop} {s : Shared} (h : Room (callerA.deeper env) 12 → wpAny M (callerA.deeper env) x Q E s) : wpAny M (callerA.deeper env) x Q E s := h room_caller
theorem ints_snoc {ys : List Value} {ns : List Int} {z : Int} {t : Tok} (h : IntsAre ys ns) : IntsAre (ys ++ [.int z t]) (ns ++ [z]) := by
  induction h with
  | nil => exact .cons _ _ .nil
  | cons n t _ ih => exact .cons _ _ ih
theorem pool_news {h₀ h : Heap} {L : Addr} {a b d : Addr × Obj} (N : News h₀ L h ([a, b] ++ [d])) : News h₀ L h [a, d] := fun p hp => N p (by
  simp only [List.mem_cons, List.not_mem_nil, or_false] at hp
  rcases hp with rfl | rfl <;> simp)
/-- what a field of the law's can be -/
noncomputable def FieldOk (f : List UInt8 × List UInt8) : Prop := f.1 ∈ menu ∧ f.2.length ≤ 100
theorem off_own {P : Addr} {ents : List (Addr × Obj)} (h : OwnOff ents [P]) : ∀ p ∈ ents, @Ne Nat p.1 P := fun p hp => h p hp P (List.mem_cons_self ..)
section
variable {w : World} {mean : ExcName → Option Value} {mg mb : Str → Option Value} {A : Around} {E : Value → Shared → Prop} {h : Heap} {g : Array GenState} {dr : Drawn} {tk : Nat} {os : OsState} {B : Heap} {L P : Addr} {m : Str → Option Value} {news : List (Addr × Obj)} {ps : List Value} {ns : List Int} {nn : Nat} {Q : Value → Shared → Prop}
theorem field_K (X : Wd w mean mg mb B) (R : Room A 3) (F : Fr B L h m) (N : News B L h news) (hm : (P, listOf ps.toArray nn) ∈ news) (hi : IntsAre ps ns) (ho : PoolOk ns)
    (hQ : ∀ h' tk x dx es n2 tn tr nm (r : List UInt8) ps' ns' nn', FieldOk (nm, r) → IntsAre ps' ns' → PoolOk ns' → Fr B L h' m → (∀ news', Upd P (listOf ps.toArray nn) (listOf ps'.toArray nn') news news' → News B L h' ((x, instObj 93 dx) :: (dx, dictOf es n2) :: news')) →
      (∀ p ∈ news, @Ne Nat p.1 x) → (∀ p ∈ news, @Ne Nat p.1 dx) → getL (Str.ofString "name") es = some (some (.bytes (List.toArray nm) tn)) → RawIs es r tr → Q (.ref x) ⟨h', g, dr, tk, os⟩) :
    wpAny (model prg w) A (call (.ref 172) [.ref P] []) Q E ⟨h, g, dr, tk, os⟩ := by
  obtain ⟨n1, n2, n3⟩ := N _ hm
  refine law_field_spec X F.keep n3 R n1 hi ho fun h' tk x dx es n2' tn tr nm r ps' ns' nn' hmn rl k' e' i' o' ex ed fx fd en er => ?_
  have none_of : ∀ a, h.get? a = none → B.get? a = none := fun a q => by
    cases z : B.get? a with
    | none => rfl
    | some o => rw [F.keep _ _ z] at q; cases q
  have ne_of : ∀ a, h.get? a = none → a ≠ L := fun a q z => by
    subst z
    obtain ⟨o, ho, _⟩ := F.ns
    simp_all
  have off : ∀ a, h.get? a = none → ∀ p ∈ news, @Ne Nat p.1 a := fun a q p hp z => by
    have h1 := (N p hp).1
    have z' : p.1 = a := z
    rw [z', q] at h1
    cases h1
  refine hQ h' tk x dx es n2' tn tr nm r ps' ns' nn' ⟨hmn, rl⟩ i' o' (fr_but_e F n3 (Ne.symm n2) k') (fun news' U => ?_) (off x fx) (off dx fd) en er
  refine hide_goal fun Cz hCz => ?_
  obtain ⟨pre, post, rfl, rfl, a, b⟩ := U.split
  refine hCz ?_
  clear hCz
  clear Cz
  intro p hp
  rcases List.mem_cons.1 hp with rfl | hp
  · exact ⟨ex, ne_of _ fx, none_of _ fx⟩
  rcases List.mem_cons.1 hp with rfl | hp
  · exact ⟨ed, ne_of _ fd, none_of _ fd⟩
  rcases List.mem_append.1 hp with hp | hp
  · have z := N p (List.mem_append_left _ hp)
    exact ⟨k' _ _ (a p hp) z.1, z.2⟩
  · rcases List.mem_cons.1 hp with rfl | hp
    · exact ⟨e', n2, n3⟩
    · have z := N p (List.mem_append_right _ (List.mem_cons_of_mem _ hp))
      exact ⟨k' _ _ (b p hp) z.1, z.2⟩
end
theorem perm_K {α : Type} {i c D P cl x d p : α} {e : List α} (h : p ∈ i :: c :: D :: P :: cl :: x :: d :: e) : p ∈ x :: d :: i :: c :: D :: P :: cl :: e := by
  simp only [List.mem_cons] at h ⊢
  rcases h with h | h | h | h | h | h | h | h <;> simp [h]
theorem law_field_end {B h' : Heap} {L D I C D' x dx cl : Addr} {oI oC cell : Obj} {m : Str → Option Value} {s : Shared} {tk' : Nat} {ys : List Value} {ps ps' : List Value} {ns' : List Int} {nn nn' n2 i : Nat} {ents ents₀ : List (Addr × Obj)} {fs : List (List UInt8 × List UInt8)} {es : List DictEntry} {tn tr : Tok} {nm r : List UInt8}
    (F : Fr B L h' m) (N : News B L h' ((x, instObj 93 dx) :: (dx, dictOf es n2) :: (I, oI) :: (C, oC) :: (D', LCg.lst ys) :: (D, listOf ps'.toArray nn') :: (cl, cell) :: ents))
    (off : LCg.Off3 I C D' ((D, listOf ps.toArray nn) :: (cl, cell) :: ents))
    (zx : ∀ p ∈ (I, oI) :: (C, oC) :: (D', LCg.lst ys) :: (D, listOf ps.toArray nn) :: (cl, cell) :: ents, @Ne Nat p.1 x) (zd : ∀ p ∈ (I, oI) :: (C, oC) :: (D', LCg.lst ys) :: (D, listOf ps.toArray nn) :: (cl, cell) :: ents, @Ne Nat p.1 dx)
    (hi : IntsAre ps' ns') (ho : PoolOk ns') (hf : FieldOk (nm, r)) (en : getL (Str.ofString "name") es = some (some (.bytes (List.toArray nm) tn))) (er : RawIs es r tr)
    (hoff : OwnOff ents [D]) (hfs : FsIn ents ys fs) (hfl : fs.length = i) (hok : ∀ f ∈ fs, FieldOk f) (hsub : ∀ p ∈ ents₀, p ∈ ents) :
    LCg.CompEnd B L m s I oI C oC D' (LCg.lst ys) (fun _ => True) (fun y news' => ∃ ps ns nn ents fs, news' = (D, listOf ps.toArray nn) :: (cl, cell) :: ents ∧ IntsAre ps ns ∧ PoolOk ns ∧ OwnOff ents [D] ∧ FsIn ents (ys ++ [y]) fs ∧ fs.length = i + 1 ∧ (∀ f ∈ fs, FieldOk f) ∧ ∀ p ∈ ents₀, p ∈ ents)
      (.ref x) { s with heap := h', toks := tk' } := by
  obtain ⟨oP, oC', oE⟩ := off
  have xI := zx _ (List.mem_cons_self ..)
  have xC := zx _ (List.mem_cons_of_mem _ (List.mem_cons_self ..))
  have xD := zx _ (List.mem_cons_of_mem _ (List.mem_cons_of_mem _ (List.mem_cons_self ..)))
  have xP := zx _ (List.mem_cons_of_mem _ (List.mem_cons_of_mem _ (List.mem_cons_of_mem _ (List.mem_cons_self ..))))
  have dI := zd _ (List.mem_cons_self ..)
  have dC := zd _ (List.mem_cons_of_mem _ (List.mem_cons_self ..))
  have dD := zd _ (List.mem_cons_of_mem _ (List.mem_cons_of_mem _ (List.mem_cons_self ..)))
  have dP := zd _ (List.mem_cons_of_mem _ (List.mem_cons_of_mem _ (List.mem_cons_of_mem _ (List.mem_cons_self ..))))
  refine LCg.CompEnd.intro F N ((D, listOf ps'.toArray nn') :: (cl, cell) :: (x, instObj 93 dx) :: (dx, dictOf es n2) :: ents) (fun p hp => perm_K hp) ⟨oP, oC', ⟨xI.symm, xC.symm, xD.symm⟩, ⟨dI.symm, dC.symm, dD.symm⟩, oE⟩ trivial
    ⟨ps', ns', nn', _, fs ++ [(nm, r)], rfl, hi, ho, off_cons xP.symm (off_cons dP.symm hoff), (hfs.mono fun p hp => List.mem_cons_of_mem _ (List.mem_cons_of_mem _ hp)).snoc ⟨_, _, _, _, _, List.mem_cons_self .., List.mem_cons_of_mem _ (List.mem_cons_self ..), en, er⟩, ?_, ?_, fun p hp => List.mem_cons_of_mem _ (List.mem_cons_of_mem _ (hsub p hp))⟩
  · rw [List.length_append, hfl]; rfl
  · intro f hf'
    rcases List.mem_append.1 hf' with hf' | hf'
    · exact hok f hf'
    · rw [List.mem_singleton.1 hf']; exact hf
theorem news_S {B h : Heap} {L : Addr} {S D cl : Addr × Obj} {e : List (Addr × Obj)} (N : News B L h (S :: D :: cl :: e)) : News B L h (D :: cl :: S :: e) := fun p hp => N p (by
  simp only [List.mem_cons] at hp ⊢
  rcases hp with h | h | h | h <;> simp [h])
section
variable {prog : Program} {w : World} {A : Around} {E : Value → Shared → Prop} {h : Heap} {g : Array GenState} {dr : Drawn} {tk : Nat} {os : OsState} {h₀ : Heap} {L l : Addr} {news : List (Addr × Obj)} {vs : List Value} {n : Nat} {od : Option Addr} {sl : Array (Option Value)} {Q : Value → Shared → Prop}
theorem item_TupB {value slice : PySem.Expr} {bs : List (List UInt8)} {i : Int} {u : Tok} (N : News h₀ L h news) (hm : (l, { cls := .type "tuple", dict := od, data := .seq vs.toArray n, slots := sl }) ∈ news) (hb : Bl vs bs) (h0 : 0 ≤ i) (h1 : i < bs.length) (hz : bs.length ≤ 100)
    (hq : ∀ b t, b ∈ bs → Q (.bytes b.toArray t) ⟨h, g, dr, tk, os⟩)
    (hs : subscripted slice false (.ref l) (.int i u) = operate [.ref l, .int i u] (getItem (.ref l) (.int i u)) := by with_unfolding_all rfl) :
    wpAny (model prog w) A (subscriptTail value slice (.ref l) (.int i u)) Q E ⟨h, g, dr, tk, os⟩ := by
  have hL := News.isTup N hm
  have hlen := hb.length
  obtain ⟨v, hv⟩ : ∃ v, vs[i.toNat]? = some v := ⟨vs[i.toNat]'(by omega), List.getElem?_eq_getElem _⟩
  refine hide_goal fun Cz hCz => ?_
  obtain ⟨b, t, hbb, rfl⟩ := hb.getV hv
  refine hCz ?_
  clear hCz
  clear Cz
  have hj : seqIndex? i vs.toArray.size = some i.toNat := by
    have hn : ¬ i < 0 := by omega
    have h2 : i < vs.length := by omega
    simp [seqIndex?, hn, h0, h2]
  exact tail_any hL.typeIs slot_tuple_getitem.lookup (getItem_tuple hL (by omega) (by omega) hj (by simpa using hv) (hq b t (List.mem_of_getElem? hbb))) hs
end
/-- the bodies of the law -/
noncomputable def bodies : List (List UInt8) := [[], [120], [13, 10, 121, 58, 32, 122, 13, 10], [32, 119]]
/- MY -/
theorem off_MY : True := by w_top off; trivial
section
open SeqAt
theorem eqAt_bytes {A : Around} {s : Shared} {a b : List UInt8} {t u : Tok} : EqAt A s (.bytes a.toArray t) (.bytes b.toArray u) (decide (a = b)) := fun prog w E Q hq => eq_bool_L hq
theorem all_eq {α : Type} [DecidableEq α] {xs ys : List α} (h : xs.length = ys.length) : ((List.range xs.length).all fun j => decide (xs[j]? = ys[j]?)) = decide (xs = ys) := by
  rw [Bool.eq_iff_iff, List.all_eq_true, decide_eq_true_iff]
  constructor
  · intro k
    refine List.ext_getElem? fun j => ?_
    rcases Nat.lt_or_ge j xs.length with hj | hj
    · exact of_decide_eq_true (k j (List.mem_range.2 hj))
    · rw [List.getElem?_eq_none hj, List.getElem?_eq_none (by omega)]
  · rintro rfl j _
    exact decide_eq_true rfl
section
variable {α : Type} [DecidableEq α] {prog : Program} {w : World} {A : Around} {E : Value → Shared → Prop} {s : Shared} {a b : Addr} {xs ys : List α} {vs ws : List Value} {Q : Value → Shared → Prop}
theorem ne_lists (ha : s.heap.IsList a vs.toArray) (hb : s.heap.IsList b ws.toArray) (h1 : vs.length = xs.length) (h2 : ws.length = ys.length) (hu : A.units < cLine)
    (he : ∀ (j : Nat) x y v w', xs[j]? = some x → ys[j]? = some y → vs[j]? = some v → ws[j]? = some w' → EqAt A.in1 s v w' (decide (x = y))) (h : Q (.bool (!decide (xs = ys))) s) :
    wpAny (model prog w) A (compareOp .NotEq (.ref a) (.ref b)) Q E s := by
  by_cases hl : xs.length = ys.length
  · refine RcNeAt.lists (e := fun j => decide (xs[j]? = ys[j]?)) ha hb (by simp; omega) hu (fun j j1 j2 => ?_) prog w E Q ?_
    · rw [List.size_toArray] at j1 j2
      have e1 : vs[j]? = some vs.toArray[j] := by simp [j1]
      have e2 : ws[j]? = some ws.toArray[j] := by simp [j2]
      have q := he j (xs[j]'(by omega)) (ys[j]'(by omega)) _ _ (List.getElem?_eq_getElem _) (List.getElem?_eq_getElem _) e1 e2
      rw [List.getElem?_eq_getElem (by omega : j < xs.length), List.getElem?_eq_getElem (by omega : j < ys.length)]
      have e3 : decide (some (xs[j]'(by omega)) = some (ys[j]'(by omega))) = decide ((xs[j]'(by omega)) = (ys[j]'(by omega))) := by
        rw [Bool.eq_iff_iff]; simp
      rw [e3]
      exact q
    · rw [List.size_toArray, h1, all_eq hl]
      exact h
  · refine RcNeAt.lists_lengths ha hb (by simp; omega) hu prog w E Q ?_
    rw [decide_eq_false (fun e => hl (congrArg List.length e))] at h
    exact h
theorem eq_lists (ha : s.heap.IsList a vs.toArray) (hb : s.heap.IsList b ws.toArray) (h1 : vs.length = xs.length) (h2 : ws.length = ys.length) (hu : A.units < cLine)
    (he : ∀ (j : Nat) x y v w', xs[j]? = some x → ys[j]? = some y → vs[j]? = some v → ws[j]? = some w' → EqAt A.in1 s v w' (decide (x = y))) (h : Q (.bool (decide (xs = ys))) s) :
    wpAny (model prog w) A (compareOp .Eq (.ref a) (.ref b)) Q E s := by
  by_cases hl : xs.length = ys.length
  · refine RcAt.lists (e := fun j => decide (xs[j]? = ys[j]?)) ha hb (by simp; omega) hu (fun j j1 j2 => ?_) prog w E Q ?_
    · rw [List.size_toArray] at j1 j2
      have e1 : vs[j]? = some vs.toArray[j] := by simp [j1]
      have e2 : ws[j]? = some ws.toArray[j] := by simp [j2]
      have q := he j (xs[j]'(by omega)) (ys[j]'(by omega)) _ _ (List.getElem?_eq_getElem _) (List.getElem?_eq_getElem _) e1 e2
      rw [List.getElem?_eq_getElem (by omega : j < xs.length), List.getElem?_eq_getElem (by omega : j < ys.length)]
      have e3 : decide (some (xs[j]'(by omega)) = some (ys[j]'(by omega))) = decide ((xs[j]'(by omega)) = (ys[j]'(by omega))) := by
        rw [Bool.eq_iff_iff]; simp
      rw [e3]
      exact q
    · rw [List.size_toArray, h1, all_eq hl]
      exact h
  · refine RcAt.lists_lengths ha hb (by simp; omega) hu prog w E Q ?_
    rw [decide_eq_false (fun e => hl (congrArg List.length e))] at h
    exact h
theorem ne_bools {bs cs : List Bool} (ha : s.heap.IsList a (bs.map Value.bool).toArray) (hb : s.heap.IsList b (cs.map Value.bool).toArray) (hu : A.units < cLine) (h : Q (.bool (!decide (bs = cs))) s) :
    wpAny (model prog w) A (compareOp .NotEq (.ref a) (.ref b)) Q E s := by
  refine ne_lists ha hb (by simp) (by simp) hu (fun j x y v w' hx hy hv hw => ?_) h
  rw [List.getElem?_map, hx] at hv
  rw [List.getElem?_map, hy] at hw
  cases hv; cases hw
  exact EqAt.bool_bool x y
theorem in_bools {cs : List Bool} {c : Bool} (hb : s.heap.IsList b (cs.map Value.bool).toArray) (h : Q (.bool (cs.any (· == c))) s) :
    wpAny (model prog w) A (compareOp .In (.bool c) (.ref b)) Q E s := by
  refine in_listAt (fun v => match v with | .bool x => x == c | _ => false) hb (fun y hy => ?_) ?_
  · obtain ⟨x, _, rfl⟩ := List.mem_map.1 (List.mem_toArray.1 hy)
    exact EqAt.bool_bool x c
  · rw [List.any_toArray, List.any_map]
    exact h
end
/-- (name, raw) tuples -/
inductive ToldIn (ents : List (Addr × Obj)) : List Value → List (List UInt8 × List UInt8) → Prop
  | nil : ToldIn ents [] []
  | cons {t : Addr} {tn tr : Tok} {n r : List UInt8} {vs : List Value} {fs : List (List UInt8 × List UInt8)} (f : (t, tupO [.bytes n.toArray tn, .bytes r.toArray tr]) ∈ ents) (k : ToldIn ents vs fs) : ToldIn ents (.ref t :: vs) ((n, r) :: fs)
namespace ToldIn
theorem mono {ents ents' : List (Addr × Obj)} (k : ∀ p ∈ ents, p ∈ ents') {vs : List Value} {fs : List (List UInt8 × List UInt8)} (h : ToldIn ents vs fs) : ToldIn ents' vs fs := by
  induction h with
  | nil => exact .nil
  | cons f _ ih => exact .cons (k _ f) ih
theorem snoc {ents : List (Addr × Obj)} {vs : List Value} {fs : List (List UInt8 × List UInt8)} {t : Addr} {tn tr : Tok} {n r : List UInt8} (h : ToldIn ents vs fs) (f : (t, tupO [.bytes n.toArray tn, .bytes r.toArray tr]) ∈ ents) : ToldIn ents (vs ++ [.ref t]) (fs ++ [(n, r)]) := by
  induction h with
  | nil => exact .cons f .nil
  | cons g _ ih => exact .cons g ih
theorem length {ents : List (Addr × Obj)} {vs : List Value} {fs : List (List UInt8 × List UInt8)} (h : ToldIn ents vs fs) : vs.length = fs.length := by
  induction h with
  | nil => rfl
  | cons _ _ ih => rw [List.length_cons, List.length_cons, ih]
theorem drop {ents : List (Addr × Obj)} {vs : List Value} {fs : List (List UInt8 × List UInt8)} (h : ToldIn ents vs fs) : ∀ n, ToldIn ents (vs.drop n) (fs.drop n) := by
  induction h with
  | nil => intro n; simp only [List.drop_nil]; exact .nil
  | cons f k ih =>
    intro n
    cases n with
    | zero => exact .cons f k
    | succ n => exact ih n
theorem getV {ents : List (Addr × Obj)} {vs : List Value} {fs : List (List UInt8 × List UInt8)} (h : ToldIn ents vs fs) : ∀ {i : Nat} {v : Value} {f : List UInt8 × List UInt8}, vs[i]? = some v → fs[i]? = some f → ∃ (t : Addr) (tn tr : Tok), v = .ref t ∧ (t, tupO [.bytes f.1.toArray tn, .bytes f.2.toArray tr]) ∈ ents := by
  induction h with
  | nil => intro i v f hv; simp at hv
  | cons f t ih =>
    intro i v f hv hf
    cases i with
    | zero =>
      simp only [List.getElem?_cons_zero, Option.some.injEq] at hv hf
      subst hf
      exact ⟨_, _, _, hv.symm, f⟩
    | succ i =>
      simp only [List.getElem?_cons_succ] at hv hf
      exact ih hv hf
end ToldIn
theorem eqAt_told {A : Around} {s : Shared} {t u : Addr} {x y : List UInt8 × List UInt8} {t1 t2 t3 t4 : Tok} (ht : s.heap.get? t = some (tupO [.bytes x.1.toArray t1, .bytes x.2.toArray t2])) (hu : s.heap.get? u = some (tupO [.bytes y.1.toArray t3, .bytes y.2.toArray t4])) (hr : A.units < cLine) :
    EqAt A s (.ref t) (.ref u) (decide (x = y)) := by
  by_cases e : t = u
  · subst e
    rw [ht] at hu
    have hxy : x = y := by
      injection hu with hu
      injection hu with _ _ hu
      injection hu with hu
      have hu' := congrArg Array.toList hu
      simp only [List.cons.injEq, Value.bytes.injEq, and_true] at hu'
      have h1 : x.1 = y.1 := by simpa using congrArg Array.toList hu'.1.1
      have h2 : x.2 = y.2 := by simpa using congrArg Array.toList hu'.2.1
      exact Prod.ext h1 h2
    rw [decide_eq_true hxy]
    exact EqAt.same _
  · have key : decide (x = y) = ((List.range (min 2 2)).all (fun j => if j = 0 then decide (x.1 = y.1) else decide (x.2 = y.2)) && (2 : Nat) == 2) := by
      rw [Bool.eq_iff_iff]
      simp [List.range_succ, Prod.ext_iff]
    rw [key]
    refine EqAt.of_refs e (RcAt.tuples (items := #[.bytes x.1.toArray t1, .bytes x.2.toArray t2]) (items2 := #[.bytes y.1.toArray t3, .bytes y.2.toArray t4]) ⟨_, ht, rfl, _, rfl⟩ ⟨_, hu, rfl, _, rfl⟩ hr fun j j1 j2 => ?_)
    have j1' : j < 2 := j1
    rcases j with _ | _ | j
    · exact eqAt_bytes
    · exact eqAt_bytes
    · omega
section
variable {prog : Program} {w : World} {A : Around} {E : Value → Shared → Prop} {s : Shared} {a b : Addr} {xs ys : List (List UInt8 × List UInt8)} {vs ws : List Value} {Q : Value → Shared → Prop} {h₀ : Heap} {L : Addr} {ents ents' : List (Addr × Obj)}
theorem told_eqAt (N : News h₀ L s.heap ents) (h1 : ToldIn ents vs xs) (h2 : ToldIn ents ws ys) (hu : A.units + 1 < cLine) : ∀ (j : Nat) x y v w', xs[j]? = some x → ys[j]? = some y → vs[j]? = some v → ws[j]? = some w' → EqAt A.in1 s v w' (decide (x = y)) := by
  intro j x y v w' hx hy hv hw
  obtain ⟨t, t1, t2, rfl, ht⟩ := h1.getV hv hx
  obtain ⟨u, t3, t4, rfl, hu'⟩ := h2.getV hw hy
  exact eqAt_told (N _ ht).1 (N _ hu').1 hu
theorem ne_told (N : News h₀ L s.heap ents) (ha : s.heap.IsList a vs.toArray) (hb : s.heap.IsList b ws.toArray) (h1 : ToldIn ents vs xs) (h2 : ToldIn ents ws ys) (hu : A.units + 1 < cLine) (h : Q (.bool (!decide (xs = ys))) s) :
    wpAny (model prog w) A (compareOp .NotEq (.ref a) (.ref b)) Q E s := ne_lists ha hb h1.length h2.length (by omega) (told_eqAt N h1 h2 hu) h
theorem eq_told (N : News h₀ L s.heap ents) (ha : s.heap.IsList a vs.toArray) (hb : s.heap.IsList b ws.toArray) (h1 : ToldIn ents vs xs) (h2 : ToldIn ents ws ys) (hu : A.units + 1 < cLine) (h : Q (.bool (decide (xs = ys))) s) :
    wpAny (model prog w) A (compareOp .Eq (.ref a) (.ref b)) Q E s := eq_lists ha hb h1.length h2.length (by omega) (told_eqAt N h1 h2 hu) h
end
end
/- MZ -/
theorem off_MZ : True := by w_top off; trivial
section
variable {prog : Program} {w : World} {A : Around} {s : Shared} {h₀ : Heap} {L : Addr} {m : PySem.Str → Option Value} {env : Env} {ct elt : PySem.Expr} {x : PySem.Str} {scope : Scope} {cl : List (PySem.Str × Addr)}
  {S : List (Addr × Obj) → Prop} {P : Nat → Value → Prop} {Fin : List Value → List (Addr × Obj) → Prop}
/-- a comprehension with a test, by a word over what is made so far -/
theorem comp_indT (Inv : Nat → List Value → List (Addr × Obj) → Prop) (n : Nat)
    (step : ∀ i ys news v I oI C oC D m₂ h tk (E' : Value → Shared → Prop), i < n → Inv i ys news → P i v → LCg.NsObj oC m₂ → m₂ x = some v → Fr h₀ L h m → News h₀ L h ((I, oI) :: (C, oC) :: (D, LCg.lst ys) :: news) → LCg.Off3 I C D news → ((@Ne Nat I C) ∧ (@Ne Nat I D) ∧ (@Ne Nat C D)) →
      wpAny (model prog w) A (isTrue ct (compEnvC scope cl C env) (eval ct (compEnvC scope cl C env))) (fun ok s' => if ok = true then
        wpAny (model prog w) A (eval elt (compEnvC scope cl C env)) (LCg.CompEnd h₀ L m { s with heap := h, toks := tk } I oI C oC D (LCg.lst ys) S (fun y news' => Inv (i + 1) (ys ++ [y]) news')) E' s'
        else LCg.CompEnd h₀ L m { s with heap := h, toks := tk } I oI C oC D (LCg.lst ys) S (fun _ news' => Inv (i + 1) ys news') Value.none s') E' { s with heap := h, toks := tk })
    (fin : ∀ ys news, Inv n ys news → Fin ys news) : ∀ k i ys news, i + k = n → Inv i ys news → LCt.CompRestT prog w A h₀ L m env ct elt x scope cl s S P Fin k i ys news := by
  intro k
  induction k with
  | zero =>
    intro i ys news e hI
    have : i = n := by omega
    subst this
    exact LCt.CompRestT.zero (fin _ _ hI)
  | succ k ih =>
    intro i ys news e hI
    refine LCt.CompRestT.succ fun v I oI C oC D m₂ h tk E' hP hC hx F N off ne => ?_
    refine wpAny_mono (step i ys news v I oI C oC D m₂ h tk E' (by omega) hI hP hC hx F N off ne) (fun ok s₂ hy => ?_) fun _ _ e => e
    cases ok with
    | true =>
      simp only [if_true] at hy ⊢
      exact wpAny_mono hy (fun y s₃ h₃ => CompEnd.mono h₃ fun y ns hr => ih (i + 1) _ _ (by omega) hr) fun _ _ e => e
    | false =>
      simp only [Bool.false_eq_true, if_false] at hy ⊢
      exact CompEnd.mono hy fun y ns hr => ih (i + 1) _ _ (by omega) hr
end
section
variable {prog : Program} {w : World} {A : Around} {E : Value → Shared → Prop} {s : Shared} {env : Env} {h₀ : Heap} {x : PySem.Str} {body : List Stmt} {Q : Flow → Shared → Prop} {m₀ : PySem.Str → Option Value}
theorem iter_tupV {l : Addr} {vs : List Value} {news : List (Addr × Obj)} (J : Nat → (PySem.Str → Option Value) → List (Addr × Obj) → Prop)
    (hh : A.handled = none) (hl : s.heap.IsTuple l vs.toArray) (hlL : l ≠ env.locals) (hln : ∀ q ∈ news, q.1 ≠ l) (F : Fr h₀ env.locals s.heap m₀) (N : News h₀ env.locals s.heap news) (hj : J 0 m₀ news)
    (turn : ∀ i v m₁ news₁ h tk own, vs[i]? = some v → OwnOff own (news.map (·.1)) → J i m₁ news₁ → Fr h₀ env.locals h (fun y => if y = x then some v else m₁ y) → News h₀ env.locals h (news₁ ++ own) →
      wpAny (model prog w) A (execs body env) (InvPostN h₀ env.locals (J (i + 1)) own (news.map (·.1)) { s with heap := h, toks := tk } Q) E { s with heap := h, toks := tk })
    (done : ∀ m₁ news₁ h tk, J vs.length m₁ news₁ → Fr h₀ env.locals h m₁ → News h₀ env.locals h news₁ → Q .next { s with heap := h, toks := tk }) :
    wpAny (model prog w) A (pyIter (.ref l)) (fun it s₂ => LoopAtV prog w A h₀ env x body Q E it s₂) E s := by
  have hlt : l < s.heap.objs.size := by
    obtain ⟨o, ho, _⟩ := hl
    exact Heap.lt_size ho
  have hne : l ≠ s.heap.objs.size := Nat.ne_of_lt hlt
  refine wpAny_pyIter_tuple hl ?_
  have W := Walks.tuple (prog := prog) (w := w) hh s.heap.objs.size l hne vs.toArray
  refine loop_invN J W ?_ ?_ ?_ ?_ ⟨⟨_, Heap.get?_push_size _ rfl, rfl, rfl⟩, hl.at fun o e => Heap.get?_push_of_some _ e⟩ (F.push _) (fun p hp => ⟨Heap.get?_push_of_some _ (N p hp).1, (N p hp).2⟩) hj ?_ ?_
  · intro hm
    rcases List.mem_cons.mp hm with e | hm
    · exact absurd F.ns.lt (e ▸ Nat.lt_irrefl _)
    · exact hlL (List.mem_singleton.mp hm).symm
  · intro b hb
    rw [List.mem_singleton.mp hb]
    exact next_is_new F
  · intro p hp hI
    exact absurd (Heap.lt_size (N p hp).1) ((List.mem_singleton.mp hI) ▸ Nat.lt_irrefl _)
  · intro p hp hI
    rcases List.mem_cons.mp hI with e | hm
    · exact absurd (Heap.lt_size (N p hp).1) (e ▸ Nat.lt_irrefl _)
    · exact hln p hp (List.mem_singleton.mp hm)
  · rintro i v m₁ news₁ h tk own hi hv _ hoff hJ F₁ N₁
    exact turn i v m₁ news₁ h tk own (by simpa using hv) hoff hJ F₁ N₁
  · intro m₁ news₁ h tk hJ F₁ N₁
    rw [List.size_toArray] at hJ
    exact done m₁ news₁ h tk hJ F₁ N₁
end
theorem menu_short {n : List UInt8} (h : n ∈ menu) : n.length ≤ 3 := by
  have : ∀ n ∈ menu, n.length ≤ 3 := by decide
  exact this n h
theorem FieldOk.small {f : List UInt8 × List UInt8} (h : FieldOk f) : Small f := ⟨Nat.le_trans (menu_short h.1) (by decide), Nat.le_trans h.2 (by decide)⟩
/-- a list of Fields in a ledger -/
structure FList (news : List (Addr × Obj)) (a : Addr) (fs : List (List UInt8 × List UInt8)) : Prop where
  list : ∃ vs n, (a, ({ cls := .type "list", data := .seq (List.toArray vs) n } : Obj)) ∈ news ∧ FsIn news vs fs
  ok : ∀ f ∈ fs, FieldOk f
  short : fs.length ≤ 100
theorem FList.mono {news news' : List (Addr × Obj)} {a : Addr} {fs : List (List UInt8 × List UInt8)} (x : FList news a fs) (k : ∀ p ∈ news, p ∈ news') : FList news' a fs := by
  obtain ⟨⟨vs, n, h1, h2⟩, h3, h4⟩ := x
  exact ⟨⟨vs, n, k _ h1, h2.mono k⟩, h3, h4⟩
section
variable {w : World} {mean : ExcName → Option Value} {mg mb : Str → Option Value} {A : Around} {E : Value → Shared → Prop} {h : Heap} {g : Array GenState} {dr : Drawn} {tk : Nat} {os : OsState} {B : Heap} {L a : Addr} {m : Str → Option Value} {news : List (Addr × Obj)} {fs : List (List UInt8 × List UInt8)} {Q : Value → Shared → Prop}
theorem write_K (X : Wd w mean mg mb B) (R : Room A 4) (F : Fr B L h m) (N : News B L h news) (x : FList news a fs) (hs : ∀ f ∈ fs, sound f.1 f.2 = true)
    (hQ : ∀ h' tk t, Fr B L h' m → News B L h' news → Q (.bytes (written fs).toArray t) ⟨h', g, dr, tk, os⟩) : wpAny (model prg w) A (call (.ref 151) [.ref a] []) Q E ⟨h, g, dr, tk, os⟩ := by
  obtain ⟨⟨vs, n, h1, h2⟩, h3, h4⟩ := x
  exact write_ok (X.grow F.keep) R (N.isList h1) (h2.at_ N) (fun f hf => (h3 f hf).small) h4 hs fun h' tk t k => hQ h' tk t (F.keptAll k) (N.grown k)
theorem written_K {env : Env} (X : Wd w mean mg mb B) (R : Room (callerA.deeper env) 8) (hf : env.frame = some L) (hk : env.scope.kind ≠ .module) (F : Fr B L h m) (N : News B L h news) (x : FList news a fs)
    (hok : ∀ h' tk t, (∀ f ∈ fs, sound f.1 f.2 = true) → Fr B L h' m → News B L h' news → Q (.bytes (written fs).toArray t) ⟨h', g, dr, tk, os⟩)
    (hno : ∀ h' tk, (∃ f ∈ fs, sound f.1 f.2 = false) → Fr B L h' m → News B L h' news → Q .none ⟨h', g, dr, tk, os⟩) : wpAny (model prg w) (callerA.deeper env) (call (.ref 186) [.ref a] []) Q E ⟨h, g, dr, tk, os⟩ := by
  obtain ⟨⟨vs, n, h1, h2⟩, h3, h4⟩ := x
  have hL : B.get? L = none := by
    cases q : B.get? L with
    | none => rfl
    | some o => exact absurd (Heap.lt_size q) (Nat.not_lt.mpr F.above)
  have kB : Grow B (hideAll h [L]) := fun b o q => hideAll_get _ (F.keep b o q) fun hm => by
    rw [List.mem_singleton.mp hm, hL] at q
    cases q
  refine law_written_spec (base := hideAll h [L]) (outer := [env]) (X.grow kB) R (N.isList h1) (h2.at_ N) (fun f hf => (h3 f hf).small) h4 rfl (fun b o q => of_hideAll _ q) (by rw [hideAll_size]; exact Nat.le_refl _)
    (Heap.FunFrames.cons hk hf F.ns (hideAll_none _ (List.mem_singleton.mpr rfl)) trivial) (fun h' tk t hall k => hok h' tk t hall (F.keptAll k) (N.grown k)) fun h' tk hbad hst hup => hno h' tk hbad ⟨hup.ns F.ns, fun b o q => hst b o (kB b o q), F.above⟩ fun p hp => ?_
  have z := N p hp
  exact ⟨hst _ _ (hideAll_get _ z.1 fun hm => z.2.1 (List.mem_singleton.mp hm)), z.2⟩
theorem add_K {b : Addr} {fs' : List (List UInt8 × List UInt8)} (F : Fr B L h m) (N : News B L h news) (x : FList news a fs) (y : FList news b fs') (hz : fs.length + fs'.length ≤ 100)
    (hQ : ∀ D h', Fr B L h' m → (∃ o, News B L h' ((D, o) :: news) ∧ FList ((D, o) :: news) D (fs ++ fs') ∧ ∀ p ∈ news, @Ne Nat p.1 D) → Q (.ref D) ⟨h', g, dr, tk, os⟩) :
    wpAny (model prg w) A (binaryOp .Add (.ref a) (.ref b)) Q E ⟨h, g, dr, tk, os⟩ := by
  obtain ⟨⟨vs, n, h1, h2⟩, h3, h4⟩ := x
  obtain ⟨⟨vs', n', h1', h2'⟩, h3', h4'⟩ := y
  refine add_lists F N (N.isList h1) (N.isList h1') (fun h' F' N' => hQ _ h' F' ⟨_, N', ⟨⟨_, _, List.mem_cons_self .., (h2.append h2').mono fun p hp => List.mem_cons_of_mem _ hp⟩, ?_, by rw [List.length_append]; exact hz⟩, fun p hp => Nat.ne_of_lt (Heap.lt_size (N p hp).1)⟩) ?_
  · intro f hf
    rcases List.mem_append.1 hf with hf | hf
    · exact h3 f hf
    · exact h3' f hf
  · rw [h2.length, h2'.length, sizeLine_eq]; omega
end
/-- a tuple of the ledger -/
theorem tup_at {h₀ h : Heap} {L a : Addr} {news : List (Addr × Obj)} {vs : List Value} (N : News h₀ L h news) (hm : (a, tupO vs) ∈ news) : h.IsTuple a vs.toArray := ⟨_, (N _ hm).1, rfl, _, rfl⟩
/-- what the law thinks a field can -/
noncomputable def canF (f : List UInt8 × List UInt8) : Bool := f.1 != [97, 32, 98] && okTail f.2
theorem menu_can {f : List UInt8 × List UInt8} (h : FieldOk f) : sound f.1 f.2 = canF f := by
  have : ∀ n ∈ menu, isName n = (n != [97, 32, 98]) := by decide
  unfold sound canF
  rw [this _ h.1]
theorem sounds_can {fs : List (List UInt8 × List UInt8)} (h : ∀ f ∈ fs, FieldOk f) : fs.map (fun f => sound f.1 f.2) = fs.map canF := List.map_congr_left fun f hf => menu_can (h f hf)
theorem pack {B h : Heap} {L S₁ S₂ : Addr} {x d c : Addr × Obj} {ents ents₂ : List (Addr × Obj)} {ys₁ ys₂ : List Value} {fs₁ fs₂ : List (List UInt8 × List UInt8)} (N : News B L h (x :: (S₂, LCg.lst ys₂) :: d :: c :: ents₂)) (hsub : ∀ p ∈ (S₁, LCg.lst ys₁) :: ents, p ∈ ents₂)
    (h1 : FsIn ents ys₁ fs₁) (k1 : ∀ f ∈ fs₁, FieldOk f) (l1 : fs₁.length ≤ 4) (h2 : FsIn ents₂ ys₂ fs₂) (k2 : ∀ f ∈ fs₂, FieldOk f) (l2 : fs₂.length ≤ 4) : ∃ E₀, News B L h E₀ ∧ FList E₀ S₁ fs₁ ∧ FList E₀ S₂ fs₂ := by
  have m2 : ∀ p ∈ ents₂, p ∈ x :: (S₂, LCg.lst ys₂) :: d :: c :: ents₂ := fun p hp => List.mem_cons_of_mem _ (List.mem_cons_of_mem _ (List.mem_cons_of_mem _ (List.mem_cons_of_mem _ hp)))
  exact ⟨_, N, ⟨⟨_, _, m2 _ (hsub _ (List.mem_cons_self ..)), (h1.mono fun p hp => hsub _ (List.mem_cons_of_mem _ hp)).mono m2⟩, k1, by omega⟩, ⟨⟨_, _, List.mem_cons_of_mem _ (List.mem_cons_self ..), h2.mono m2⟩, k2, by omega⟩⟩
/-- the lists of the law's loop -/
theorem three {E₁ : List (Addr × Obj)} {S₁ S₂ S₃ : Addr} {fs₁ fs₂ : List (List UInt8 × List UInt8)} (L₁ : FList E₁ S₁ fs₁) (L₂ : FList E₁ S₂ fs₂) (L₃ : FList E₁ S₃ (fs₁ ++ fs₂)) {i : Nat} {v : Value} (h : [Value.ref S₁, .ref S₂, .ref S₃][i]? = some v) : ∃ a fs, v = .ref a ∧ FList E₁ a fs := by
  rcases i with _ | _ | _ | i
  · cases h; exact ⟨_, _, rfl, L₁⟩
  · cases h; exact ⟨_, _, rfl, L₂⟩
  · cases h; exact ⟨_, _, rfl, L₃⟩
  · simp at h
theorem take_snoc {α β : Type} {fs : List α} {i : Nat} {f : α} (p : α → β) (h : fs[i]? = some f) : (fs.take (i + 1)).map p = (fs.take i).map p ++ [p f] := by
  rw [List.take_add_one, h]
  simp
theorem bool_end {B h' : Heap} {L I C D' : Addr} {oI oC oD : Obj} {m : PySem.Str → Option Value} {s : Shared} {tk' i : Nat} {S : List (Addr × Obj) → Prop} {G : List (Addr × Obj)} {fs : List (List UInt8 × List UInt8)} {f : List UInt8 × List UInt8} {p : List UInt8 × List UInt8 → Bool} {b : Bool}
    (F : Fr B L h' m) (N : News B L h' ((I, oI) :: (C, oC) :: (D', oD) :: G)) (off : LCg.Off3 I C D' G) (hS : S G) (hfi : fs[i]? = some f) (hb : b = p f) :
    LCg.CompEnd B L m s I oI C oC D' oD S (fun y news' => G = news' ∧ ((fs.take i).map p).map Value.bool ++ [y] = ((fs.take (i + 1)).map p).map Value.bool) (.bool b) { s with heap := h', toks := tk' } := by
  refine LCg.CompEnd.intro F N G (fun p hp => hp) off hS ⟨rfl, ?_⟩
  rw [take_snoc p hfi, List.map_append, hb]
  rfl
theorem cans_all {fs : List (List UInt8 × List UInt8)} (h : ∀ f ∈ fs, FieldOk f) (k : ∀ f ∈ fs, sound f.1 f.2 = true) : (fs.map canF).any (· == false) = false := by
  rw [List.any_map, List.any_eq_false]
  intro f hf
  show ¬ (canF f == false) = true
  rw [← menu_can (h f hf), k f hf]
  decide
theorem cans_some {fs : List (List UInt8 × List UInt8)} (h : ∀ f ∈ fs, FieldOk f) (k : ∃ f ∈ fs, sound f.1 f.2 = false) : (fs.map canF).any (· == false) = true := by
  obtain ⟨f, hf, k⟩ := k
  rw [List.any_map, List.any_eq_true]
  refine ⟨f, hf, ?_⟩
  show (canF f == false) = true
  rw [← menu_can (h f hf), k]
  decide
theorem filter_yes {B h' : Heap} {L I C D' x : Addr} {oI oC oD : Obj} {m : PySem.Str → Option Value} {s : Shared} {tk' i : Nat} {S : List (Addr × Obj) → Prop} {G : List (Addr × Obj)} {fs : List (List UInt8 × List UInt8)} {n r : List UInt8} {ys : List Value}
    (F : Fr B L h' m) (N : News B L h' ((I, oI) :: (C, oC) :: (D', oD) :: G)) (off : LCg.Off3 I C D' G) (hS : S G) (hfi : fs[i]? = some (n, r)) (hc : canF (n, r) = true) (hys : FsIn G ys ((fs.take i).filter canF)) (hfx : FieldIn G x n r) :
    LCg.CompEnd B L m s I oI C oC D' oD S (fun y news' => G = news' ∧ FsIn G (ys ++ [y]) ((fs.take (i + 1)).filter canF)) (.ref x) { s with heap := h', toks := tk' } := by
  refine LCg.CompEnd.intro F N G (fun p hp => hp) off hS ⟨rfl, ?_⟩
  rw [List.take_add_one, hfi, List.filter_append]
  show FsIn G _ (_ ++ List.filter canF [(n, r)])
  rw [List.filter_cons_of_pos hc, List.filter_nil]
  exact hys.snoc hfx
theorem filter_no {B h' : Heap} {L I C D' : Addr} {oI oC oD : Obj} {m : PySem.Str → Option Value} {s : Shared} {tk' i : Nat} {S : List (Addr × Obj) → Prop} {G : List (Addr × Obj)} {fs : List (List UInt8 × List UInt8)} {n r : List UInt8} {ys : List Value}
    (F : Fr B L h' m) (N : News B L h' ((I, oI) :: (C, oC) :: (D', oD) :: G)) (off : LCg.Off3 I C D' G) (hS : S G) (hfi : fs[i]? = some (n, r)) (hc : canF (n, r) = false) (hys : FsIn G ys ((fs.take i).filter canF)) :
    LCg.CompEnd B L m s I oI C oC D' oD S (fun _ news' => G = news' ∧ FsIn G ys ((fs.take (i + 1)).filter canF)) .none { s with heap := h', toks := tk' } := by
  refine LCg.CompEnd.intro F N G (fun p hp => hp) off hS ⟨rfl, ?_⟩
  rw [List.take_add_one, hfi, List.filter_append]
  show FsIn G _ (_ ++ List.filter canF [(n, r)])
  rw [List.filter_cons_of_neg (by rw [hc]; decide), List.filter_nil, List.append_nil]
  exact hys
/-- the fields that can stand -/
theorem cans_list {E : List (Addr × Obj)} {A : Addr} {ys : List Value} {fs : List (List UInt8 × List UInt8)} (h : FsIn E ys (fs.filter canF)) (hok : ∀ f ∈ fs, FieldOk f) (hl : fs.length ≤ 4) : FList ((A, LCg.lst ys) :: E) A (fs.filter canF) :=
  ⟨⟨_, _, List.mem_cons_self .., h.mono fun p hp => List.mem_cons_of_mem _ hp⟩, fun f hf => hok f (List.mem_filter.1 hf).1, Nat.le_trans (List.length_filter_le _ _) (by omega)⟩
theorem cans_sound {fs : List (List UInt8 × List UInt8)} (hok : ∀ f ∈ fs, FieldOk f) : ∀ f ∈ fs.filter canF, sound f.1 f.2 = true := fun f hf => by
  rw [menu_can (hok f (List.mem_filter.1 hf).1)]
  exact (List.mem_filter.1 hf).2
/-- at most four fields that can stand -/
structure Fine (g : List (List UInt8 × List UInt8)) : Prop where
  len : g.length ≤ 4
  sound : ∀ f ∈ g, sound f.1 f.2 = true
  ok : ∀ f ∈ g, FieldOk f
theorem Fine.written_le {g : List (List UInt8 × List UInt8)} (x : Fine g) : (written g).length ≤ 500 := by
  have key : ∀ g : List (List UInt8 × List UInt8), (∀ f ∈ g, FieldOk f) → (written g).length ≤ 110 * g.length := by
    intro g
    induction g with
    | nil => intro _; simp [written]
    | cons f g ih =>
      intro h
      have h1 := h f (List.mem_cons_self ..)
      have h2 := ih fun q hq => h q (List.mem_cons_of_mem _ hq)
      have h3 := menu_short h1.1
      have h4 := h1.2
      have e : written (f :: g) = rowOf f ++ written g := rfl
      rw [e, List.length_append, rowOf_length, List.length_cons]
      omega
  have := key g x.ok
  have := x.len
  omega
theorem written_append (a b : List (List UInt8 × List UInt8)) : written (a ++ b) = written a ++ written b := by
  unfold written
  rw [List.flatMap_append]
theorem pack2 {B h : Heap} {L A₁ A₂ : Addr} {x : Addr × Obj} {E₂ : List (Addr × Obj)} {ys₂ : List Value} {fs₁ fs₂ : List (List UInt8 × List UInt8)} (N : News B L h (x :: (A₂, LCg.lst ys₂) :: E₂))
    (M₁ : FList ((A₂, LCg.lst ys₂) :: E₂) A₁ (fs₁.filter canF)) (M₂ : FList ((A₂, LCg.lst ys₂) :: E₂) A₂ (fs₂.filter canF)) (h1 : ∀ f ∈ fs₁, FieldOk f) (h2 : ∀ f ∈ fs₂, FieldOk f) (l1 : fs₁.length ≤ 4) (l2 : fs₂.length ≤ 4) :
    ∃ E g₁ g₂, News B L h E ∧ FList E A₁ g₁ ∧ FList E A₂ g₂ ∧ Fine g₁ ∧ Fine g₂ :=
  ⟨_, _, _, N, M₁.mono fun p hp => List.mem_cons_of_mem _ hp, M₂.mono fun p hp => List.mem_cons_of_mem _ hp, ⟨Nat.le_trans (List.length_filter_le _ _) l1, cans_sound h1, fun f hf => h1 f (List.mem_filter.1 hf).1⟩, ⟨Nat.le_trans (List.length_filter_le _ _) l2, cans_sound h2, fun f hf => h2 f (List.mem_filter.1 hf).1⟩⟩
theorem sound_append {a b : List (List UInt8 × List UInt8)} (x : Fine a) (y : Fine b) : ∀ f ∈ a ++ b, Mine.sound f.1 f.2 = true := fun f hf => by
  rcases List.mem_append.1 hf with hf | hf
  · exact x.sound f hf
  · exact y.sound f hf
/- MW -/
theorem off_MW : True := by w_top off; trivial
theorem okTail_at {r : List UInt8} (h : okTail r = true) {p : Nat} (hp : r[p]? = some 10) : ∃ c, r[p + 1]? = some c ∧ isWhite c = true := by
  induction r generalizing p with
  | nil => simp at hp
  | cons c t ih =>
    unfold okTail at h
    rw [Bool.and_eq_true] at h
    cases p with
    | zero =>
      simp only [List.getElem?_cons_zero, Option.some.injEq] at hp
      subst hp
      have h1 : whiteHead t = true := by simpa using h.1
      cases t with
      | nil => cases h1
      | cons d u => exact ⟨d, rfl, h1⟩
    | succ p => exact ih h.2 (by simpa using hp)
theorem lineAt_later {l : List UInt8} {j k : Nat} (h : nth l 10 j l.length = some k) : (lineAt l j l.length).2 = k + 1 := by
  by_cases hc : j < k ∧ l[k - 1]? = some 13
  · rw [lineAt_cr h hc.1 hc.2]
  · rw [lineAt_no h hc]
/-- where the rows of a field end -/
theorem fold_end {l : List UInt8} {e : Nat} (h13 : l[e]? = some 13) (h10 : l[e + 1]? = some 10) (hnext : ∀ c, l[e + 2]? = some c → isWhite c = false) :
    ∀ (n j a b : Nat), e - j ≤ n → j ≤ e → (∀ p, j ≤ p → p < e → l[p]? = some 10 → p + 1 < e ∧ ∃ c, l[p + 1]? = some c ∧ isWhite c = true) → Fold l (lineAt l j l.length).1 (lineAt l j l.length).2 a b → a = e ∧ b = e + 2 := by
  intro n
  induction n with
  | zero =>
    intro j a b hn hj hw f
    have hk : nth l 10 j l.length = some (e + 1) := nth_eq (by omega) (List.getElem?_eq_some_iff.1 h10).1 h10 fun m h1 h2 h3 => by
      have : m = e := by omega
      rw [this, h13] at h3
      cases h3
    have e1 := lineAt_cr hk (by omega) (by simpa using h13)
    rw [e1] at f
    generalize ha : (e + 1 - 1, e + 1 + 1).1 = a₀ at f
    generalize hb : (e + 1 - 1, e + 1 + 1).2 = b₀ at f
    cases f with
    | done h => exact ⟨by rw [← ha]; rfl, by rw [← hb]⟩
    | more h hc hw' r =>
      rw [← hb] at hc
      rw [hnext _ hc] at hw'
      cases hw'
  | succ n ih =>
    intro j a b hn hj hw f
    cases hk : nth l 10 j l.length with
    | none => exact absurd h10 (nth_none hk (e + 1) (by omega) (List.getElem?_eq_some_iff.1 h10).1)
    | some k =>
      obtain ⟨k1, k2, k3, k4⟩ := nth_some hk
      have hke : k ≤ e + 1 := by
        rcases Nat.lt_or_ge (e + 1) k with h | h
        · exact absurd h10 (k4 (e + 1) (by omega) h)
        · exact h
      have hne : k ≠ e := fun q => by rw [q, h13] at k3; cases k3
      rcases Nat.lt_or_ge k e with hlt | hge
      · obtain ⟨w1, c, w2, w3⟩ := hw k k1 hlt k3
        have e2 := lineAt_later hk
        generalize (lineAt l j l.length).1 = a₀ at f
        generalize hb : (lineAt l j l.length).2 = b₀ at f
        rw [e2] at hb
        subst hb
        cases f with
        | done h =>
          have := h (List.getElem?_eq_some_iff.1 w2).1 c w2
          rw [this] at w3
          cases w3
        | more h hc hw' r => exact ih (k + 1) a b (Nat.le_trans (Nat.sub_le_sub_left (Nat.succ_le_succ k1) e) (Nat.sub_le_sub_right hn 1)) (Nat.succ_le_of_lt hlt) (fun p p1 p2 p3 => hw p (by omega) p2 p3) r
      · have : k = e + 1 := by omega
        subst this
        have e1 := lineAt_cr hk (by omega) (by simpa using h13)
        rw [e1] at f
        generalize ha : (e + 1 - 1, e + 1 + 1).1 = a₀ at f
        generalize hb : (e + 1 - 1, e + 1 + 1).2 = b₀ at f
        cases f with
        | done h => exact ⟨by rw [← ha]; rfl, by rw [← hb]⟩
        | more h hc hw' r =>
          rw [← hb] at hc
          rw [hnext _ hc] at hw'
          cases hw'
/-- what the spans of these fields are -/
noncomputable def marks : Nat → List (List UInt8 × List UInt8) → List Span
  | _, [] => []
  | i, f :: g => (f, i, i + (rowOf f).length) :: marks (i + (rowOf f).length) g
noncomputable def PostOk (post : List UInt8) : Prop := post = [] ∨ ∃ t, post = 13 :: 10 :: t
theorem okc_of {n : List UInt8} (h : isName n = true) {i : Nat} {c : UInt8} (hc : n[i]? = some c) : okc c = true := by
  unfold isName at h
  rw [Bool.and_eq_true, List.all_eq_true] at h
  exact h.1 c (List.mem_of_getElem? hc)
theorem okc_ne {c : UInt8} (h : okc c = true) : c ≠ 10 ∧ c ≠ 13 ∧ c ≠ 58 ∧ isWhite c = false := by
  have hh : ¬ (c.toNat < 33) ∧ ¬ (c.toNat > 126) ∧ ¬ (c.toNat = 58) := by
    unfold okc at h
    simp only [Bool.not_eq_true', Bool.or_eq_false_iff, decide_eq_false_iff_not] at h
    exact ⟨h.1.1, h.1.2, h.2⟩
  refine ⟨fun q => ?_, fun q => ?_, fun q => ?_, ?_⟩
  · subst q; exact hh.1 (by decide)
  · subst q; exact hh.1 (by decide)
  · subst q; exact hh.2.2 (by decide)
  · cases hw : isWhite c with
    | false => rfl
    | true =>
      unfold isWhite at hw
      simp only [Bool.or_eq_true, beq_iff_eq] at hw
      rcases hw with q | q
      · subst q; exact absurd (show (32 : UInt8).toNat < 33 by decide) hh.1
      · subst q; exact absurd (show (9 : UInt8).toNat < 33 by decide) hh.1
theorem name_pos {n : List UInt8} (h : isName n = true) : 0 < n.length := by
  unfold isName at h
  rw [Bool.and_eq_true, decide_eq_true_iff] at h
  exact h.2
theorem head_ok {g : List (List UInt8 × List UInt8)} {post : List UInt8} (hs : ∀ f ∈ g, sound f.1 f.2 = true) (hp : PostOk post) {c : UInt8} (hc : (written g ++ post)[0]? = some c) : isWhite c = false := by
  cases g with
  | nil =>
    rcases hp with rfl | ⟨t, rfl⟩
    · simp [written] at hc
    · simp [written] at hc
      subst hc
      exact isWhite_13
  | cons f g =>
    have h1 := hs f (List.mem_cons_self ..)
    unfold sound at h1
    rw [Bool.and_eq_true] at h1
    have h2 := name_pos h1.1
    have e : (written (f :: g) ++ post)[0]? = f.1[0]? := by
      show (rowOf f ++ written g ++ post)[0]? = _
      unfold rowOf
      rw [List.append_assoc, List.append_assoc, List.append_assoc, List.append_assoc, List.getElem?_append_left h2]
    rw [e] at hc
    exact (okc_ne (okc_of h1.1 hc)).2.2.2
section
variable {l : List UInt8} {i : Nat} {n r : List UInt8} {rest : List UInt8}
theorem at_name (hd : l.drop i = rowOf (n, r) ++ rest) {k : Nat} (hk : k < n.length) : l[i + k]? = n[k]? := by
  rw [← List.getElem?_drop, hd]
  unfold rowOf
  rw [List.append_assoc, List.append_assoc, List.append_assoc, List.getElem?_append_left hk]
theorem at_colon (hd : l.drop i = rowOf (n, r) ++ rest) : l[i + n.length]? = some 58 := by
  rw [← List.getElem?_drop, hd]
  unfold rowOf
  rw [List.append_assoc, List.append_assoc, List.append_assoc, List.getElem?_append_right (Nat.le_refl _), Nat.sub_self]
  rfl
theorem drop_raw (hd : l.drop i = rowOf (n, r) ++ rest) : l.drop (i + n.length + 1) = r ++ 13 :: 10 :: rest := by
  have e : l.drop (i + n.length + 1) = (l.drop i).drop (n.length + 1) := by rw [List.drop_drop]; congr 1
  rw [e, hd]
  unfold rowOf
  have e2 : (n, r).1 ++ [58] ++ (n, r).2 ++ [13, 10] ++ rest = (n ++ [58]) ++ (r ++ 13 :: 10 :: rest) := by simp
  rw [e2, List.drop_left' (by simp)]
theorem at_raw (hd : l.drop i = rowOf (n, r) ++ rest) {k : Nat} (hk : k < r.length) : l[i + n.length + 1 + k]? = r[k]? := by
  rw [← List.getElem?_drop, drop_raw hd, List.getElem?_append_left hk]
theorem at_end (hd : l.drop i = rowOf (n, r) ++ rest) (k : Nat) : l[i + n.length + 1 + r.length + k]? = (13 :: 10 :: rest)[k]? := by
  rw [Nat.add_assoc _ r.length k, ← List.getElem?_drop, drop_raw hd, List.getElem?_append_right (by omega)]
  congr 1
  omega
theorem part_name (hd : l.drop i = rowOf (n, r) ++ rest) : part l i (i + n.length) = n := by
  unfold part
  rw [hd, Nat.add_sub_cancel_left]
  unfold rowOf
  rw [List.append_assoc, List.append_assoc, List.append_assoc, List.take_left' rfl]
theorem part_raw (hd : l.drop i = rowOf (n, r) ++ rest) : part l (i + n.length + 1) (i + n.length + 1 + r.length) = r := by
  unfold part
  rw [drop_raw hd, Nat.add_sub_cancel_left, List.take_left' rfl]
theorem first_row (hd : l.drop i = rowOf (n, r) ++ rest) (hn : isName n = true) : i + n.length < (lineAt l i l.length).1 ∧ nth l 58 i (lineAt l i l.length).1 = some (i + n.length) := by
  have hlow : ∀ m, i ≤ m → m < i + n.length → ∃ c, l[m]? = some c ∧ okc c = true := fun m h1 h2 => by
    have e := at_name hd (k := m - i) (by omega)
    rw [show i + (m - i) = m by omega] at e
    obtain ⟨c, hc⟩ : ∃ c, n[m - i]? = some c := ⟨_, List.getElem?_eq_getElem (by omega)⟩
    exact ⟨c, by rw [e, hc], okc_of hn hc⟩
  have h58 := at_colon hd
  have hlt : i + n.length < (lineAt l i l.length).1 := by
    have hlen := (List.getElem?_eq_some_iff.1 h58).1
    cases hk : nth l 10 i l.length with
    | none => rw [lineAt_none hk]; exact hlen
    | some k =>
      obtain ⟨k1, k2, k3, k4⟩ := nth_some hk
      have hk5 : i + n.length < k := by
        rcases Nat.lt_or_ge k (i + n.length) with h | h
        · obtain ⟨c, hc, ho⟩ := hlow k k1 h
          rw [k3] at hc
          injection hc with hc
          exact absurd hc.symm (okc_ne ho).1
        · rcases Nat.lt_or_ge (i + n.length) k with h' | h'
          · exact h'
          · have : k = i + n.length := by omega
            rw [this, h58] at k3
            cases k3
      by_cases hc : i < k ∧ l[k - 1]? = some 13
      · rw [lineAt_cr hk hc.1 hc.2]
        show i + n.length < k - 1
        have : k - 1 ≠ i + n.length := fun q => by
          have := hc.2
          rw [q, h58] at this
          cases this
        omega
      · rw [lineAt_no hk hc]
        exact hk5
  exact ⟨hlt, nth_eq (by omega) hlt h58 fun m h1 h2 h3 => by
    obtain ⟨c, hc, ho⟩ := hlow m h1 h2
    rw [h3] at hc
    injection hc with hc
    exact (okc_ne ho).2.2.1 hc.symm⟩
theorem colon_here (hd : l.drop i = rowOf (n, r) ++ rest) (hn : isName n = true) : colonIn l i (lineAt l i l.length).1 = some (i + n.length) := by
  unfold colonIn
  rw [(first_row hd hn).2]
  have e : (l.drop i).take (i + n.length - i) = n := part_name hd
  dsimp only
  rw [e]
  exact if_pos hn
end
theorem spans_law (l : List UInt8) : ∀ (g : List (List UInt8 × List UInt8)) (i : Nat) (post : List UInt8), l.drop i = written g ++ post → i ≤ l.length → PostOk post → (∀ f ∈ g, sound f.1 f.2 = true) → ∀ rs p, Spans l i rs p → rs = marks i g ∧ p = (if post = [] then l.length else i + (written g).length + 2) := by
  intro g
  induction g with
  | nil =>
    intro i post hd hi hp hs rs p hsp
    have hd' : l.drop i = post := hd
    rcases hp with rfl | ⟨t, rfl⟩
    · have hlen : i = l.length := by
        have := congrArg List.length hd'
        rw [List.length_drop, List.length_nil] at this
        omega
      cases hsp with
      | stop h => exact ⟨rfl, (if_pos rfl).symm⟩
      | blank h e => omega
      | bad h e hc => omega
      | more h e hc f r => omega
    · have h0 : l[i]? = some 13 := by
        have : l[i + 0]? = some 13 := by rw [← List.getElem?_drop, hd']; rfl
        exact this
      have h1 : l[i + 1]? = some 10 := by rw [← List.getElem?_drop, hd']; rfl
      have hk : nth l 10 i l.length = some (i + 1) := nth_eq (by omega) (List.getElem?_eq_some_iff.1 h1).1 h1 fun m g1 g2 g3 => by
        have : m = i := by omega
        rw [this, h0] at g3
        cases g3
      have e1 := lineAt_cr hk (by omega) (by simpa using h0)
      have hlt := (List.getElem?_eq_some_iff.1 h0).1
      have e2 : (lineAt l i l.length).1 = i := by rw [e1]; rfl
      cases hsp with
      | stop h => exact absurd hlt h
      | blank h e => exact ⟨rfl, by rw [e1]; rfl⟩
      | bad h e hc => exact absurd e2 e
      | more h e hc f r => exact absurd e2 e
  | cons f g ih =>
    intro i post hd hi hp hs rs p hsp
    obtain ⟨n, r⟩ := f
    have hd' : l.drop i = rowOf (n, r) ++ (written g ++ post) := by rw [hd, ← List.append_assoc]; rfl
    have hsnd := hs (n, r) (List.mem_cons_self ..)
    unfold sound at hsnd
    rw [Bool.and_eq_true] at hsnd
    have hfr := first_row hd' hsnd.1
    have hf1 := hfr.1
    have hcol := colon_here hd' hsnd.1
    have hlt := (List.getElem?_eq_some_iff.1 (at_colon hd')).1
    have hnx : ∀ c, l[i + n.length + 1 + r.length + 2]? = some c → isWhite c = false := fun c hc => by
      rw [at_end hd' 2] at hc
      exact head_ok (fun f hf => hs f (List.mem_cons_of_mem _ hf)) hp (by simpa using hc)
    have hfold : ∀ a b, Fold l (lineAt l i l.length).1 (lineAt l i l.length).2 a b → a = i + n.length + 1 + r.length ∧ b = i + n.length + 1 + r.length + 2 := fun a b hf => by
      refine fold_end (by simpa using at_end hd' 0) (by simpa using at_end hd' 1) hnx _ i a b (Nat.le_refl _) (by omega) (fun q q1 q2 q3 => ?_) hf
      rcases Nat.lt_or_ge q (i + n.length) with h | h
      · have e := at_name hd' (k := q - i) (by omega)
        rw [show i + (q - i) = q by omega, q3] at e
        exact absurd rfl (okc_ne (okc_of hsnd.1 e.symm)).1
      · have hq : q ≠ i + n.length := fun z => by rw [z, at_colon hd'] at q3; cases q3
        have e := at_raw hd' (k := q - (i + n.length + 1)) (by omega)
        rw [show i + n.length + 1 + (q - (i + n.length + 1)) = q by omega, q3] at e
        obtain ⟨c, hc, hw⟩ := okTail_at hsnd.2 e.symm
        have hlt2 : q - (i + n.length + 1) + 1 < r.length := (List.getElem?_eq_some_iff.1 hc).1
        refine ⟨by omega, c, ?_, hw⟩
        have e2 := at_raw hd' (k := q - (i + n.length + 1) + 1) hlt2
        rw [show i + n.length + 1 + (q - (i + n.length + 1) + 1) = q + 1 by omega] at e2
        rw [e2]
        exact hc
    have hrow : (rowOf (n, r)).length = n.length + r.length + 3 := rowOf_length _
    cases hsp with
    | stop h => omega
    | blank h e => omega
    | bad h e hc => rw [hcol] at hc; cases hc
    | @more _ c a b _ rs' h e hc fo rr =>
      rw [hcol] at hc
      injection hc with hc
      obtain ⟨ea, eb⟩ := hfold _ _ fo
      subst ea eb hc
      have eb2 : i + n.length + 1 + r.length + 2 = i + (rowOf (n, r)).length := by rw [hrow]; omega
      rw [eb2] at rr
      have hdd : l.drop (i + (rowOf (n, r)).length) = written g ++ post := by
        rw [← List.drop_drop, hd', List.drop_left' rfl]
      have hle : i + (rowOf (n, r)).length ≤ l.length := by
        have := congrArg List.length hd'
        rw [List.length_drop, List.length_append] at this
        omega
      obtain ⟨k1, k2⟩ := ih _ post hdd hle hp (fun f hf => hs f (List.mem_cons_of_mem _ hf)) _ _ rr
      refine ⟨?_, ?_⟩
      · rw [k1, part_name hd', part_raw hd', eb2]
        rfl
      · rw [k2]
        split
        · rfl
        · have : (written ((n, r) :: g)).length = (rowOf (n, r)).length + (written g).length := by
            show (rowOf (n, r) ++ written g).length = _
            rw [List.length_append]
          omega
/- NA -/
theorem off_NA : True := by w_top off; trivial
section
variable {prog : Program} {w : World} {A : Around} {E : Value → Shared → Prop} {s : Shared} {env : Env} {h₀ : Heap} {target : PySem.Expr} {body : List Stmt} {Q : Flow → Shared → Prop} {m₀ : PySem.Str → Option Value}
theorem iter_listT {l : Addr} {vs : List Value} {news : List (Addr × Obj)} (J : Nat → (PySem.Str → Option Value) → List (Addr × Obj) → Prop)
    (hh : A.handled = none) (hl : s.heap.IsList l vs.toArray) (hlL : l ≠ env.locals) (F : Fr h₀ env.locals s.heap m₀) (N : News h₀ env.locals s.heap news) (hj : J 0 m₀ news)
    (turn : ∀ i v m₁ news₁ h tk own, vs[i]? = some v → J i m₁ news₁ → Fr h₀ env.locals h m₁ → News h₀ env.locals h (news₁ ++ own) →
      wpAny (model prog w) A (assign target env v) (fun _ s₃ => wpAny (model prog w) A (execs body env) (InvPostN h₀ env.locals (J (i + 1)) own (news.map (·.1)) { s with heap := h, toks := tk } Q) E s₃) E { s with heap := h, toks := tk })
    (done : ∀ m₁ news₁ h tk, J vs.length m₁ news₁ → Fr h₀ env.locals h m₁ → News h₀ env.locals h news₁ → Q .next { s with heap := h, toks := tk }) :
    wpAny (model prog w) A (pyIter (.ref l)) (fun it s₂ => TurnsAt prog w A h₀ env target body Q E it s₂) E s := by
  have hlt : l < s.heap.objs.size := by
    obtain ⟨o, ho, _⟩ := hl
    exact Heap.lt_size ho
  have hne : l ≠ s.heap.objs.size := Nat.ne_of_lt hlt
  refine wpAny_pyIter_list hl ?_
  have W := Walks.list (prog := prog) (w := w) hh s.heap.objs.size l hne vs.toArray
  have hnI : ∀ p ∈ news, p.1 ≠ s.heap.objs.size := fun p hp => Nat.ne_of_lt (Heap.lt_size (N p hp).1)
  refine ⟨s.heap.objs.size, [s.heap.objs.size, l], [s.heap.objs.size], vs.toArray.size, _, _, _, m₀, news, fun i m nx => nx.map (·.1) = news.map (·.1) ∧ J i m nx, rfl, KTurns.ofWalks W fun i v s Q E st q => letGo_listiter st.1 q, ?_, ?_, ?_, ⟨⟨_, Heap.get?_push_size _ rfl, rfl, rfl⟩, hl.at fun o e => Heap.get?_push_of_some _ e⟩, F.push _, fun p hp => ⟨Heap.get?_push_of_some _ (N p hp).1, (N p hp).2⟩, ⟨rfl, hj⟩, ?_, ?_⟩
  · intro hm
    rcases List.mem_cons.mp hm with e | hm
    · exact absurd F.ns.lt (e ▸ Nat.lt_irrefl _)
    · exact hlL (List.mem_singleton.mp hm).symm
  · intro b hb
    rw [List.mem_singleton.mp hb]
    exact next_is_new F
  · intro p hp hI
    exact hnI p hp (List.mem_singleton.mp hI)
  · rintro i v m₁ news₁ hh' tk' own hin hP ⟨hadr, hJ⟩ hoff hown _ _ _ F₁ N₁
    have N₂ : News h₀ env.locals hh' (news₁ ++ own) := fun p hp => N₁ p ((List.mem_append.mp hp).elim (fun h => List.mem_append.mpr (.inr h)) fun h => List.mem_append.mpr (.inl h))
    refine wpAny_mono (turn i v m₁ news₁ hh' tk' own (by simpa using hP) hJ F₁ N₂) (fun _ s₃ q => wpAny_mono q (fun f s₂ p => ?_) fun _ _ e => e) fun _ _ e => e
    have fin : InvEndN h₀ env.locals (J (i + 1)) own (news.map (·.1)) { s with heap := hh', toks := tk' } s₂ → LoopStepU h₀ env.locals [s.heap.objs.size] own (fun m nx => nx.map (·.1) = news.map (·.1) ∧ J (i + 1) m nx) { s with heap := hh', toks := tk' } .next s₂ := by
      rintro ⟨h', tk, m', news', nx, e, F', N', hn, ho, ha, hm⟩
      refine ⟨rfl, h', tk, m', nx, e, F', fun p hp => N' p ((List.mem_append.mp hp).elim (ho p) (hn p)), fun p hp hq => ?_, ha, hm⟩
      have h1 : p.1 ∈ nx.map (·.1) := List.mem_map.mpr ⟨p, hp, rfl⟩
      rw [ha, ← hadr] at h1
      obtain ⟨q, hq1, hq2⟩ := List.mem_map.mp h1
      exact hoff q hq1 (by rw [hq2]; exact hq)
    cases f with
    | ret v => exact .ret p
    | brk => exact .brk p
    | next => exact .next (fin p)
    | cont => exact .cont (fin p)
  · rintro h' tk m' news' F' N' _ ⟨_, hJ⟩
    rw [List.size_toArray] at hJ
    exact done m' news' h' tk hJ F' N'
end
theorem marks_fst : ∀ (g : List (List UInt8 × List UInt8)) (i : Nat), (marks i g).map Prod.fst = g
  | [], _ => rfl
  | f :: g, i => by
    show f :: (marks _ g).map Prod.fst = _
    rw [marks_fst g]
theorem marks_length (g : List (List UInt8 × List UInt8)) (i : Nat) : (marks i g).length = g.length := by
  have := congrArg List.length (marks_fst g i)
  rwa [List.length_map] at this
theorem written_cons (f : List UInt8 × List UInt8) (g : List (List UInt8 × List UInt8)) : written (f :: g) = rowOf f ++ written g := rfl
theorem marks_get : ∀ (g : List (List UInt8 × List UInt8)) (i k : Nat) (f : List UInt8 × List UInt8) (a b : Nat), (marks i g)[k]? = some (f, a, b) → g[k]? = some f ∧ a = i + (written (g.take k)).length ∧ b = a + (rowOf f).length
  | [], i, k, f, a, b, h => by simp [marks] at h
  | x :: g, i, 0, f, a, b, h => by
    have h' : some (x, i, i + (rowOf x).length) = some (f, a, b) := h
    injection h' with h'
    injection h' with h1 h2
    injection h2 with h2 h3
    subst h1 h2 h3
    exact ⟨rfl, by simp [written], rfl⟩
  | x :: g, i, k + 1, f, a, b, h => by
    obtain ⟨h1, h2, h3⟩ := marks_get g _ k f a b h
    refine ⟨h1, ?_, h3⟩
    rw [List.take_succ_cons, written_cons, List.length_append]
    omega
theorem written_take {g : List (List UInt8 × List UInt8)} {k : Nat} {f : List UInt8 × List UInt8} (h : g[k]? = some f) : written (g.take (k + 1)) = written (g.take k) ++ rowOf f := by
  rw [List.take_add_one, h, written_append]
  simp [written]
theorem part_written {g : List (List UInt8 × List UInt8)} {k : Nat} {f : List UInt8 × List UInt8} (h : g[k]? = some f) : part (written g) (written (g.take k)).length ((written (g.take k)).length + (rowOf f).length) = rowOf f ∧ (written (g.take k)).length + (rowOf f).length ≤ (written g).length := by
  have e : written g = written (g.take k) ++ (rowOf f ++ written (g.drop (k + 1))) := by
    rw [← List.append_assoc, ← written_take h, ← written_append, List.take_append_drop]
  refine ⟨?_, ?_⟩
  · unfold part
    rw [e, List.drop_left' rfl, Nat.add_sub_cancel_left, List.take_left' rfl]
  · rw [e, List.length_append, List.length_append]
    omega
theorem written_one (f : List UInt8 × List UInt8) : written [f] = rowOf f := by simp [written]
theorem spans_whole {g₁ g₂ : List (List UInt8 × List UInt8)} (f₁ : Fine g₁) (f₂ : Fine g₂) {body : List UInt8} {rs : List Span} {p : Nat} (h : Spans (written g₁ ++ written g₂ ++ [13, 10] ++ body) 0 rs p) : rs = marks 0 (g₁ ++ g₂) ∧ p = (written g₁ ++ written g₂).length + 2 := by
  have e : (written g₁ ++ written g₂ ++ [13, 10] ++ body).drop 0 = written (g₁ ++ g₂) ++ (13 :: 10 :: body) := by
    rw [written_append]; simp
  obtain ⟨h1, h2⟩ := spans_law _ (g₁ ++ g₂) 0 (13 :: 10 :: body) e (Nat.zero_le _) (.inr ⟨_, rfl⟩) (sound_append f₁ f₂) rs p h
  refine ⟨h1, ?_⟩
  rw [h2, if_neg (by simp), written_append]
  omega
theorem spans_rest {g₁ g₂ : List (List UInt8 × List UInt8)} (f₂ : Fine g₂) {rs : List Span} {p : Nat} (h : Spans (written g₁ ++ written g₂) (written g₁).length rs p) : rs = marks (written g₁).length g₂ ∧ p = (written g₁ ++ written g₂).length := by
  obtain ⟨h1, h2⟩ := spans_law _ g₂ _ [] (by rw [List.drop_left' rfl, List.append_nil]) (by rw [List.length_append]; omega) (.inl rfl) f₂.sound rs p h
  exact ⟨h1, by rw [h2, if_pos rfl]⟩
theorem spans_pack {B h h' : Heap} {L a P : Addr} {m : PySem.Str → Option Value} {news ents : List (Addr × Obj)} {o : Obj} {vs : List Value} {nn : Nat} {rs : List Span} (F : Fr B L h m) (N : News B L h news) (m1 : (a, o) ∈ ents) (m2 : (P, listOf vs.toArray nn) ∈ ents) (si : SpanIn ents vs rs) (x : NewAll h h' ents) :
    ∃ G, Fr B L h' m ∧ News B L h' ((a, o) :: G) ∧ (P, listOf vs.toArray nn) ∈ G ∧ SpanIn G vs rs ∧ ∀ p ∈ news, p ∈ G := by
  have N' := x.news F N
  refine ⟨ents ++ news, F.keptAll x.keep, fun p hp => ?_, List.mem_append_left _ m2, si.mono fun p hp => List.mem_append_left _ hp, fun p hp => List.mem_append_right _ hp⟩
  rcases List.mem_cons.1 hp with rfl | hp
  · exact N' _ (List.mem_append_left _ m1)
  · exact N' _ hp
theorem fields_pack {B h h' : Heap} {L a P : Addr} {m : PySem.Str → Option Value} {news ents : List (Addr × Obj)} {o : Obj} {vs : List Value} {nn : Nat} {fs : List (List UInt8 × List UInt8)} (F : Fr B L h m) (N : News B L h news) (m1 : (a, o) ∈ ents) (m2 : (P, listOf vs.toArray nn) ∈ ents) (si : FsIn ents vs fs) (x : NewAll h h' ents) :
    ∃ G, Fr B L h' m ∧ News B L h' ((a, o) :: G) ∧ (P, listOf vs.toArray nn) ∈ G ∧ FsIn G vs fs ∧ ∀ p ∈ news, p ∈ G := by
  have N' := x.news F N
  refine ⟨ents ++ news, F.keptAll x.keep, fun p hp => ?_, List.mem_append_left _ m2, si.mono fun p hp => List.mem_append_left _ hp, fun p hp => List.mem_append_right _ hp⟩
  rcases List.mem_cons.1 hp with rfl | hp
  · exact N' _ (List.mem_append_left _ m1)
  · exact N' _ hp
theorem told_end {B h' : Heap} {L I C D' t src : Addr} {oI oC oD so : Obj} {m : PySem.Str → Option Value} {s : Shared} {tk' i : Nat} {its : Array Value} {G news : List (Addr × Obj)} {fs : List (List UInt8 × List UInt8)} {n r : List UInt8} {tn tr : Tok} {ys : List Value}
    (F : Fr B L h' m) (N : News B L h' ((t, tupO [.bytes n.toArray tn, .bytes r.toArray tr]) :: (I, oI) :: (C, oC) :: (D', oD) :: news)) (off : LCg.Off3 I C D' news) (z : @Ne Nat I t ∧ @Ne Nat C t ∧ @Ne Nat D' t)
    (hm : (src, so) ∈ G) (hc : so.cls = .type "list") (hd : ∃ k, so.data = .seq its k) (hfi : fs[i]? = some (n, r)) (hsub : ∀ p ∈ G, p ∈ news) (hys : ToldIn news ys (fs.take i)) :
    LCg.CompEnd B L m s I oI C oC D' oD (LCg.SrcAt B src its) (fun y news' => (∀ p ∈ G, p ∈ news') ∧ ToldIn news' (ys ++ [y]) (fs.take (i + 1))) (.ref t) { s with heap := h', toks := tk' } := by
  refine LCg.CompEnd.intro F N ((t, tupO [.bytes n.toArray tn, .bytes r.toArray tr]) :: news) (fun p hp => ?_) ⟨⟨z.1.symm, z.2.1.symm, z.2.2.symm⟩, off⟩ (.inr ⟨so, List.mem_cons_of_mem _ (hsub _ hm), hc, hd⟩) ⟨fun p hp => List.mem_cons_of_mem _ (hsub p hp), ?_⟩
  · simp only [List.mem_cons] at hp ⊢
    rcases hp with h | h | h | h | h <;> simp [h]
  · rw [List.take_add_one, hfi]
    exact (hys.mono fun p hp => List.mem_cons_of_mem _ hp).snoc (List.mem_cons_self ..)
theorem news_skip {B h : Heap} {L : Addr} {a b : Addr × Obj} {e : List (Addr × Obj)} (N : News B L h (a :: b :: e)) : News B L h (a :: e) := fun p hp => N p (by
  simp only [List.mem_cons] at hp ⊢
  rcases hp with h | h <;> simp [h])
theorem FList.empty {news : List (Addr × Obj)} {a : Addr} {n : Nat} (h : (a, listOf #[] n) ∈ news) : FList news a [] := ⟨⟨[], n, h, .nil⟩, (fun _ h => nomatch h), by decide⟩
theorem written_nil : written [] = [] := rfl
theorem lift3 {B h : Heap} {L a : Addr} {x y z : Addr × Obj} {E : List (Addr × Obj)} {fs : List (List UInt8 × List UInt8)} (_N : News B L h (x :: y :: z :: E)) (M : FList E a fs) : FList (x :: y :: z :: E) a fs := M.mono fun p hp => List.mem_cons_of_mem _ (List.mem_cons_of_mem _ (List.mem_cons_of_mem _ hp))
theorem news_tl {B h : Heap} {L : Addr} {a : Addr × Obj} {e : List (Addr × Obj)} (N : News B L h (a :: e)) : News B L h e := fun p hp => N p (List.mem_cons_of_mem _ hp)
theorem FList.one {news rest : List (Addr × Obj)} {a x : Addr} {k : Nat} {n r : List UInt8} (hf : FieldIn rest x n r) (hs : ∀ p ∈ rest, p ∈ news) (ho : FieldOk (n, r)) (h : (a, listOf #[.ref x] k) ∈ news) : FList news a [(n, r)] :=
  ⟨⟨[.ref x], k, h, .cons (hf.mono hs) .nil⟩, (fun f hf => by rw [List.mem_singleton.1 hf]; exact ho), by simp⟩
theorem Fine.get {g₁ g₂ : List (List UInt8 × List UInt8)} (f₁ : Fine g₁) (f₂ : Fine g₂) {i : Nat} {f : List UInt8 × List UInt8} (h : (g₁ ++ g₂)[i]? = some f) : FieldOk f ∧ Mine.sound f.1 f.2 = true := by
  have hm := List.mem_of_getElem? h
  refine ⟨?_, sound_append f₁ f₂ f hm⟩
  rcases List.mem_append.1 hm with hm | hm
  · exact f₁.ok f hm
  · exact f₂.ok f hm
theorem kms_pick_from {l : List Value} {k : Nat} (h : k ≤ l.length) : kms_pick l (some (k : Int)) none = l.drop k := by
  have h0 : ¬ ((k : Int) < 0) := by omega
  unfold kms_pick
  simp only [kms_lo, kms_hi, h0, if_false, Int.toNat_natCast]
  rw [Nat.min_eq_left h, List.take_of_length_le (by rw [List.length_drop]; omega)]
/- MTF -/
theorem off_MTF : True := by w_top off; trivial
local macro_rules | `(tactic| walk_at "call ref") => `(tactic| (k_here; (with_reducible show wpAny _ _ (call (Value.ref 172) _ _) _ _ _); refine stop_here ?_))
local macro_rules | `(tactic| walk_at "subscriptTail") => `(tactic| (k_here; (with_reducible show wpAny _ _ (subscriptTail _ _ (Value.ref _) (Value.int _ _)) _ _ _); (refine' item_TupB ?N ?m ?bl ?a ?b ?z ?_; (case N => k_asm); (case m => k_dflt k_mem); (case bl => repeat (first | exact Bl.nil | apply Bl.cons)); (case a => walk_at "m_arith"); (case b => walk_at "m_arith"); (case z => decide)); intro itB itT itM))
local macro_rules | `(tactic| walk_at "exec For Name Tuple cons nil") => `(tactic| (k_here; (with_reducible show wpAny _ _ (exec (Stmt.For _ _ _ _ _) _) _ _ _); refine stop_here ?_))
local macro_rules | `(tactic| walk_at "call ref") => `(tactic| (k_here; (with_reducible show wpAny _ _ (call (Value.ref 151) _ _) _ _ _); refine stop_here ?_))
local macro_rules | `(tactic| walk_at "call ref") => `(tactic| (k_here; (with_reducible show wpAny _ _ (call (Value.ref 186) _ _) _ _ _); refine stop_here ?_))
local macro_rules | `(tactic| walk_at "binaryOp Add ref ref") => `(tactic| (k_here; refine stop_here ?_))
local macro_rules | `(tactic| walk_at "compareOp NotEq ref ref") => `(tactic| (k_here; refine stop_here ?_))
local macro_rules | `(tactic| walk_at "compareOp Eq ref ref") => `(tactic| (k_here; refine stop_here ?_))
local macro_rules | `(tactic| walk_at "compareOp In bool ref") => `(tactic| (k_here; refine stop_here ?_))
local macro_rules | `(tactic| walk_at "subscriptTail Name Slice ref ref") => `(tactic| (k_here; (with_reducible show wpAny _ _ (subscriptTail _ (Expr.Slice (some _) none none _) (Value.ref _) (Value.ref _)) _ _ _); refine stop_here ?_))
local macro_rules | `(tactic| walk_at "call ref") => `(tactic| (k_here; (with_reducible show wpAny _ _ (call (Value.ref 179) _ _) _ _ _); (with_reducible rename Fr _ _ _ _ => F'); (with_reducible rename News _ _ _ _ => N'); (with_reducible rename Wd _ _ _ _ _ => X'); (with_reducible rename Room _ _ => r'); (refine' law_can_spec (X'.grow F'.keep) (r'.mono (by decide)) ?fl ?n1 ?n2 ?_; (case fl => walk_at "m_field"); (case n1 => walk_at "m_arith"); (case n2 => walk_at "m_arith")); intro h' tk' k'; (have F'' := F'.keptAll k'); (have N'' := N'.grown k')))
local macro_rules | `(tactic| walk_at "call ref") => `(tactic| (k_here; (with_reducible show wpAny _ _ (call (Value.ref 90) _ _) _ _ _); refine stop_here ?_))
local macro_rules | `(tactic| walk_at "CompSrcT") => `(tactic| (k_here; refine stop_here ?_))
local macro_rules | `(tactic| walk_at "getMethod ref") => `(tactic| (k_here; (with_reducible show wpAny _ _ (getMethod (Value.ref _) (PySem.Str.ofString "told") _) _ _ _); (with_reducible rename Fr _ _ _ _ => F'); (refine' told_meth (by assumption) F' ?fl ?_); (case fl => walk_at "m_field")))
section
local macro_rules | `(tactic| walk_at "exec For Tuple Name cons nil") => `(tactic| (k_here; (with_reducible show wpAny _ _ (exec (Stmt.For _ _ _ _ _) _) _ _ _); refine stop_here ?_))
theorem len_le4 {d : Int} {n : Nat} (h : n = d.toNat) (k : d < 5) : n ≤ 4 := by omega
theorem law_top : PySem.Challenge.rw_or0033_01.Holds := by
  refine Mine.hd ?_
  k_go0
  all_goals (try k_fold)
  rename (hd.heap_39 _).In _ => KX
  rename Top _ _ _ _ _ _ => TT
  rename Fr _ _ _ _ => F
  rename Glob _ _ _ _ _ _ _ _ => GL
  have X : Wd _ _ _ _ _ := ⟨KX, TT⟩
  refine with_room fun R => ?_
  change wpAny (model prg _) _ _ _ _ _
  k_steps
  rename News _ _ _ _ => N0
  (refine go_on ?_; k_dflt (refine LCg.ListComp_U (F₀ := by k_asm) (by with_unfolding_all rfl) (by decide) (by rfl) (by decide) (by rfl) ?_); k_steps)
  rename IntsAre _ (List.take _ _) => hI
  with_reducible rename Fr _ _ _ _ => F'
  with_reducible rename News _ _ _ _ => N'
  rename_i D' ws' h' hC' hL' l1
  refine go_on (LCg.CompSrc.ledger rfl F' N' (List.mem_cons_self ..) (by rw [List.size_toArray, hI.length, sizeLine_eq]; omega) ?_)
  intro g
  refine comp_ind (Inv := fun i ys news => news = [(D', W.listOf _ _), (_, _)] ∧ ∃ ns : List Int, IntsAre ys ns ∧ ns.length = i ∧ ∀ n ∈ ns, 0 ≤ n ∧ n < 10 ^ 80) _ ?_ ?_ _ 0 [] _ (Nat.zero_add _) ⟨rfl, [], .nil, rfl, fun _ h => nomatch h⟩
  · rintro i ys news v I oI C oC D m₂ h tk E' hi hJz
    refine hide_goal fun Cz hCz => ?_
    obtain ⟨rfl, ns, hys, hnl, hns⟩ := hJz
    refine hCz ?_
    clear hCz
    clear Cz
    rintro hv hC hx F' N' off ne
    rw [List.getElem?_toArray] at hv
    refine hide_goal fun Cz hCz => ?_
    obtain ⟨z, tz, rfl, hz⟩ := hI.at i v hv
    refine hCz ?_
    clear hCz
    clear Cz
    refine gen_post fun Qx hQx => ?_
    k_steps
    subst hQx
    refine LCg.CompEnd.intro F' N' [(D', _), (_, _)] (fun p hp => hp) off (.inr ⟨_, List.mem_cons_self .., rfl, _, rfl⟩) ⟨rfl, _, ints_snoc hys, ?_, ?_⟩
    · rw [List.length_append, hnl]; rfl
    · intro n hn
      rcases List.mem_append.1 hn with hn | hn
      · exact hns n hn
      · rw [List.mem_singleton.1 hn]
        exact ⟨Int.fmod_nonneg_of_pos _ (by decide), Int.fmod_lt_of_pos _ (by decide)⟩
  · rintro ys news hJz
    refine hide_goal fun Cz hCz => ?_
    obtain ⟨rfl, ns, hys, hnl, hns⟩ := hJz
    refine hCz ?_
    clear hCz
    clear Cz
    have hpool : PoolOk ns := ⟨by rw [hnl, List.size_toArray, hI.length]; omega, hns⟩
    unfold LCg.FinE
    intro D h' tk F' N' off
    k_steps
    rename Fr _ _ _ _ => F₂
    rename News _ _ _ _ => N₂
    obtain ⟨off1, off2, -⟩ := off
    dsimp only at off1 off2
    have N₃ := pool_news N₂
    clear N₂ N' F'
    (refine go_on ?_; k_dflt (refine LCg.Assign_ListComp_U (F₀ := by k_asm) (by rfl) (by with_unfolding_all rfl) (by with_unfolding_all rfl) (by decide) (by rfl) (by decide) (by rfl) (by rfl) (by rfl) ?_); k_steps)
    with_reducible rename Fr _ _ _ _ => F'
    with_reducible rename News _ _ _ _ => N'
    rename IsRange _ _ _ _ _ _ _ _ => rg
    rename IntsAre _ _ => in₁
    rename PoolOk _ => ok₁
    rename_i cell F5 hcell N5 h3 tk3 d t3 ps₁ ns₁ nn₁ lo₁ hi₁ F6 nu₁ N6 r₁ h4 tk4 t4 u4 v4
    refine go_on (LCg.CompSrc.range (n := d.toNat) rfl F' N' rg (small_one (by omega) (by omega) (by omega)) (size_one (by omega)) (by rw [sizeLine_eq]; omega) ?_)
    intro g
    refine comp_ind (Inv := fun i ys news => ∃ ps ns nn ents fs, news = (D, listOf ps.toArray nn) :: (_, cell) :: ents ∧ IntsAre ps ns ∧ PoolOk ns ∧ OwnOff ents [D] ∧ FsIn ents ys fs ∧ fs.length = i ∧ (∀ f ∈ fs, FieldOk f) ∧ ∀ p ∈ ([] : List (Addr × Obj)), p ∈ ents) _ ?_ ?_ _ 0 [] _ (Nat.zero_add _) ⟨_, _, _, [], [], rfl, in₁, ok₁, (fun _ h => nomatch h), .nil, rfl, (fun _ h => nomatch h), fun _ h => h⟩
    · rintro i ys news v I oI C oC D' m₂ h tk E' hi hJz
      refine hide_goal fun Cz hCz => ?_
      obtain ⟨ps, ns, nn, ents, fs, rfl, hi, ho, hoff, hfs, hfl, hok, hsub⟩ := hJz
      refine hCz ?_
      clear hCz
      clear Cz
      rintro hv hC hx F' N' off ne
      have k1 : @Ne Nat D I := (off.mem _ (List.mem_cons_self ..)).1
      have k2 : @Ne Nat D C := (off.mem _ (List.mem_cons_self ..)).2.1
      have k3 : @Ne Nat D D' := (off.mem _ (List.mem_cons_self ..)).2.2
      k_steps
      refine go_on ?_
      with_reducible rename Fr _ _ _ _ => F'
      with_reducible rename News _ _ _ _ => N'
      with_reducible rename Wd _ _ _ _ _ => X'
      with_reducible rename Room _ _ => r'
      refine' field_K X' (r'.mono (by decide)) F' N' ?m ?i ?o ?_
      case m => k_dflt k_mem
      case i => assumption
      case o => assumption
      intro h₇ tk₇ x₇ dx₇ es₇ n₇ tn₇ tr₇ nm₇ r₇ ps₇ ns₇ nn₇ fk' in' ok' F₇ nu' zx' zd' en' er'
      have N₇ := nu' _ (by k_dflt k_upd)
      k_steps
      with_reducible rename Fr _ _ _ _ => F'
      with_reducible rename News _ _ _ _ => N'
      exact law_field_end F' N' off zx' zd' in' ok' fk' en' er' hoff hfs hfl hok hsub
    · rintro ys₁ news hJz
      refine hide_goal fun Cz hCz => ?_
      obtain ⟨ps, ns, nn, ents, fs₁, rfl, hi, ho, hoff, hfs₁, hfl₁, hok₁, hsub⟩ := hJz
      refine hCz ?_
      clear hCz
      clear Cz
      have q1 := len_le4 hfl₁ hi₁
      clear rg nu₁ N6 F6 N5 F5 in₁ ok₁ N' F'
      unfold LCg.FinA
      intro S₁ h' tk F' N' off
      k_steps
      have N₃ := news_S N'
      obtain ⟨off1', off3', off4'⟩ := off
      dsimp only at off1'
      clear N'
      have hoff₁ : OwnOff ((S₁, LCg.lst ys₁) :: ents) [D] := off_cons (Ne.symm off1') hoff
      (refine go_on ?_; k_dflt (refine LCg.Assign_ListComp_U (F₀ := by k_asm) (by rfl) (by with_unfolding_all rfl) (by with_unfolding_all rfl) (by decide) (by rfl) (by decide) (by rfl) (by rfl) (by rfl) ?_); k_steps)
      with_reducible rename Fr _ _ _ _ => F'
      with_reducible rename News _ _ _ _ => N'
      rename IsRange _ _ _ _ _ _ _ _ => rg
      rename IntsAre _ _ => in₁
      rename PoolOk _ => ok₁
      rename_i F5 N5 h3 tk3 d₂ t3 ps₁ ns₁ nn₁ lo₂ hi₂ F6 nu₁ N6 r₁ h4 tk4 t4 u4 v4
      refine go_on (LCg.CompSrc.range (n := d₂.toNat) rfl F' N' rg (small_one (by omega) (by omega) (by omega)) (size_one (by omega)) (by rw [sizeLine_eq]; omega) ?_)
      intro g
      refine comp_ind (Inv := fun i ys news => ∃ ps ns nn ents' fs, news = (D, listOf ps.toArray nn) :: (_, cell) :: ents' ∧ IntsAre ps ns ∧ PoolOk ns ∧ OwnOff ents' [D] ∧ FsIn ents' ys fs ∧ fs.length = i ∧ (∀ f ∈ fs, FieldOk f) ∧ ∀ p ∈ (S₁, LCg.lst ys₁) :: ents, p ∈ ents') _ ?_ ?_ _ 0 [] _ (Nat.zero_add _) ⟨_, _, _, _, [], rfl, in₁, ok₁, hoff₁, .nil, rfl, (fun _ h => nomatch h), fun _ h => h⟩
      · rintro i ys news v I oI C oC D' m₂ h tk E' hi hJz
        refine hide_goal fun Cz hCz => ?_
        obtain ⟨ps, ns, nn, ents, fs, rfl, hi, ho, hoff, hfs, hfl, hok, hsub⟩ := hJz
        refine hCz ?_
        clear hCz
        clear Cz
        rintro hv hC hx F' N' off ne
        have k1 : @Ne Nat D I := (off.mem _ (List.mem_cons_self ..)).1
        have k2 : @Ne Nat D C := (off.mem _ (List.mem_cons_self ..)).2.1
        have k3 : @Ne Nat D D' := (off.mem _ (List.mem_cons_self ..)).2.2
        k_steps
        refine go_on ?_
        with_reducible rename Fr _ _ _ _ => F'
        with_reducible rename News _ _ _ _ => N'
        with_reducible rename Wd _ _ _ _ _ => X'
        with_reducible rename Room _ _ => r'
        refine' field_K X' (r'.mono (by decide)) F' N' ?m ?i ?o ?_
        case m => k_dflt k_mem
        case i => assumption
        case o => assumption
        intro h₇ tk₇ x₇ dx₇ es₇ n₇ tn₇ tr₇ nm₇ r₇ ps₇ ns₇ nn₇ fk' in' ok' F₇ nu' zx' zd' en' er'
        have N₇ := nu' _ (by k_dflt k_upd)
        k_steps
        with_reducible rename Fr _ _ _ _ => F'
        with_reducible rename News _ _ _ _ => N'
        exact law_field_end F' N' off zx' zd' in' ok' fk' en' er' hoff hfs hfl hok hsub
      · rintro ys₂ news hJz
        refine hide_goal fun Cz hCz => ?_
        obtain ⟨ps, ns, nn, ents₂, fs₂, rfl, hi, ho, hoff, hfs₂, hfl₂, hok₂, hsub⟩ := hJz
        refine hCz ?_
        clear hCz
        clear Cz
        have q2 := len_le4 hfl₂ hi₂
        clear rg nu₁ N6 F6 N5 F5 in₁ ok₁ N' F'
        unfold LCg.FinA
        intro S₂ h' tk F' N' off
        obtain ⟨off5', off6', off7'⟩ := off
        dsimp only at off5'
        k_steps
        with_reducible rename Fr _ _ _ _ => F'
        with_reducible rename News _ _ _ _ => N'
        rename (_ : List UInt8) ∈ _ => hbody
        rename_i itB itT h5
        have hbl : itB.length ≤ 8 := by
          have : ∀ b ∈ bodies, b.length ≤ 8 := by decide
          exact this _ hbody
        refine hide_goal fun Cz hCz => ?_
        obtain ⟨E₀, N₀, L₁, L₂⟩ := pack N' hsub hfs₁ hok₁ q1 hfs₂ hok₂ q2
        refine hCz ?_
        clear hCz
        clear Cz
        clear N'
        walk_at "m_for"
        with_reducible rename Fr _ _ _ _ => F'
        refine go_on (add_K F' N₀ L₁ L₂ (Nat.le_trans (Nat.add_le_add q1 q2) (by decide)) fun S₃ h' F' hx => ?_)
        refine hide_goal fun Cz hCz => ?_
        obtain ⟨o₃, N', L₃, off₃⟩ := hx
        refine hCz ?_
        clear hCz
        clear Cz
        replace L₁ := L₁.mono fun p hp => List.mem_cons_of_mem (S₃, o₃) hp
        replace L₂ := L₂.mono fun p hp => List.mem_cons_of_mem (S₃, o₃) hp
        k_steps
        with_reducible rename Fr _ _ _ _ => F'
        with_reducible rename News _ _ _ _ => N'
        rename_i T h6 zT
        refine go_on (iter_tupV (vs := [.ref S₁, .ref S₂, .ref S₃]) (news := (S₃, o₃) :: E₀) (fun i m nx => nx = (S₃, o₃) :: E₀ ∧ m (Str.ofString "some") = some (.ref S₁) ∧ m (Str.ofString "others") = some (.ref S₂) ∧ m (Str.ofString "body") = some (.bytes itB.toArray itT)) rfl (tup_at N' (List.mem_cons_self ..)) (N' _ (List.mem_cons_self ..)).2.1 ?_ F' (fun p hp => N' p (List.mem_cons_of_mem _ hp)) ⟨rfl, rfl, rfl, rfl⟩ ?_ ?_)
        · intro q hq
          rcases List.mem_cons.1 hq with rfl | hq
          · exact zT.1
          · exact zT.2 q hq
        · clear F' N' N₀
          rintro i v m₁ nx h tk own hv hoff hJz
          refine hide_goal fun Cz hCz => ?_
          obtain ⟨rfl, e1, e2, e3⟩ := hJz
          refine hCz ?_
          clear hCz
          clear Cz
          rintro F' N'
          refine hide_goal fun Cz hCz => ?_
          obtain ⟨a, fs, rfl, La⟩ := three L₁ L₂ L₃ hv
          refine hCz ?_
          clear hCz
          clear Cz
          replace F' := rd1 (x := Str.ofString "some") F' (fun _ => rfl) e1
          replace F' := rd1 (x := Str.ofString "others") F'.1 F'.2 e2
          replace F' := (rd1 (x := Str.ofString "body") F'.1 F'.2 e3).1
          have La' := La.mono fun p hp => List.mem_append_left own hp
          refine hide_goal fun Cz hCz => ?_
          obtain ⟨⟨vs, n, hvs, hfs⟩, hok, hsh⟩ := La'
          refine hCz ?_
          clear hCz
          clear Cz
          obtain ⟨G, hG⟩ : ∃ G, G = (S₃, o₃) :: E₀ ++ own := ⟨_, rfl⟩
          rw [← hG] at N' hvs hfs
          refine gen_post fun Qx hQx => ?_
          k_steps
          (refine go_on ?_; k_dflt (refine LCg.Assign_ListComp_U (F₀ := by k_asm) (by rfl) (by with_unfolding_all rfl) (by with_unfolding_all rfl) (by decide) (by rfl) (by decide) (by rfl) (by rfl) (by rfl) ?_); k_steps)
          with_reducible rename Fr _ _ _ _ => F'
          refine go_on (LCg.CompSrc.ledger rfl F' N' hvs (by rw [List.size_toArray, hfs.length, sizeLine_eq]; exact Nat.le_trans hsh (by decide)) ?_)
          intro g
          refine comp_ind (Inv := fun i ys news => G = news ∧ ys = ((fs.take i).map canF).map Value.bool) _ ?_ ?_ _ 0 [] _ (Nat.zero_add _) ⟨rfl, rfl⟩
          · rintro i ys news v I oI C oC D' m₂ h tk E' hi ⟨rfl, rfl⟩ hvi hC hx F' N' off ne
            rw [List.getElem?_toArray] at hvi
            refine hide_goal fun Cz hCz => ?_
            obtain ⟨x, n, r, rfl, hfi, hfx⟩ := hfs.getV hvi
            refine hCz ?_
            clear hCz
            clear Cz
            have hfa : FieldAt h x n r := hfx.at fun p hp => N' p (List.mem_cons_of_mem _ (List.mem_cons_of_mem _ (List.mem_cons_of_mem _ hp)))
            have hsm := (hok _ (List.mem_of_getElem? hfi)).small
            unfold Small at hsm
            dsimp only at hsm
            k_steps
            with_reducible rename Fr _ _ _ _ => F'
            with_reducible rename News _ _ _ _ => N'
            exact bool_end F' N' off (.inr ⟨_, hvs, rfl, _, rfl⟩) hfi rfl
          · rintro ys news ⟨rfl, rfl⟩
            rw [show List.take vs.toArray.size fs = fs from by rw [List.size_toArray, hfs.length, List.take_length]]
            unfold LCg.FinA
            intro Cn h' tk F' N' off
            k_steps
            (refine go_on ?_; k_dflt (refine LCg.ListComp_U (F₀ := by k_asm) (by with_unfolding_all rfl) (by decide) (by rfl) (by decide) (by rfl) ?_); k_steps)
            with_reducible rename Fr _ _ _ _ => F'
            with_reducible rename News _ _ _ _ => N'
            obtain ⟨G₂, hG₂⟩ : ∃ G₂, G₂ = (Cn, LCg.lst ((fs.map canF).map Value.bool)) :: G := ⟨_, rfl⟩
            rw [← hG₂] at N'
            replace hvs := List.mem_cons_of_mem (Cn, LCg.lst ((fs.map canF).map Value.bool)) hvs
            rw [← hG₂] at hvs
            replace hfs : FsIn G₂ vs fs := by rw [hG₂]; exact hfs.mono fun p hp => List.mem_cons_of_mem _ hp
            have hCn : (Cn, LCg.lst ((fs.map canF).map Value.bool)) ∈ G₂ := by rw [hG₂]; exact List.mem_cons_self ..
            refine go_on (LCg.CompSrc.ledger rfl F' N' hvs (by rw [List.size_toArray, hfs.length, sizeLine_eq]; exact Nat.le_trans hsh (by decide)) ?_)
            intro g
            refine comp_ind (Inv := fun i ys news => G₂ = news ∧ ys = ((fs.take i).map (fun f => sound f.1 f.2)).map Value.bool) _ ?_ ?_ _ 0 [] _ (Nat.zero_add _) ⟨rfl, rfl⟩
            · rintro i ys news v I oI C oC D' m₂ h tk E' hi ⟨rfl, rfl⟩ hvi hC hx F' N' off ne
              rw [List.getElem?_toArray] at hvi
              refine hide_goal fun Cz hCz => ?_
              obtain ⟨x, n, r, rfl, hfi, hfx⟩ := hfs.getV hvi
              refine hCz ?_
              clear hCz
              clear Cz
              have hfa : FieldAt h x n r := hfx.at fun p hp => N' p (List.mem_cons_of_mem _ (List.mem_cons_of_mem _ (List.mem_cons_of_mem _ hp)))
              have hsm := (hok _ (List.mem_of_getElem? hfi)).small
              unfold Small at hsm
              dsimp only at hsm
              k_steps
              with_reducible rename Fr _ _ _ _ => F'
              with_reducible rename News _ _ _ _ => N'
              exact bool_end (p := (fun f => sound f.1 f.2)) F' N' off (.inr ⟨_, hvs, rfl, _, rfl⟩) hfi rfl
            · rintro ys news ⟨rfl, rfl⟩
              rw [show List.take vs.toArray.size fs = fs from by rw [List.size_toArray, hfs.length, List.take_length]]
              unfold LCg.FinE
              intro Sn h' tk F' N' off
              k_steps
              refine go_on (ne_bools (News.isList N' (List.mem_cons_self ..)) (News.isList N' (List.mem_cons_of_mem _ hCn)) (Nat.lt_of_succ_lt units_caller) ?_)
              rw [decide_eq_true (sounds_can hok), Bool.not_true]
              k_steps
              with_reducible rename Wd _ _ _ _ _ => X
              have La₂ : FList G₂ a fs := ⟨⟨vs, n, hvs, hfs⟩, hok, hsh⟩
              refine go_on (written_K X (room_caller.mono (by decide)) rfl (fun q => by cases q) F' N' (La₂.mono fun p hp => List.mem_cons_of_mem _ hp) (fun h' tk t hall F' N' => ?_) (fun h' tk hbad F' N' => ?_))
              · k_steps
                refine go_on (in_bools (News.isList N' (List.mem_cons_of_mem _ hCn)) ?_)
                rw [cans_all hok hall]
                k_steps
                subst hQx
                k_steps
                exact ⟨_, _, _, _, (S₃, o₃) :: E₀, rfl, F', N', (fun p hp => List.mem_cons_of_mem _ (by rw [hG₂, hG]; exact List.mem_cons_of_mem _ (List.mem_append_left _ hp))), (fun p hp => List.mem_cons_of_mem _ (by rw [hG₂, hG]; exact List.mem_cons_of_mem _ (List.mem_append_right _ hp))), rfl, rfl, rfl, rfl, rfl⟩
              · k_steps
                refine go_on (in_bools (News.isList N' (List.mem_cons_of_mem _ hCn)) ?_)
                rw [cans_some hok hbad]
                k_steps
                subst hQx
                k_steps
                exact ⟨_, _, _, _, (S₃, o₃) :: E₀, rfl, F', N', (fun p hp => List.mem_cons_of_mem _ (by rw [hG₂, hG]; exact List.mem_cons_of_mem _ (List.mem_append_left _ hp))), (fun p hp => List.mem_cons_of_mem _ (by rw [hG₂, hG]; exact List.mem_cons_of_mem _ (List.mem_append_right _ hp))), rfl, rfl, rfl, rfl, rfl⟩
        · clear F' N' N₀
          rintro m₁ nx h tk hJz
          refine hide_goal fun Cz hCz => ?_
          obtain ⟨rfl, e1, e2, e3⟩ := hJz
          refine hCz ?_
          clear hCz
          clear Cz
          rintro F' N'
          replace F' := rd1 (x := Str.ofString "some") F' (fun _ => rfl) e1
          replace F' := rd1 (x := Str.ofString "others") F'.1 F'.2 e2
          replace F' := (rd1 (x := Str.ofString "body") F'.1 F'.2 e3).1
          clear L₃
          k_steps
          generalize (S₃, o₃) :: E₀ = E₁ at N' L₁ L₂
          (refine go_on ?_; k_dflt (refine LCt.ListComp_T (F₀ := by k_asm) (by with_unfolding_all rfl) (by decide) (by rfl) (by decide) (by rfl) ?_); k_steps)
          with_reducible rename Fr _ _ _ _ => F'
          refine hide_goal fun Cz hCz => ?_
          obtain ⟨⟨vs, n, hvs, hfs⟩, hok, hsh⟩ := L₁
          refine hCz ?_
          clear hCz
          clear Cz
          refine go_on (LCt.CompSrcT.ledger rfl F' N' hvs (by rw [List.size_toArray, hfs.length, sizeLine_eq]; exact Nat.le_trans hsh (by decide)) ?_)
          intro g
          refine comp_indT (Inv := fun i ys news => E₁ = news ∧ FsIn E₁ ys ((fs₁.take i).filter canF)) _ ?_ ?_ _ 0 [] _ (Nat.zero_add _) ⟨rfl, .nil⟩
          · rintro i ys news v I oI C oC D' m₂ h tk E' hi ⟨rfl, hys⟩ hvi hC hx F' N' off ne
            rw [List.getElem?_toArray] at hvi
            refine hide_goal fun Cz hCz => ?_
            obtain ⟨x, n, r, rfl, hfi, hfx⟩ := hfs.getV hvi
            refine hCz ?_
            clear hCz
            clear Cz
            have hfa : FieldAt h x n r := hfx.at fun p hp => N' p (List.mem_cons_of_mem _ (List.mem_cons_of_mem _ (List.mem_cons_of_mem _ hp)))
            have hsm := (hok _ (List.mem_of_getElem? hfi)).small
            unfold Small at hsm
            dsimp only at hsm
            refine gen_post fun Qx hQx => ?_
            k_steps
            subst hQx
            k_steps
            all_goals with_reducible rename Fr _ _ _ _ => F'
            all_goals with_reducible rename News _ _ _ _ => N'
            all_goals rename (_ && _) = _ => hc
            · exact filter_yes F' N' off (.inr ⟨_, hvs, rfl, _, rfl⟩) hfi hc hys hfx
            · exact filter_no F' N' off (.inr ⟨_, hvs, rfl, _, rfl⟩) hfi hc hys
          · rintro ys₁ news ⟨rfl, hys₁⟩
            rw [show List.take vs.toArray.size fs₁ = fs₁ from by rw [List.size_toArray, hfs.length, List.take_length]] at hys₁
            clear hvs hfs
            unfold LCg.FinE
            intro A₁ h' tk F' N' off
            have M₁ := cans_list (A := A₁) hys₁ hok₁ q1
            replace L₂ := L₂.mono fun p hp => List.mem_cons_of_mem (A₁, LCg.lst ys₁) hp
            generalize (A₁, LCg.lst ys₁) :: E₁ = E₂ at N' M₁ L₂
            k_steps
            (refine go_on ?_; k_dflt (refine LCt.ListComp_T (F₀ := by k_asm) (by with_unfolding_all rfl) (by decide) (by rfl) (by decide) (by rfl) ?_); k_steps)
            with_reducible rename Fr _ _ _ _ => F'
            refine hide_goal fun Cz hCz => ?_
            obtain ⟨⟨vs, n, hvs, hfs⟩, hok, hsh⟩ := L₂
            refine hCz ?_
            clear hCz
            clear Cz
            refine go_on (LCt.CompSrcT.ledger rfl F' N' hvs (by rw [List.size_toArray, hfs.length, sizeLine_eq]; exact Nat.le_trans hsh (by decide)) ?_)
            intro g
            refine comp_indT (Inv := fun i ys news => E₂ = news ∧ FsIn E₂ ys ((fs₂.take i).filter canF)) _ ?_ ?_ _ 0 [] _ (Nat.zero_add _) ⟨rfl, .nil⟩
            · rintro i ys news v I oI C oC D' m₂ h tk E' hi ⟨rfl, hys⟩ hvi hC hx F' N' off ne
              rw [List.getElem?_toArray] at hvi
              refine hide_goal fun Cz hCz => ?_
              obtain ⟨x, n, r, rfl, hfi, hfx⟩ := hfs.getV hvi
              refine hCz ?_
              clear hCz
              clear Cz
              have hfa : FieldAt h x n r := hfx.at fun p hp => N' p (List.mem_cons_of_mem _ (List.mem_cons_of_mem _ (List.mem_cons_of_mem _ hp)))
              have hsm := (hok _ (List.mem_of_getElem? hfi)).small
              unfold Small at hsm
              dsimp only at hsm
              refine gen_post fun Qx hQx => ?_
              k_steps
              subst hQx
              k_steps
              all_goals with_reducible rename Fr _ _ _ _ => F'
              all_goals with_reducible rename News _ _ _ _ => N'
              all_goals rename (_ && _) = _ => hc
              · exact filter_yes F' N' off (.inr ⟨_, hvs, rfl, _, rfl⟩) hfi hc hys hfx
              · exact filter_no F' N' off (.inr ⟨_, hvs, rfl, _, rfl⟩) hfi hc hys
            · rintro ys₂ news ⟨rfl, hys₂⟩
              rw [show List.take vs.toArray.size fs₂ = fs₂ from by rw [List.size_toArray, hfs.length, List.take_length]] at hys₂
              unfold LCg.FinE
              intro A₂ h' tk F' N' off
              have M₂ := cans_list (A := A₂) hys₂ hok₂ q2
              have M₁' := M₁.mono fun p hp => List.mem_cons_of_mem (A₂, LCg.lst ys₂) hp
              k_steps
              with_reducible rename Fr _ _ _ _ => F'
              with_reducible rename News _ _ _ _ => N'
              refine hide_goal fun Cz hCz => ?_
              obtain ⟨E₃, g₁, g₂, N₃, M₁, M₂, f₁, f₂⟩ := pack2 N' M₁' M₂ hok₁ hok₂ q1 q2
              refine hCz ?_
              clear hCz
              clear Cz
              clear N' M₁' hys₂ hys₁ hvs hfs
              have w₁ := f₁.written_le
              have w₂ := f₂.written_le
              refine go_on (add_K F' N₃ M₁ M₂ (by have := f₁.len; have := f₂.len; omega) fun S₄ h' F' hx => ?_)
              refine hide_goal fun Cz hCz => ?_
              obtain ⟨o₄, N', M₄, off₄⟩ := hx
              refine hCz ?_
              clear hCz
              clear Cz
              replace M₁ := M₁.mono fun p hp => List.mem_cons_of_mem (S₄, o₄) hp
              replace M₂ := M₂.mono fun p hp => List.mem_cons_of_mem (S₄, o₄) hp
              generalize (S₄, o₄) :: E₃ = E₄ at N' M₁ M₂ M₄
              k_steps
              refine go_on (write_K (by assumption) (room_caller.mono (by decide)) F' N' M₄ (sound_append f₁ f₂) fun h' tk t F' N' => ?_)
              rw [written_append]
              k_steps
              refine go_on (write_K (by assumption) (room_caller.mono (by decide)) F' N' M₁ f₁.sound fun h' tk t F' N' => ?_)
              k_steps
              with_reducible rename Fr _ _ _ _ => F'
              with_reducible rename News _ _ _ _ => N'
              refine go_on (write_K (by assumption) (room_caller.mono (by decide)) F' N' (M₂.mono fun p hp => List.mem_cons_of_mem _ hp) f₂.sound fun h' tk t F' N' => ?_)
              k_steps
              with_reducible rename Fr _ _ _ _ => F'
              with_reducible rename News _ _ _ _ => N'
              refine go_on (write_K (by assumption) (room_caller.mono (by decide)) F' N' (FList.empty (List.mem_cons_self ..)) (fun _ h => nomatch h) fun h' tk t F' N' => ?_)
              rw [written_nil]
              k_steps
              (refine go_on ?_; k_dflt (refine LCg.Assign_ListComp_U (F₀ := by k_asm) (by rfl) (by with_unfolding_all rfl) (by with_unfolding_all rfl) (by decide) (by rfl) (by decide) (by rfl) (by rfl) (by rfl) ?_); k_steps)
              with_reducible rename Fr _ _ _ _ => F'
              with_reducible rename News _ _ _ _ => N'
              refine go_on (add_K F' N' (M₁.mono fun p hp => List.mem_cons_of_mem _ (List.mem_cons_of_mem _ hp)) (M₂.mono fun p hp => List.mem_cons_of_mem _ (List.mem_cons_of_mem _ hp)) (by have := f₁.len; have := f₂.len; omega) fun S₅ h' F' hx => ?_)
              refine hide_goal fun Cz hCz => ?_
              obtain ⟨o₅, N', M₅, off₅⟩ := hx
              refine hCz ?_
              clear hCz
              clear Cz
              k_steps
              replace M₁ := lift3 N' M₁
              replace M₂ := lift3 N' M₂
              generalize (S₅, o₅) :: _ = E₅ at N' M₅ M₁ M₂
              refine hide_goal fun Cz hCz => ?_
              obtain ⟨⟨vs, n, hvs, hfs⟩, hok, hsh⟩ := M₅
              refine hCz ?_
              clear hCz
              clear Cz
              refine go_on (LCg.CompSrc.ledger rfl F' N' hvs (by rw [List.size_toArray, hfs.length, sizeLine_eq]; exact Nat.le_trans hsh (by decide)) ?_)
              intro g
              refine comp_ind (Inv := fun i ys news => (∀ p ∈ E₅, p ∈ news) ∧ ToldIn news ys ((g₁ ++ g₂).take i)) _ ?_ ?_ _ 0 [] _ (Nat.zero_add _) ⟨fun _ h => h, .nil⟩
              · rintro i ys news v I oI C oC D' m₂ h tk E' hi ⟨hsb, hys⟩ hvi hC hx F' N' off ne
                rw [List.getElem?_toArray] at hvi
                refine hide_goal fun Cz hCz => ?_
                obtain ⟨x, n, r, rfl, hfi, hfx⟩ := hfs.getV hvi
                refine hCz ?_
                clear hCz
                clear Cz
                have hfa : FieldAt h x n r := hfx.at fun p hp => N' p (List.mem_cons_of_mem _ (List.mem_cons_of_mem _ (List.mem_cons_of_mem _ (hsb p hp))))
                k_steps
                refine go_on ?_
                with_reducible rename Fr _ _ _ _ => F'
                with_reducible rename News _ _ _ _ => N'
                with_reducible rename Wd _ _ _ _ _ => X'
                with_reducible rename Room _ _ => r'
                refine' told_spec (X'.grow F'.keep) (r'.mono (by decide)) ?fl ?_
                case fl => assumption
                intro a' h₉ tk₉ tn₉ tr₉ x₉
                have F₉ := x₉.fr F'
                have N₉ := x₉.news F' N'
                have z := x₉.off N'
                try simp only [List.forall_mem_cons, List.forall_mem_nil, and_true] at z
                dsimp only [tupO] at N₉
                k_steps
                with_reducible rename Fr _ _ _ _ => F'
                with_reducible rename News _ _ _ _ => N'
                exact told_end F' N' off ⟨z.1, z.2.1, z.2.2.1⟩ hvs rfl ⟨_, rfl⟩ hfi hsb hys
              · rintro ys news ⟨hsb, hys⟩
                rw [show List.take vs.toArray.size (g₁ ++ g₂) = g₁ ++ g₂ from by rw [List.size_toArray, hfs.length, List.take_length]] at hys
                unfold LCg.FinA
                intro To h' tk F' N' off
                k_steps
                with_reducible rename Fr _ _ _ _ => F'
                with_reducible rename News _ _ _ _ => N'
                with_reducible rename Wd _ _ _ _ _ => X
                refine go_on (read_spans_1 (t2 := 0) (t3 := 0) (X.grow F'.keep) (room_caller.mono (by decide)) (Nat.zero_le _) (by simp only [List.length_append, List.length_cons, List.length_nil]; omega) fun a' h' tk' vs' rs' ents' P' nn' pl' tp' sp' si' vl' pz' m1' m2' x' => ?_)
                obtain ⟨rfl, rfl⟩ := spans_whole f₁ f₂ sp'
                refine hide_goal fun Cz hCz => ?_
                obtain ⟨G, F', N', hP, hsi, hsG⟩ := spans_pack F' N' m1' m2' si' x'
                refine hCz ?_
                clear hCz
                clear Cz
                dsimp only [tupO] at N'
                clear m1' m2' si' x'
                k_steps
                (refine go_on ?_; k_dflt (refine LCg.ListComp_U (F₀ := by k_asm) (by with_unfolding_all rfl) (by decide) (by rfl) (by decide) (by rfl) ?_); k_steps)
                with_reducible rename Fr _ _ _ _ => F'
                with_reducible rename News _ _ _ _ => N'
                replace N' := news_tl N'
                have hsz : vs'.length = (g₁ ++ g₂).length := by rw [hsi.length, marks_length]
                refine go_on (LCg.CompSrc.ledger rfl F' N' hP (by rw [List.size_toArray, hsz, sizeLine_eq]; omega) ?_)
                intro g
                refine comp_ind (Inv := fun i ys news => (∀ p ∈ G, p ∈ news) ∧ ToldIn news ys ((g₁ ++ g₂).take i)) _ ?_ ?_ _ 0 [] _ (Nat.zero_add _) ⟨fun _ h => h, .nil⟩
                · rintro i ys news v I oI C oC D' m₂ h tk E' hi ⟨hsb, hys⟩ hvi hC hx F' N' off ne
                  rw [List.getElem?_toArray] at hvi
                  refine hide_goal fun Cz hCz => ?_
                  obtain ⟨t, x, ti, tb, n, r, a, b, rfl, hrs, hmem, hfx⟩ := hsi.getV hvi
                  refine hCz ?_
                  clear hCz
                  clear Cz
                  obtain ⟨hfi, -, -⟩ := marks_get _ _ _ _ _ _ hrs
                  have hfa : FieldAt h x n r := hfx.at fun p hp => N' p (List.mem_cons_of_mem _ (List.mem_cons_of_mem _ (List.mem_cons_of_mem _ (hsb p hp))))
                  have N'' : News _ _ h ((t, tupO [.ref x, .int (a : Nat) ti, .int (b : Nat) tb]) :: _) := fun p hp => by
                    rcases List.mem_cons.1 hp with rfl | hp
                    · exact N' _ (List.mem_cons_of_mem _ (List.mem_cons_of_mem _ (List.mem_cons_of_mem _ (hsb _ hmem))))
                    · exact N' _ hp
                  dsimp only [tupO] at N''
                  k_steps
                  refine go_on ?_
                  with_reducible rename Fr _ _ _ _ => F'
                  with_reducible rename News _ _ _ _ => N'
                  with_reducible rename Wd _ _ _ _ _ => X'
                  with_reducible rename Room _ _ => r'
                  refine' told_spec (X'.grow F'.keep) (r'.mono (by decide)) ?fl ?_
                  case fl => assumption
                  intro a' h₉ tk₉ tn₉ tr₉ x₉
                  have F₉ := x₉.fr F'
                  have N₉ := x₉.news F' N'
                  have z := x₉.off N'
                  try simp only [List.forall_mem_cons, List.forall_mem_nil, and_true] at z
                  dsimp only [tupO] at N₉
                  k_steps
                  with_reducible rename Fr _ _ _ _ => F'
                  with_reducible rename News _ _ _ _ => N'
                  exact told_end F' (news_skip N') off ⟨z.2.1, z.2.2.1, z.2.2.2.1⟩ hP rfl ⟨_, rfl⟩ hfi hsb hys
                · rintro ys' news' ⟨hsb', hys'⟩
                  rw [show List.take vs'.toArray.size (g₁ ++ g₂) = g₁ ++ g₂ from by rw [List.size_toArray, hsz, List.take_length]] at hys'
                  unfold LCg.FinE
                  intro To' h' tk F' N' off'
                  k_steps
                  refine go_on (ne_told N' (News.isList N' (List.mem_cons_self ..)) (News.isList N' (List.mem_cons_of_mem _ (hsb' _ (hsG _ (List.mem_cons_self ..))))) (hys'.mono fun p hp => List.mem_cons_of_mem _ hp) (hys.mono fun p hp => List.mem_cons_of_mem _ (hsb' _ (hsG _ (List.mem_cons_of_mem _ hp)))) units_caller ?_)
                  rw [decide_eq_true rfl, Bool.not_true]
                  have up : ∀ p ∈ G, p ∈ (To', LCg.lst ys') :: news' := fun p hp => List.mem_cons_of_mem _ (hsb' p hp)
                  have hTo := up _ (hsG _ (List.mem_cons_self ..))
                  replace hys := hys.mono fun p hp => up _ (hsG _ (List.mem_cons_of_mem _ hp))
                  replace M₁ := M₁.mono fun p hp => up _ (hsG _ (List.mem_cons_of_mem _ (hsb p hp)))
                  replace hsi := hsi.mono up
                  replace hP := up _ hP
                  clear hys' hsb' hsG hsb off' up
                  generalize (To', LCg.lst ys') :: news' = H at N' hTo hys M₁ hsi hP
                  k_steps
                  refine go_on ?_
                  with_reducible rename Fr _ _ _ _ => lF'
                  refine For_turns lF' ?_
                  k_steps
                  with_reducible rename Fr _ _ _ _ => F'
                  with_reducible rename News _ _ _ _ => N'
                  refine go_on (iter_listT (vs := vs') (news := H) (fun i m nx => nx = H ∧ (∃ ta, m (Str.ofString "at") = some (.int ((written ((g₁ ++ g₂).take i)).length : Nat) ta)) ∧ (∃ tw, m (Str.ofString "whole") = some (.bytes (written g₁ ++ written g₂).toArray tw)) ∧ (∃ tf, m (Str.ofString "first") = some (.bytes (written g₁).toArray tf)) ∧ m (Str.ofString "told") = some (.ref To) ∧ m (Str.ofString "some") = some (.ref A₁)) rfl (News.isList N' hP) (N' _ hP).2.1 F' N' ⟨rfl, ⟨_, rfl⟩, ⟨_, rfl⟩, ⟨_, rfl⟩, rfl, rfl⟩ ?_ ?_)
                  · clear F' N'
                    rintro i v m₁ nx h tk own hv hJz
                    refine hide_goal fun Cz hCz => ?_
                    obtain ⟨rfl, ⟨ta, e1⟩, ⟨tw, e2⟩, ⟨tf, e3⟩, e4, e5⟩ := hJz
                    refine hCz ?_
                    clear hCz
                    clear Cz
                    rintro F' N'
                    replace F' := rd1 (x := Str.ofString "at") F' (fun _ => rfl) e1
                    replace F' := rd1 (x := Str.ofString "whole") F'.1 F'.2 e2
                    replace F' := rd1 (x := Str.ofString "first") F'.1 F'.2 e3
                    replace F' := rd1 (x := Str.ofString "told") F'.1 F'.2 e4
                    replace F' := (rd1 (x := Str.ofString "some") F'.1 F'.2 e5).1
                    refine hide_goal fun Cz hCz => ?_
                    obtain ⟨t, x, ti, tb, n, r, a, b, rfl, hrs, hmem, hfx⟩ := hsi.getV hv
                    refine hCz ?_
                    clear hCz
                    clear Cz
                    obtain ⟨hfi, ha, hb⟩ := marks_get _ _ _ _ _ _ hrs
                    rw [Nat.zero_add] at ha
                    subst ha
                    have hcut : cut (written g₁ ++ written g₂) (some ((written ((g₁ ++ g₂).take i)).length : Nat)) (some (b : Nat)) = rowOf (n, r) := by
                      obtain ⟨p1, p2⟩ := part_written hfi
                      rw [← written_append, hb, cut_part rfl rfl p2 (by omega), p1]
                    have hat := written_take hfi
                    obtain ⟨hok1, hso1⟩ := Fine.get f₁ f₂ hfi
                    have hb' : b = (written ((g₁ ++ g₂).take (i + 1))).length := by rw [hat, List.length_append]; exact hb
                    have N'' : News _ _ h ((t, tupO [.ref x, .int ((written ((g₁ ++ g₂).take i)).length : Nat) ti, .int (b : Nat) tb]) :: (nx ++ own)) := fun p hp => by
                      rcases List.mem_cons.1 hp with rfl | hp
                      · exact N' _ (List.mem_append_left _ hmem)
                      · exact N' _ hp
                    dsimp only [tupO] at N''
                    replace hfx := hfx.mono fun p hp => List.mem_append_left own hp
                    obtain ⟨G', hG'⟩ : ∃ G', G' = nx ++ own := ⟨_, rfl⟩
                    rw [← hG'] at N'' hfx
                    clear N'
                    k_steps
                    with_reducible rename Fr _ _ _ _ => F'
                    with_reducible rename News _ _ _ _ => N'
                    refine go_on (write_K (by assumption) (room_caller.mono (by decide)) F' N' (FList.one hfx (fun p hp => List.mem_cons_of_mem _ (List.mem_cons_of_mem _ hp)) hok1 (List.mem_cons_self ..)) (fun f hf => by rw [List.mem_singleton.1 hf]; exact hso1) fun h' tk t F' N' => ?_)
                    rw [written_one, hcut]
                    k_steps
                    with_reducible rename Fr _ _ _ _ => F'
                    with_reducible rename News _ _ _ _ => N'
                    subst hG'
                    exact ⟨_, _, _, _, nx, rfl, F', N', (fun p hp => List.mem_cons_of_mem _ (List.mem_cons_of_mem _ (List.mem_append_left _ hp))), (fun p hp => List.mem_cons_of_mem _ (List.mem_cons_of_mem _ (List.mem_append_right _ hp))), rfl, rfl, ⟨_, by rw [← hb']; rfl⟩, ⟨_, rfl⟩, ⟨_, rfl⟩, rfl, rfl⟩
                  · clear F' N'
                    rintro m₁ nx h tk hJz
                    refine hide_goal fun Cz hCz => ?_
                    obtain ⟨rfl, ⟨ta, e1⟩, ⟨tw, e2⟩, ⟨tf, e3⟩, e4, e5⟩ := hJz
                    refine hCz ?_
                    clear hCz
                    clear Cz
                    rintro F' N'
                    rw [hsz, List.take_length, written_append] at e1
                    replace F' := rd1 (x := Str.ofString "at") F' (fun _ => rfl) e1
                    replace F' := rd1 (x := Str.ofString "whole") F'.1 F'.2 e2
                    replace F' := rd1 (x := Str.ofString "first") F'.1 F'.2 e3
                    replace F' := rd1 (x := Str.ofString "told") F'.1 F'.2 e4
                    replace F' := (rd1 (x := Str.ofString "some") F'.1 F'.2 e5).1
                    k_steps
                    with_reducible rename Fr _ _ _ _ => F'
                    with_reducible rename Wd _ _ _ _ _ => X
                    refine go_on (read_fields_spec (i₀ := (written g₁).length) (X.grow F'.keep) (room_caller.mono (by decide)) (by rw [List.length_append]; omega) (by rw [List.length_append]; omega) fun a' h' tk' ys₂' rs' ents' P₂ nn₂ pl' tp' sp' si' vl' m1' m2' x' => ?_)
                    obtain ⟨rfl, rfl⟩ := spans_rest f₂ sp'
                    rw [marks_fst] at si'
                    refine hide_goal fun Cz hCz => ?_
                    obtain ⟨G₂, F', N', hP₂, hfs₂, hsG⟩ := fields_pack F' N' m1' m2' si' x'
                    refine hCz ?_
                    clear hCz
                    clear Cz
                    dsimp only [tupO] at N'
                    clear m1' m2' si' x'
                    k_steps
                    (refine go_on ?_; k_dflt (refine LCg.ListComp_U (F₀ := by k_asm) (by with_unfolding_all rfl) (by decide) (by rfl) (by decide) (by rfl) ?_); k_steps)
                    with_reducible rename Fr _ _ _ _ => F'
                    with_reducible rename News _ _ _ _ => N'
                    replace N' := news_tl N'
                    refine go_on (LCg.CompSrc.ledger rfl F' N' hP₂ (by have := f₂.len; rw [List.size_toArray, hfs₂.length, sizeLine_eq]; omega) ?_)
                    intro g
                    refine comp_ind (Inv := fun i ys news => (∀ p ∈ G₂, p ∈ news) ∧ ToldIn news ys (g₂.take i)) _ ?_ ?_ _ 0 [] _ (Nat.zero_add _) ⟨fun _ h => h, .nil⟩
                    · rintro i ys news v I oI C oC D' m₂ h tk E' hi ⟨hsb, hys⟩ hvi hC hx F' N' off ne
                      rw [List.getElem?_toArray] at hvi
                      refine hide_goal fun Cz hCz => ?_
                      obtain ⟨x, n, r, rfl, hfi, hfx⟩ := hfs₂.getV hvi
                      refine hCz ?_
                      clear hCz
                      clear Cz
                      have hfa : FieldAt h x n r := hfx.at fun p hp => N' p (List.mem_cons_of_mem _ (List.mem_cons_of_mem _ (List.mem_cons_of_mem _ (hsb p hp))))
                      k_steps
                      refine go_on ?_
                      with_reducible rename Fr _ _ _ _ => F'
                      with_reducible rename News _ _ _ _ => N'
                      with_reducible rename Wd _ _ _ _ _ => X'
                      with_reducible rename Room _ _ => r'
                      refine' told_spec (X'.grow F'.keep) (r'.mono (by decide)) ?fl ?_
                      case fl => assumption
                      intro a' h₉ tk₉ tn₉ tr₉ x₉
                      have F₉ := x₉.fr F'
                      have N₉ := x₉.news F' N'
                      have z := x₉.off N'
                      try simp only [List.forall_mem_cons, List.forall_mem_nil, and_true] at z
                      dsimp only [tupO] at N₉
                      k_steps
                      with_reducible rename Fr _ _ _ _ => F'
                      with_reducible rename News _ _ _ _ => N'
                      exact told_end F' N' off ⟨z.1, z.2.1, z.2.2.1⟩ hP₂ rfl ⟨_, rfl⟩ hfi hsb hys
                    · rintro ys₃ news₃ ⟨hsb, hys₃⟩
                      rw [show List.take ys₂'.toArray.size g₂ = g₂ from by rw [List.size_toArray, hfs₂.length, List.take_length]] at hys₃
                      unfold LCg.FinE
                      intro T₃ h' tk F' N' off
                      refine hide_goal fun Cz hCz => ?_
                      obtain ⟨⟨vsA, nA, hA, hfA⟩, okA, shA⟩ := M₁
                      refine hCz ?_
                      clear hCz
                      clear Cz
                      have N'' : News _ _ _ ((A₁, listOf vsA.toArray nA) :: (T₃, LCg.lst ys₃) :: news₃) := fun p hp => by
                        rcases List.mem_cons.1 hp with rfl | hp
                        · exact N' _ (List.mem_cons_of_mem _ (hsb _ (hsG _ hA)))
                        · exact N' _ hp
                      clear N'
                      replace hTo := hsb _ (hsG _ hTo)
                      replace hys := hys.mono fun p hp => hsb _ (hsG p hp)
                      have hvA : vsA.length = g₁.length := hfA.length
                      have hvY : ys.length = (g₁ ++ g₂).length := hys.length
                      have hy' : ys.drop vsA.length = ys.drop g₁.length := by rw [hvA]
                      have hdrop : ToldIn news₃ (ys.drop vsA.length) g₂ := by
                        have := hys.drop g₁.length
                        rw [List.drop_left' rfl] at this
                        rwa [hy']
                      rw [List.length_append] at hvY
                      k_steps
                      with_reducible rename Fr _ _ _ _ => F'
                      with_reducible rename News _ _ _ _ => N'
                      refine go_on (kms_slice_lit (zs := ys.drop vsA.length) (its := ys.toArray) F' N' (News.isList N' (List.mem_cons_of_mem _ (List.mem_cons_of_mem _ hTo))) (by constructor) (by constructor) (kms_pick_from (l := ys) (show vsA.length ≤ ys.length by omega)) (fun Dn h' F' N' l1 => ?_) (by with_unfolding_all rfl) (fun _ => by with_unfolding_all rfl) ?_)
                      · k_steps
                        refine go_on (eq_told (xs := g₂) (ys := g₂) N' (News.isList N' (List.mem_cons_of_mem _ (List.mem_cons_of_mem _ (List.mem_cons_self ..)))) (News.isList N' (List.mem_cons_self ..)) (hys₃.mono fun p hp => List.mem_cons_of_mem _ (List.mem_cons_of_mem _ (List.mem_cons_of_mem _ hp))) (hdrop.mono fun p hp => List.mem_cons_of_mem _ (List.mem_cons_of_mem _ (List.mem_cons_of_mem _ hp))) units_caller ?_)
                        rw [decide_eq_true rfl]
                        k_steps
                      · have := f₁.len
                        have := f₂.len
                        rw [List.size_toArray, sizeLine_eq]
                        omega
end
end Mine
theorem PySem.Challenge.cw_or0033_01_holds : PySem.Challenge.rw_or0033_01.Holds := by
  exact Mine.law_top
