import PyProof.Rows.All
import Wide.All
import OpenK.AllK
import Wide.FinOn
import PyProof.Rows.SetFrom
import HandS.Strs
import HandS.SetKeys
import HandS.ForMost
import HandS.Flow
import HandS.Wide
import HandS.IsInst
import HandS.Exc
import HandS.ExcOwn
import HandS.Style
import HandS.ExcIs
import KE.DataEq
import HandS.DictComp
import HandS.More
import HandS.WideBits
import HandS.FStr
import HandS.List
import HandS.StrMore
import HandS.SetFor
import HandS.TryOnly
import HandS.Comp
import HandS.Small
import HandS.Defaults
import HandS.Words
import HandS.WordsExc
import HandS.Ends
import PyProof.Rows.StrCut
import HandS.Codes
import PySem.Challenge.RW_numbersay_k32_tongues_written
set_option Elab.async false
set_option maxRecDepth 100000
set_option maxHeartbeats 4000000
set_option linter.all false
/-! Rf, sets of texts: set(xs) of a list, as the machine makes it. -/
namespace Rf
open PySem PySem.Spec PyProof.Rows L2
/-- the texts met so far, each once -/
def addS (σ : List Str) (v : Str) : List Str := if (σ.any fun x => x == v) = true then σ else σ ++ [v]
def metS (xs : List Str) : List Str := xs.foldl addS []
theorem addS_any (σ : List Str) (v k : Str) : ((addS σ v).any fun x => x == k) = ((σ.any fun x => x == k) || decide (k = v)) := by
  unfold addS
  split
  · rename_i h
    by_cases e : k = v
    · subst e; simp [h]
    · simp [e]
  · by_cases e : k = v
    · subst e; simp
    · simp [e, Ne.symm e]
theorem addS_len (σ : List Str) (v : Str) : (addS σ v).length = if (σ.any fun x => x == v) = true then σ.length else σ.length + 1 := by
  unfold addS
  split <;> simp
theorem metS_take {xs : List Str} {i : Nat} (h : i < xs.length) : metS (xs.take (i + 1)) = addS (metS (xs.take i)) (xs.getD i Str.empty) := by
  unfold metS
  rw [List.take_succ, List.getElem?_eq_getElem h, List.foldl_append]
  simp [h]
theorem foldl_addS_le : ∀ (xs : List Str) (σ : List Str), (xs.foldl addS σ).length ≤ σ.length + xs.length
  | [], σ => by simp
  | x :: r, σ => by
    have := foldl_addS_le r (addS σ x)
    rw [addS_len] at this
    simp only [List.foldl_cons, List.length_cons]
    split at this <;> omega
theorem metS_le (xs : List Str) : (metS xs).length ≤ xs.length := by
  have := foldl_addS_le xs []
  simpa [metS] using this
section
variable {prog : Program} {w : World} {A : Around}
theorem set_loop {R : Result → Shared → Prop} {I : Addr} {fp wr : List Addr} {G : Array GenState → Array GenState → Prop} {n : Nat} {P : Nat → Value → Prop} {St : Nat → Shared → Prop}
    (W : WalksS prog w A.in1 I fp wr G n P St) (S : Addr) (hSf : ¬ S ∈ fp) (xs : List Str) (hx : xs.length = n) (hb : n + 1 < scanBound)
    (hv : ∀ (i : Nat) (v : Value), P i v → ∃ t, v = Value.str (xs.getD i Str.empty) t) :
    ∀ (k i : Nat) (s : Shared), n - i = k → i ≤ n → St i s →
      Heap.SetOf (PySem.strKind prog w) s.heap S (fun k' => (metS (xs.take i)).any fun x => x == k') (metS (xs.take i)).length →
      (∀ s' : Shared, Moved (S :: wr) G s s' → Heap.SetOf (PySem.strKind prog w) s'.heap S (fun k' => (metS xs).any fun x => x == k') (metS xs).length → R (Except.ok (Flow.ret Value.none)) s') →
      codeAny (model prog w) A (Code.builtin "set.update.loop" { pos := [Value.ref S, Value.ref I] }) R s := by
  have hSw : ¬ S ∈ wr := fun h => hSf (W.sub S h)
  have hsub : ∀ b, b ∈ wr → b ∈ S :: wr := fun b hb => List.mem_cons_of_mem S hb
  have hmove : ∀ {s s' : Shared} {f : Str → Bool} {m : Nat}, Moved wr G s s' → Heap.SetOf (PySem.strKind prog w) s.heap S f m → Heap.SetOf (PySem.strKind prog w) s'.heap S f m := by
    rintro s s' f m hm ⟨o, es, ep, t, ho, rest⟩
    exact ⟨o, es, ep, t, hm.heap S o hSw ho, rest⟩
  intro k
  induction k with
  | zero =>
    intro i s hk hi hst hS hR
    have hin : i = n := by omega
    subst hin
    rw [List.take_of_length_le (by omega)] at hS
    refine codeAny_builtin F.entry_set_update_loop ?_
    rw [Around.under_plainId F.plain_set_update_loop]
    exact wpAny_bind (W.done s _ _ hst fun s' hm => wpAny_pure (hR s' (hm.mono hsub) (hmove hm hS)))
  | succ k ih =>
    intro i s hk hi hst hS hR
    have hlt : i < n := by omega
    refine codeAny_builtin F.entry_set_update_loop ?_
    rw [Around.under_plainId F.plain_set_update_loop]
    refine wpAny_bind (W.item i s _ _ hlt hst fun v s' hP hst' hm => ?_)
    obtain ⟨t, rfl⟩ := hv i v hP
    have hS' := hmove hm hS
    refine wpAny_bind (wpAny_holding ?_)
    refine wpAny_holding (wpAny_bind ((PySem.strKind prog w).pyHash (strKind_is prog w (xs.getD i Str.empty) t) ?_))
    have hle := metS_le (xs.take i)
    rw [List.length_take] at hle
    refine wpAny_setAddHashed_of (knd := PySem.strKind prog w) (strKind_is prog w (xs.getD i Str.empty) t) rfl hS' (by omega) fun h' hsb hS2 => ?_
    have hSi : Heap.SetOf (PySem.strKind prog w) h' S (fun k' => (metS (xs.take (i + 1))).any fun x => x == k') (metS (xs.take (i + 1))).length :=
      SetOf_congr hS2 (fun k' => by rw [metS_take (by omega), addS_any]) (by rw [metS_take (by omega), addS_len])
    refine wpAny_pure ⟨plainId_quiet F.plain_set_update_loop _, ih (i + 1) _ (by omega) hlt ?_ hSi fun s'' hm'' hS'' => ?_⟩
    · exact W.frame (i + 1) s' h' _ hst' (Nat.le_succ _) fun b hb o e => by
        rw [hsb.right b fun h => hSf (h ▸ hb)]; exact e
    · refine hR s'' ?_ hS''
      refine Moved.trans W.gtrans ((hm.mono hsub).then_heap (Nat.le_succ _) fun b o hb e => ?_) hm''
      rw [hsb.right b fun h => hb (h ▸ List.mem_cons_self)]; exact e
end
end Rf

namespace Rf
open PySem PySem.Spec PyProof.Rows L2
section
variable {prog : Program} {w : World} {A : Around}
theorem call_setS {E : Value → Shared → Prop} {s : Shared} {l : Addr} {items : Array Value} {xs : List Str} {Q : Value → Shared → Prop}
    (hh : A.handled = none) (hl : s.heap.IsList l items) (hi : StrsAre items.toList xs) (hn : xs.length + 1 < scanBound)
    (h : ∀ (h' : Heap) (tk : Nat), Heap.SetOf (PySem.strKind prog w) h' s.heap.objs.size (fun k' => (metS xs).any fun x => x == k') (metS xs).length →
      (∀ (b : Nat) (o : Obj), b < s.heap.objs.size → s.heap.get? b = some o → h'.get? b = some o) →
      Q (Value.ref s.heap.objs.size) { heap := h', gens := s.gens, drawn := s.drawn, toks := tk, os := s.os }) :
    wpAny (model prog w) A (call (Value.type "set") [Value.ref l]) Q E s := by
  obtain ⟨c, tl, hmro⟩ := F.called_set.mro
  have hmade := F.called_set.made
  have hsub := F.called_set.sub
  refine wpAny_call (codeAny_of_tree ?_)
  refine wpAny_pure ⟨Code.quiet_builtin _ (by decide +kernel), codeAny_builtin F.entry_type_call ?_⟩
  rw [Around.under_plain (weight_type_call_type "set" [Value.ref l] []) rfl]
  have h1 := F.called_set.notType
  have h2 := F.called_set.canCreate
  have hct := F.typeCall_set_1 (Value.ref l)
  unfold Builtin.«type.__call__»
  refine wpAny_ite_false (by decide +kernel) ?_
  refine wpAny_ite_false (by decide +kernel) ?_
  refine wpAny_bind (wpAny_of_eq hct ?_)
  refine wpAny_bind (wpAny_of_eq hmro ?_)
  refine wpAny_ite_false (by rfl) ?_
  refine wpAny_bind (wpAny_of_eq hmade ?_)
  refine wpAny_bind (wpAny_pure ?_)
  refine wpAny_bind (wpAny_holding (wpAny_call (codeAny_mono (code_set_new_1 (E := E) (Q₁ := fun obj s₁ => ∃ led, obj = Value.ref s.heap.objs.size ∧ s₁ = { heap := s.heap.push { cls := Value.type "set", data := Data.set #[] 0 (SetTable.fresh 0 0 led) }, gens := s.gens, drawn := s.drawn, toks := s.toks, os := s.os }) (Value.ref l) fun led => ⟨led, rfl, rfl⟩) fun r s₁ hr => ?_)))
  match r, hr with
  | .ok (.ret v), hr =>
    obtain ⟨led, rfl, rfl⟩ := hr
    have hS := Heap.get?_push_size s.heap (o := { cls := Value.type "set", data := Data.set #[] 0 (SetTable.fresh 0 0 led) }) rfl
    have hT : ∃ o, (s.heap.push { cls := Value.type "set", data := Data.set #[] 0 (SetTable.fresh 0 0 led) }).get? s.heap.objs.size = some o ∧ o.cls = Value.type "set" := ⟨_, hS, rfl⟩
    have hli := F.called_set.init.lookup
    have hbi := F.called_set.init.bind (Value.ref s.heap.objs.size)
    refine wpAny_bind (wpAny_isInstance hT hsub (wpAny_ite_false (by rfl) (wpAny_bind (wpAny_holding ?_))))
    refine wpAny_bind (wpAny_specialOf hT hli (wpAny_holding (wpAny_bind (wpAny_of_eq hbi (wpAny_bind (wpAny_call (codeAny_mono
      (R := wants (fun r s₂ => r = Value.none ∧ ∃ h' tk, s₂ = { heap := h', gens := s.gens, drawn := s.drawn, toks := tk, os := s.os } ∧ Heap.SetOf (PySem.strKind prog w) h' s.heap.objs.size (fun k' => (metS xs).any fun x => x == k') (metS xs).length ∧ ∀ (b : Nat) (o : Obj), b < s.heap.objs.size → s.heap.get? b = some o → h'.get? b = some o) E)
      (codeAny_call_builtin F.called_set.init.plain F.entry_set_init (check_set_init_1 hT ?_)) ?_)))))))
    · obtain ⟨⟨ocls, odict, odata, oslots⟩, hol, hcl, nl, hdl⟩ := hl
      dsimp only at hcl hdl
      subst hcl hdl
      have hol' := Heap.get?_push_of_some { cls := Value.type "set", data := Data.set #[] 0 (SetTable.fresh 0 0 led) } hol
      have hsls := F.sub_list_set
      have hslf := F.sub_list_frozenset
      have hl1 : (s.heap.push { cls := Value.type "set", data := Data.set #[] 0 (SetTable.fresh 0 0 led) }).IsList l items := ⟨_, hol', rfl, nl, rfl⟩
      unfold Builtin.«set.__init__»
      refine wpAny_bind ?_
      unfold noKeywords
      refine wpAny_ite_true (by rfl) (wpAny_pure ?_)
      refine wpAny_bind ?_
      unfold typeNameOfCut
      refine wpAny_bind ?_
      unfold shownTypeOf
      refine wpAny_bind (wpAny_typeOf hT ?_)
      refine wpAny_ite_false (by rfl) (wpAny_pure ?_)
      refine wpAny_pure ?_
      refine wpAny_bind ?_
      unfold checkCount
      refine wpAny_ite_false (by rfl) ?_
      refine wpAny_ite_false (by rfl) ?_
      refine wpAny_ite_false (by rfl) (wpAny_pure ?_)
      refine wpAny_bind (wpAny_pure ?_)
      refine wpAny_bind ?_
      unfold setUsed
      refine wpAny_bind ?_
      unfold setState
      refine wpAny_bind (wpAny_load' hS ?_)
      refine wpAny_ite_false (by rfl) (wpAny_pure (wpAny_pure ?_))
      refine wpAny_ite_false (by rfl) ?_
      refine wpAny_bind ?_
      unfold Builtin.Frozenset.updateFrom
      refine wpAny_bind ?_
      unfold Builtin.Frozenset.isAnySet
      have hTl : ∃ o, (s.heap.push { cls := Value.type "set", data := Data.set #[] 0 (SetTable.fresh 0 0 led) }).get? l = some o ∧ o.cls = Value.type "list" := ⟨_, hol', rfl⟩
      refine wpAny_bind (wpAny_isInstance hTl hsls ?_)
      refine wpAny_isInstance hTl hslf ?_
      refine wpAny_ite_false (by rfl) ?_
      refine wpAny_bind (wpAny_typeOf hTl ?_)
      refine wpAny_ite_false (by rfl) ?_
      refine wpAny_bind (wpAny_pyIter_list hl1 ?_)
      refine wpAny_bind (wpAny_runValue ?_)
      have hlS := Heap.lt_size hol
      have hh3 : A.in1.in1.in1.handled = none := hh
      have hsz : xs.length = items.size := by rw [← hi.len_eq, Array.length_toList]
      refine set_loop (Walks.toS (Walks.list hh3 _ l ?_ items)) s.heap.objs.size ?_ xs hsz (by omega) (fun i v hv => SS.strs_at hi i v (by rw [Array.getElem?_toList]; exact hv)) (items.size - 0) 0 _ rfl (Nat.zero_le _) ?_ ?_ fun s' hm hS' => ?_
      · rw [Heap.size_push]; exact Nat.ne_of_lt (Nat.lt_succ_of_lt hlS)
      · rw [Heap.size_push]
        simp only [List.mem_cons, List.not_mem_nil, or_false, not_or]
        exact ⟨Nat.ne_of_lt (Nat.lt_succ_self _), Nat.ne_of_gt hlS⟩
      · exact ⟨⟨_, Heap.get?_push_size _ rfl, rfl, rfl⟩, hl1.push _⟩
      · have hget := Heap.get?_push_of_some { cls := Value.type "list_iterator", data := Data.fields #[Value.ref l, Value.int 0 0] } hS
        exact SetOf_congr (Obj.SetObjOf.setOf (setObjOf_fresh led) hget (by decide)) (fun x => rfl) rfl
      · obtain ⟨h', g', d', tk', os'⟩ := s'
        obtain ⟨hm1, eg, ed, eo, _⟩ := hm
        dsimp only at eg ed eo
        subst eg ed eo
        refine wpAny_pure (wpAny_pure ⟨rfl, h', tk', rfl, hS', fun b o hb e => ?_⟩)
        refine hm1 b o ?_ (Heap.get?_push_of_some _ (Heap.get?_push_of_some _ e))
        rw [Heap.size_push]
        simp only [List.mem_cons, List.not_mem_nil, or_false, not_or]
        exact ⟨Nat.ne_of_lt hb, Nat.ne_of_lt (Nat.lt_succ_of_lt hb)⟩
    · intro r₂ s₂ hr₂
      match r₂, hr₂ with
      | .ok (.ret v), hr₂ =>
        obtain ⟨rfl, h', tk, rfl, hS2, hk⟩ := hr₂
        refine wpAny_pure ?_
        refine wpAny_ite_false (by rfl) ?_
        exact wpAny_pure (h h' tk hS2 hk)
      | .error e, hr₂ => exact hr₂
  | .error e, hr => exact hr
end
end Rf

namespace Rf
open PySem PySem.Spec PyProof.Rows L2
def tLenS (K : PySem.W.Frag) (ta : TE) : TE := fun σ H Q => ta σ H fun x H1 => ∃ l, ∃ xs : List Str, x = V.ref l ∧ SqL K H1 l (xs.map V.str) ∧ xs.length ≤ 1000 ∧ Q (V.int (metS xs).length) H1
theorem pe_lenSetS {X : Cx} {a : Expr} {ta : TE} {p p2 q pos : Pos} (hc : X.calm = true) (hg : Gl X (Str.ofString "len")) (hm : X.mg (Str.ofString "len") = none) (hg2 : Gl X (Str.ofString "set")) (hm2 : X.mg (Str.ofString "set") = none)
    (ha : PE X a ta) (na : starEach [a] X.env = (false, eval a X.env) :: starEach [] X.env := by rfl) :
    PE X ((Expr.Name (Str.ofString "len") p).Call [(Expr.Name (Str.ofString "set") p2).Call [a] [] q] [] pos) (tLenS X.K ta) where
  run := fun pins s σ H Q I h => by
    refine Call_ (ld_blt I hg hm boot_len (callWith_builtin1 (args_cons (Call_ (ld_blt I hg2 hm2 boot_set (callWith_type1 (args_cons (thn (ha.run pins s σ H _ I h) ?_) na) na rfl))))))
    rintro v s1 ⟨x, H1, I1, r1, l, xs, rfl, hq, h1, q1⟩
    refine args_nil ?_
    cases r1
    obtain ⟨its, r, pl, hz⟩ := Inv.list I1 hq
    refine call_setS (I1.ok.hd hc) pl.isList (strsAre_of r) (Nat.lt_of_le_of_lt (Nat.succ_le_succ h1) (by decide)) fun h' tk hS hk => ?_
    obtain ⟨o, es, ep, t, ho, hex, hd, he1, he2, he3, he4, he5⟩ := hS
    refine args_nil ?_
    refine call_len_set ho hex hd he4 ?_ ?_
    · have : scanBound < 2 ^ 63 := by decide
      omega
    · refine ⟨V.int (metS xs).length, H1, ?_, ?_, q1⟩
      · exact I1.kept (fun b u e => hk b u (Heap.lt_size e) e)
      · rw [he5]; exact ⟨_, rfl⟩
end Rf

/-! Rf, part A: data as trees, the store, how both lie in the abstract heap. -/
namespace Rf
open PySem PySem.Spec PyProof.Rows L2

inductive D where
  | non | bl (b : Bool) | int (i : Int) | str (x : Str)
  | lst (xs : List D) | tup (xs : List D) | dct (t : Bool) (kvs : List (D × D))
  | ins (c : Nat) (fs : List (Nat × D)) | exc (c : Nat)
  /-- a list, a tuple that may be the module's own: read only -/
  | ro (xs : List D) | rt (xs : List D)
inductive W where
  | t (d : D) | loc (n : Nat)
inductive Ob where
  | lst (xs : List D) | dct (t : Bool) (kvs : List (D × D)) | ins (c : Nat) (fs : List (Nat × D))
abbrev Store := List (Option Ob)
inductive Res (α : Type) where
  | ok (a : α) (S : Store) | exc (c : Nat) (S : Store) | bad
abbrev Env' := List (Option W)

def bnd {α β : Type} (r : Res α) (f : α → Store → Res β) : Res β := match r with
  | .ok a S => f a S
  | .exc c S => .exc c S
  | .bad => .bad
def get (S : Store) (n : Nat) : Option Ob := (S[n]?).getD none

/-- an exception object that is held -/
def ExH (c : Value) (a : Addr) : HO := .ext fun h => ∃ (oe : Obj) (vs : Array Value), h.get? a = some oe ∧ Zc c none oe ∧ oe.data = .fields vs

/-- where the classes stand, what the fields' numbers are called -/
structure Nm where
  cl : Nat → Addr
  fn : Nat → Str
  inj : ∀ i j, fn i = fn j → i = j
def keyD : Key → D
  | .inl i => .int i
  | .inr x => .str x

section
variable (K : PySem.W.Frag) (cl : Nm)
mutual
inductive Den (H : Hp) : V → D → Prop
  | non : Den H .non .non
  | bl (b : Bool) : Den H (.bl b) (.bl b)
  | int (i : Int) : Den H (.int i) (.int i)
  | str (x : Str) : Den H (.str x) (.str x)
  | lst {a : Addr} {vs : List V} {ds : List D} : Rd H a (.lst vs) → Dens H vs ds → Den H (.ref a) (.lst ds)
  | ro {a : Addr} {vs : List V} {ds : List D} : SqL K H a vs → Dens H vs ds → Den H (.ref a) (.ro ds)
  | tup {a : Addr} {vs : List V} {ds : List D} : H a = some (.tup vs) → Dens H vs ds → Den H (.ref a) (.tup ds)
  | rt {a : Addr} {vs : List V} {ds : List D} : SqT K H a vs → Dens H vs ds → Den H (.ref a) (.rt ds)
  | dK {a : Addr} {es : List (Key × V)} {ds : List (D × D)} : H a = some (.dK es) → DenK H es ds → Den H (.ref a) (.dct false ds)
  | dT {a : Addr} {es : List (List Key × V)} {ds : List (D × D)} : H a = some (.dT es) → DenT H es ds → Den H (.ref a) (.dct true ds)
  | ins {a dx : Addr} {c : Nat} {es : List (Str × V)} {ds : List (Nat × D)} : H a = some (.ins (cl.cl c) dx es) → DenF H es ds → Den H (.ref a) (.ins c ds)
  | exc {a : Addr} {c : Nat} : H a = some (ExH (.ref (cl.cl c)) a) → Den H (.ref a) (.exc c)
inductive Dens (H : Hp) : List V → List D → Prop
  | nil : Dens H [] []
  | cons {v : V} {vs : List V} {d : D} {ds : List D} : Den H v d → Dens H vs ds → Dens H (v :: vs) (d :: ds)
inductive DenF (H : Hp) : List (Str × V) → List (Nat × D) → Prop
  | nil : DenF H [] []
  | cons {f : Nat} {v : V} {vs : List (Str × V)} {d : D} {ds : List (Nat × D)} : Den H v d → DenF H vs ds → DenF H ((cl.fn f, v) :: vs) ((f, d) :: ds)
inductive DenK (H : Hp) : List (Key × V) → List (D × D) → Prop
  | nil : DenK H [] []
  | cons {k : Key} {v : V} {vs : List (Key × V)} {d : D} {ds : List (D × D)} : Den H v d → DenK H vs ds → DenK H ((k, v) :: vs) ((keyD k, d) :: ds)
inductive DenT (H : Hp) : List (List Key × V) → List (D × D) → Prop
  | nil : DenT H [] []
  | cons {k : List Key} {v : V} {vs : List (List Key × V)} {d : D} {ds : List (D × D)} : Den H v d → DenT H vs ds → DenT H ((k, v) :: vs) ((.tup (k.map keyD), d) :: ds)
end
end

section
variable {K : PySem.W.Frag} {cl : Nm} {H H' : Hp}
theorem same_rd (e : Same H H') {a : Addr} {u : HO} (h : Rd H a u) : Rd H' a u := by
  rcases h with h | ⟨o, h⟩
  · exact .inl (e _ _ h)
  · exact .inr ⟨o, e _ _ h⟩
theorem same_seqT (e : Same H H') {a : Addr} {xs : List V} (h : SqT K H a xs) : SqT K H' a xs := by
  rcases h with (h | ⟨o, h⟩) | h
  · exact .inl (.inl (e _ _ h))
  · exact .inl (.inr ⟨o, e _ _ h⟩)
  · exact .inr h
theorem Den.mono (s : Same H H') {v : V} {d : D} (h : Den K cl H v d) : Den K cl H' v d :=
  Den.rec (motive_1 := fun v d _ => Den K cl H' v d) (motive_2 := fun v d _ => Dens K cl H' v d) (motive_3 := fun v d _ => DenF K cl H' v d) (motive_4 := fun v d _ => DenK K cl H' v d) (motive_5 := fun v d _ => DenT K cl H' v d)
    .non .bl .int .str (fun h _ i => .lst (same_rd s h) i) (fun h _ i => .ro (s.seq h) i) (fun h _ i => .tup (s _ _ h) i) (fun h _ i => .rt (same_seqT s h) i) (fun h _ i => .dK (s _ _ h) i) (fun h _ i => .dT (s _ _ h) i) (fun h _ i => .ins (s _ _ h) i) (fun h => .exc (s _ _ h))
    .nil (fun _ _ i j => .cons i j) .nil (fun _ _ i j => .cons i j) .nil (fun _ _ i j => .cons i j) .nil (fun _ _ i j => .cons i j) h
theorem Dens.mono (s : Same H H') : ∀ {v : List V} {d : List D}, Dens K cl H v d → Dens K cl H' v d
  | _, _, .nil => .nil
  | _, _, .cons h r => .cons (h.mono s) (r.mono s)
theorem DenF.mono (s : Same H H') : ∀ {v : List (Str × V)} {d : List (Nat × D)}, DenF K cl H v d → DenF K cl H' v d
  | _, _, .nil => .nil
  | _, _, .cons h r => .cons (h.mono s) (r.mono s)
theorem DenK.mono (s : Same H H') : ∀ {v : List (Key × V)} {d : List (D × D)}, DenK K cl H v d → DenK K cl H' v d
  | _, _, .nil => .nil
  | _, _, .cons h r => .cons (h.mono s) (r.mono s)
theorem DenT.mono (s : Same H H') : ∀ {v : List (List Key × V)} {d : List (D × D)}, DenT K cl H v d → DenT K cl H' v d
  | _, _, .nil => .nil
  | _, _, .cons h r => .cons (h.mono s) (r.mono s)
theorem Dens.length : ∀ {v : List V} {d : List D}, Dens K cl H v d → v.length = d.length
  | _, _, .nil => rfl
  | _, _, .cons _ r => congrArg (· + 1) r.length
theorem Dens.append : ∀ {v v' : List V} {d d' : List D}, Dens K cl H v d → Dens K cl H v' d' → Dens K cl H (v ++ v') (d ++ d')
  | _, _, _, _, .nil, s => s
  | _, _, _, _, .cons h r, s => .cons h (r.append s)
theorem Dens.get : ∀ {v : List V} {d : List D} {i : Nat} {x : D}, Dens K cl H v d → d[i]? = some x → ∃ y, v[i]? = some y ∧ Den K cl H y x
  | _, _, _, _, .nil, e => by simp at e
  | _, _, 0, _, .cons h _, e => by simp at e; subst e; exact ⟨_, rfl, h⟩
  | _, _, i + 1, x, .cons _ r, e => by
    obtain ⟨y, h1, h2⟩ := r.get (i := i) (x := x) (by simpa using e)
    exact ⟨y, by simpa using h1, h2⟩
theorem Dens.set {y : V} {x : D} (q : Den K cl H y x) : ∀ {v : List V} {d : List D} (i : Nat), Dens K cl H v d → Dens K cl H (v.set i y) (d.set i x)
  | _, _, _, .nil => .nil
  | _, _, 0, .cons _ r => .cons q r
  | _, _, i + 1, .cons h r => .cons h (r.set q i)
theorem Dens.take : ∀ {v : List V} {d : List D} (n : Nat), Dens K cl H v d → Dens K cl H (v.take n) (d.take n)
  | _, _, 0, _ => .nil
  | _, _, _ + 1, .nil => .nil
  | _, _, n + 1, .cons h r => .cons h (r.take n)
theorem Dens.drop : ∀ {v : List V} {d : List D} (n : Nat), Dens K cl H v d → Dens K cl H (v.drop n) (d.drop n)
  | _, _, 0, r => r
  | _, _, _ + 1, .nil => .nil
  | _, _, n + 1, .cons _ r => r.drop n
theorem Dens.dropLast : ∀ {v : List V} {d : List D}, Dens K cl H v d → Dens K cl H v.dropLast d.dropLast
  | _, _, .nil => .nil
  | _, _, .cons _ .nil => .nil
  | _, _, .cons h (.cons h' r) => .cons h (Dens.dropLast (.cons h' r))
theorem Dens.reverse {v : List V} {d : List D} (h : Dens K cl H v d) : Dens K cl H v.reverse d.reverse := by
  induction v generalizing d with
  | nil => cases h; exact .nil
  | cons x v ih =>
    cases h with
    | cons h r =>
      rw [List.reverse_cons, List.reverse_cons]
      exact (ih r).append (.cons h .nil)
theorem DenF.look : ∀ {v : List (Str × V)} {d : List (Nat × D)} {f : Nat}, DenF K cl H v d → (∀ x, d.lookup f = some x → ∃ y, v.lookup (cl.fn f) = some y ∧ Den K cl H y x) ∧ (d.lookup f = none → v.lookup (cl.fn f) = none)
  | _, _, _, .nil => ⟨fun _ e => by simp at e, fun _ => rfl⟩
  | _, _, f, .cons (f := g) (v := y) (d := x) h r => by
    obtain ⟨i1, i2⟩ := r.look (f := f)
    rw [List.lookup_cons, List.lookup_cons]
    by_cases q : f = g
    · subst q
      have e1 : (f == f) = true := by simp
      have e2 : (cl.fn f == cl.fn f) = true := by simp
      rw [e1, e2]
      exact ⟨fun z e => by cases e; exact ⟨_, rfl, h⟩, fun e => by cases e⟩
    · have e1 : (f == g) = false := by simp [q]
      have e2 : (cl.fn f == cl.fn g) = false := by
        cases e : cl.fn f == cl.fn g with
        | false => rfl
        | true => exact absurd (cl.inj _ _ (by simpa using e)) q
      rw [e1, e2]
      exact ⟨i1, i2⟩
theorem DenF.length : ∀ {v : List (Str × V)} {d : List (Nat × D)}, DenF K cl H v d → v.length = d.length
  | _, _, .nil => rfl
  | _, _, .cons _ r => congrArg (· + 1) r.length
def putFD (f : Nat) (v : D) : List (Nat × D) → List (Nat × D)
  | [] => [(f, v)]
  | (g, w) :: r => if g = f then (g, v) :: r else (g, w) :: putFD f v r
theorem DenF.put {f : Nat} {y : V} {x : D} (q : Den K cl H y x) : ∀ {v : List (Str × V)} {d : List (Nat × D)}, DenF K cl H v d → DenF K cl H (putF (cl.fn f) y v) (putFD f x d)
  | _, _, .nil => .cons q .nil
  | _, _, .cons (f := g) h r => by
    simp only [putF, putFD]
    by_cases e : g = f
    · subst e; rw [if_pos rfl, if_pos rfl]; exact .cons q r
    · rw [if_neg e, if_neg (fun z => e (cl.inj _ _ z))]; exact .cons h (r.put q)
end
end Rf
namespace Rf
open PySem PySem.Spec PyProof.Rows L2
/-! ### the store in the heap -/
section
variable (K : PySem.W.Frag) (cl : Nm)
def DenW (Sh : Hp) (μ : List Addr) (v : V) : W → Prop
  | .t d => Den K cl Sh v d
  | .loc n => ∃ a, μ[n]? = some a ∧ v = .ref a
inductive DenWs (Sh : Hp) (μ : List Addr) : List V → List W → Prop
  | nil : DenWs Sh μ [] []
  | cons {v : V} {vs : List V} {w : W} {ws : List W} : DenW K cl Sh μ v w → DenWs Sh μ vs ws → DenWs Sh μ (v :: vs) (w :: ws)
def ObAt (Sh H : Hp) (a : Addr) : Ob → Prop
  | .lst ds => ∃ vs, H a = some (.lst vs) ∧ Dens K cl Sh vs ds
  | .dct false ds => ∃ es, H a = some (.dK es) ∧ DenK K cl Sh es ds
  | .dct true ds => ∃ es, H a = some (.dT es) ∧ DenT K cl Sh es ds
  | .ins c ds => ∃ dx es, H a = some (.ins (cl.cl c) dx es) ∧ DenF K cl Sh es ds
structure Rel (Sh H : Hp) (μ : List Addr) (S : Store) : Prop where
  sub : Same Sh H
  len : μ.length = S.length
  inj : ∀ (i j : Nat) (a : Addr) (o u : Ob), μ[i]? = some a → μ[j]? = some a → get S i = some o → get S j = some u → i = j
  obj : ∀ (n : Nat) (o : Ob), get S n = some o → ∃ a, μ[n]? = some a ∧ Sh a = none ∧ ObAt K cl Sh H a o
structure DenE (Sh : Hp) (μ : List Addr) (σ : L2.St) (ρ : Env') : Prop where
  len : σ.length = ρ.length
  get : ∀ (i : Nat) (w : W), ρ[i]? = some (some w) → ∃ v, σ[i]? = some (some v) ∧ DenW K cl Sh μ v w
end
/-- what may come behind: the shared part grows, the locations grow -/
structure Step (Sh : Hp) (μ : List Addr) (Sh' : Hp) (μ' : List Addr) : Prop where
  sh : Same Sh Sh'
  mu : ∀ (n : Nat) (a : Addr), μ[n]? = some a → μ'[n]? = some a
theorem Step.refl (Sh : Hp) (μ : List Addr) : Step Sh μ Sh μ := ⟨Same.refl _, fun _ _ h => h⟩
theorem Step.trans {A B C : Hp} {μ ν κ : List Addr} (a : Step A μ B ν) (b : Step B ν C κ) : Step A μ C κ := ⟨a.sh.trans b.sh, fun n x h => b.mu n x (a.mu n x h)⟩

section
variable {K : PySem.W.Frag} {cl : Nm} {Sh Sh' H H' : Hp} {μ μ' : List Addr} {S : Store} {σ : L2.St} {ρ : Env'}
theorem DenW.step (s : Step Sh μ Sh' μ') {v : V} {w : W} (h : DenW K cl Sh μ v w) : DenW K cl Sh' μ' v w := by
  cases w with
  | t d => exact Den.mono s.sh h
  | loc n => obtain ⟨a, e, q⟩ := h; exact ⟨a, s.mu n a e, q⟩
theorem DenWs.step (s : Step Sh μ Sh' μ') : ∀ {v : List V} {w : List W}, DenWs K cl Sh μ v w → DenWs K cl Sh' μ' v w
  | _, _, .nil => .nil
  | _, _, .cons h r => .cons (h.step s) (r.step s)
theorem DenE.step (s : Step Sh μ Sh' μ') (h : DenE K cl Sh μ σ ρ) : DenE K cl Sh' μ' σ ρ := ⟨h.len, fun i w e => by
  obtain ⟨v, q, r⟩ := h.get i w e
  exact ⟨v, q, r.step s⟩⟩
theorem DenE.set {i : Nat} {v : V} {w : W} (h : DenE K cl Sh μ σ ρ) (q : DenW K cl Sh μ v w) : DenE K cl Sh μ (σ.set i (Option.some v)) (ρ.set i (Option.some w)) := ⟨by simp [h.len], fun j u e => by
  by_cases z : j = i
  · subst z
    have hl : j < ρ.length := by
      by_cases y : j < ρ.length
      · exact y
      · rw [List.getElem?_eq_none (by simpa using y)] at e; cases e
    rw [List.getElem?_set_self hl] at e
    cases e
    exact ⟨v, by rw [List.getElem?_set_self (by rw [h.len]; exact hl)], q⟩
  · rw [List.getElem?_set_ne (Ne.symm z)] at e ⊢
    exact h.get j u e⟩
theorem ObAt.mono {a : Addr} {o : Ob} (s : Same Sh Sh') (e : H' a = H a) (h : ObAt K cl Sh H a o) : ObAt K cl Sh' H' a o := by
  cases o with
  | lst ds => obtain ⟨vs, h1, h2⟩ := h; exact ⟨vs, e.trans h1, h2.mono s⟩
  | dct t ds =>
    cases t with
    | false => obtain ⟨es, h1, h2⟩ := h; exact ⟨es, e.trans h1, h2.mono s⟩
    | true => obtain ⟨es, h1, h2⟩ := h; exact ⟨es, e.trans h1, h2.mono s⟩
  | ins c ds => obtain ⟨dx, es, h1, h2⟩ := h; exact ⟨dx, es, e.trans h1, h2.mono s⟩
theorem ObAt.some {a : Addr} {o : Ob} (h : ObAt K cl Sh H a o) : ∃ u, H a = Option.some u := by
  cases o with
  | lst ds => obtain ⟨vs, h1, _⟩ := h; exact ⟨_, h1⟩
  | dct t ds => cases t <;> (obtain ⟨es, h1, _⟩ := h; exact ⟨_, h1⟩)
  | ins c ds => obtain ⟨dx, es, h1, _⟩ := h; exact ⟨_, h1⟩
/-- a new object outside: nothing changes -/
theorem Rel.fresh {p : Addr} {o : HO} (r : Rel K cl Sh H μ S) (n : H p = none) : Rel K cl Sh (upd H p o) μ S := by
  refine ⟨fun a u e => ?_, r.len, r.inj, fun m ob e => ?_⟩
  · rw [upd_ne (ne_of_none (r.sub a u e) n)]; exact r.sub a u e
  · obtain ⟨a, h1, h2, h3⟩ := r.obj m ob e
    obtain ⟨u, hu⟩ := h3.some
    exact ⟨a, h1, h2, h3.mono (Same.refl _) (upd_ne (ne_of_none hu n))⟩
/-- a new object becomes shared -/
theorem Rel.share {p : Addr} {o : HO} (r : Rel K cl Sh H μ S) (e : H p = Option.some o) (n : Sh p = none) (hn : ∀ m ob a, get S m = Option.some ob → μ[m]? = Option.some a → a ≠ p) : Rel K cl (upd Sh p o) H μ S := by
  have sm : Same Sh (upd Sh p o) := fun a u q => by rw [upd_ne (ne_of_none q n)]; exact q
  refine ⟨fun a u q => ?_, r.len, r.inj, fun m ob q => ?_⟩
  · by_cases h : a = p
    · subst h; rw [upd_same] at q; rw [← q]; exact e
    · rw [upd_ne h] at q; exact r.sub a u q
  · obtain ⟨a, h1, h2, h3⟩ := r.obj m ob q
    exact ⟨a, h1, by rw [upd_ne (hn m ob a q h1)]; exact h2, h3.mono sm rfl⟩
theorem Rel.new_ne {p : Addr} (r : Rel K cl Sh H μ S) (n : H p = none) : ∀ m ob a, get S m = Option.some ob → μ[m]? = Option.some a → a ≠ p := fun m ob a q e z => by
  obtain ⟨b, h1, _, h3⟩ := r.obj m ob q
  obtain ⟨u, hu⟩ := h3.some
  rw [e] at h1; cases h1
  rw [z, n] at hu; cases hu
/-- an immutable object is made -/
theorem Rel.put {p : Addr} {o : HO} (r : Rel K cl Sh H μ S) (n : H p = none) : Rel K cl (upd Sh p o) (upd H p o) μ S ∧ Step Sh μ (upd Sh p o) μ := by
  have ns : Sh p = none := Same.free r.sub n
  exact ⟨(r.fresh n).share upd_same ns (r.new_ne n), ⟨fun a u q => by rw [upd_ne (ne_of_none q ns)]; exact q, fun _ _ h => h⟩⟩
theorem get_append_lt {S S' : Store} {n : Nat} (h : n < S.length) : get (S ++ S') n = get S n := by
  unfold get; rw [List.getElem?_append_left h]
theorem get_lt {S : Store} {n : Nat} {o : Ob} (h : get S n = Option.some o) : n < S.length := by
  unfold get at h
  by_cases q : n < S.length
  · exact q
  · rw [List.getElem?_eq_none (by omega)] at h; cases h
theorem get_app {S : Store} {o : Option Ob} {n : Nat} {u : Ob} (h : get (S ++ [o]) n = Option.some u) : (n < S.length ∧ get S n = Option.some u) ∨ (n = S.length ∧ o = Option.some u) := by
  have hl := get_lt h
  rw [List.length_append, List.length_singleton] at hl
  by_cases q : n < S.length
  · exact .inl ⟨q, by rw [← get_append_lt q]; exact h⟩
  · have e : n = S.length := by omega
    subst e
    refine .inr ⟨rfl, ?_⟩
    unfold get at h
    simpa using h
/-- a mutable object is made -/
theorem Rel.alloc {p : Addr} {o : Ob} (r : Rel K cl Sh H μ S) (n : Sh p = none) (hn : ∀ m ob a, get S m = Option.some ob → μ[m]? = Option.some a → a ≠ p) (h : ObAt K cl Sh H p o) :
    Rel K cl Sh H (μ ++ [p]) (S ++ [some o]) ∧ Step Sh μ Sh (μ ++ [p]) := by
  have up : ∀ (m : Nat) (a : Addr), m < S.length → (μ ++ [p])[m]? = Option.some a → μ[m]? = Option.some a := fun m a hm e => by
    rw [List.getElem?_append_left (by rw [r.len]; exact hm)] at e; exact e
  have top : ∀ (a : Addr), (μ ++ [p])[S.length]? = Option.some a → a = p := fun a e => by
    rw [← r.len] at e; simp at e; exact e.symm
  refine ⟨⟨r.sub, by simp [r.len], fun i j a ob u e1 e2 g1 g2 => ?_, fun m ob q => ?_⟩, ⟨Same.refl _, fun m a e => ?_⟩⟩
  · rcases get_app g1 with ⟨h1, g1⟩ | ⟨h1, g1⟩ <;> rcases get_app g2 with ⟨h2, g2⟩ | ⟨h2, g2⟩
    · exact r.inj i j a ob u (up i a h1 e1) (up j a h2 e2) g1 g2
    · subst h2; cases top a e2; exact absurd rfl (hn i ob _ g1 (up i _ h1 e1))
    · subst h1; cases top a e1; exact absurd rfl (hn j u _ g2 (up j _ h2 e2))
    · rw [h1, h2]
  · rcases get_app q with ⟨h1, g1⟩ | ⟨h1, g1⟩
    · obtain ⟨a, e1, e2, e3⟩ := r.obj m ob g1
      exact ⟨a, by rw [List.getElem?_append_left (by rw [r.len]; exact h1)]; exact e1, e2, e3⟩
    · subst h1; cases g1
      exact ⟨p, by rw [← r.len]; simp, n, h⟩
  · have : m < μ.length := by
      by_cases q : m < μ.length
      · exact q
      · rw [List.getElem?_eq_none (by omega)] at e; cases e
    rw [List.getElem?_append_left this]; exact e
theorem get_set {S : Store} {n m : Nat} {o : Option Ob} {u : Ob} (h : get (S.set n o) m = Option.some u) : (m = n ∧ o = Option.some u) ∨ (m ≠ n ∧ get S m = Option.some u) := by
  have hl := get_lt h
  rw [List.length_set] at hl
  by_cases q : m = n
  · subst q
    refine .inl ⟨rfl, ?_⟩
    unfold get at h
    rw [List.getElem?_set_self hl] at h
    exact h
  · refine .inr ⟨q, ?_⟩
    unfold get at h ⊢
    rw [List.getElem?_set_ne (Ne.symm q)] at h
    exact h
/-- a mutable object changes -/
theorem Rel.write {n : Nat} {a : Addr} {o o' : Ob} {u : HO} (r : Rel K cl Sh H μ S) (g : get S n = Option.some o) (e : μ[n]? = Option.some a) (h : ObAt K cl Sh (upd H a u) a o') :
    Rel K cl Sh (upd H a u) μ (S.set n (some o')) := by
  have sa : Sh a = none := by
    obtain ⟨b, e1, e2, _⟩ := r.obj n o g
    rw [e] at e1; cases e1; exact e2
  refine ⟨fun b v q => ?_, by rw [List.length_set]; exact r.len, fun i j b ob v e1 e2 g1 g2 => ?_, fun m ob q => ?_⟩
  · rw [upd_ne (ne_of_none q sa)]; exact r.sub b v q
  · have gi : ∃ w, get S i = Option.some w := by
      rcases get_set g1 with ⟨rfl, _⟩ | ⟨_, g1⟩
      · exact ⟨o, g⟩
      · exact ⟨_, g1⟩
    have gj : ∃ w, get S j = Option.some w := by
      rcases get_set g2 with ⟨rfl, _⟩ | ⟨_, g2⟩
      · exact ⟨o, g⟩
      · exact ⟨_, g2⟩
    obtain ⟨w1, gi⟩ := gi
    obtain ⟨w2, gj⟩ := gj
    exact r.inj i j b w1 w2 e1 e2 gi gj
  · rcases get_set q with ⟨q1, q2⟩ | ⟨hne, q2⟩
    · cases q2; subst q1; exact ⟨a, e, sa, h⟩
    · obtain ⟨b, e1, e2, e3⟩ := r.obj m ob q2
      have hb : b ≠ a := fun z => by
        subst z
        exact hne (r.inj m n b ob o e1 e q2 g)
      exact ⟨b, e1, e2, e3.mono (Same.refl _) (upd_ne hb)⟩
/-- a mutable object is frozen -/
theorem Rel.kill {n : Nat} (r : Rel K cl Sh H μ S) : Rel K cl Sh H μ (S.set n none) := by
  refine ⟨r.sub, by rw [List.length_set]; exact r.len, fun i j b ob v e1 e2 g1 g2 => ?_, fun m ob q => ?_⟩
  · rcases get_set g1 with ⟨_, z⟩ | ⟨_, g1⟩
    · cases z
    rcases get_set g2 with ⟨_, z⟩ | ⟨_, g2⟩
    · cases z
    exact r.inj i j b ob v e1 e2 g1 g2
  · rcases get_set q with ⟨_, z⟩ | ⟨_, q⟩
    · cases z
    exact r.obj m ob q
/-- the newest locations are forgotten -/
theorem get_take {S : Store} {b n : Nat} {o : Ob} (h : get (S.take b) n = Option.some o) : n < b ∧ get S n = Option.some o := by
  have hl := get_lt h
  rw [List.length_take] at hl
  refine ⟨by omega, ?_⟩
  unfold get at h ⊢
  rw [List.getElem?_take_of_lt (by omega)] at h
  exact h
theorem Rel.take {b : Nat} (r : Rel K cl Sh H μ S) : Rel K cl Sh H (μ.take b) (S.take b) := by
  have up : ∀ (m : Nat) (a : Addr), (μ.take b)[m]? = Option.some a → μ[m]? = Option.some a := fun m a e => by
    by_cases q : m < b
    · rw [List.getElem?_take_of_lt q] at e; exact e
    · rw [List.getElem?_eq_none (by rw [List.length_take]; omega)] at e; cases e
  refine ⟨r.sub, by simp [r.len], fun i j a ob v e1 e2 g1 g2 => ?_, fun m ob q => ?_⟩
  · exact r.inj i j a ob v (up i a e1) (up j a e2) (get_take g1).2 (get_take g2).2
  · obtain ⟨h1, h2⟩ := get_take q
    obtain ⟨a, e1, e2, e3⟩ := r.obj m ob h2
    exact ⟨a, by rw [List.getElem?_take_of_lt h1]; exact e1, e2, e3⟩
theorem Step.take {b : Nat} (hb : μ.length ≤ b) (s : Step Sh μ Sh' μ') : Step Sh μ Sh' (μ'.take b) := ⟨s.sh, fun n a e => by
  have : n < μ.length := by
    by_cases q : n < μ.length
    · exact q
    · rw [List.getElem?_eq_none (by omega)] at e; cases e
  rw [List.getElem?_take_of_lt (by omega)]
  exact s.mu n a e⟩
end
end Rf

/-! Rf, part B: the small syntax, its Python text, its reading. -/
namespace Rf
open PySem PySem.Spec PyProof.Rows L2

inductive Op where
  | add | sub | mul | fdiv | mod | pow | shr | band
def Op.py : Op → Operator
  | .add => .Add | .sub => .Sub | .mul => .Mult | .fdiv => .FloorDiv | .mod => .Mod | .pow => .Pow | .shr => .RShift | .band => .BitAnd
inductive Cm where
  | eq | ne | lt | le | gt | ge | mem | nmem | is_ | isn
def Cm.py : Cm → CmpOp
  | .eq => .Eq | .ne => .NotEq | .lt => .Lt | .le => .LtE | .gt => .Gt | .ge => .GtE | .mem => .In | .nmem => .NotIn | .is_ => .Is | .isn => .IsNot
/-- a class in isinstance: an own one, a built-in one -/
inductive Cl where
  | own (c : Nat) | ty (x : Str) (n : String)
  deriving DecidableEq
/-- a value's class -/
inductive Ty where
  | own (c : Nat) | exc (c : Nat) | ty (n : String)
  deriving DecidableEq
/-- built-in functions -/
inductive Bf where
  | len | max | min | all | any | int | sum | abs | str | list | sorted | dict | divmod | set0 | tuple | listD
  deriving DecidableEq
/-- the built-in types among them -/
def Bf.isTy : Bf → Bool
  | .int | .str | .list | .dict | .set0 | .tuple | .listD => true
  | _ => false
def Bf.nm : Bf → String
  | .len => "len" | .max => "max" | .min => "min" | .all => "all" | .any => "any" | .int => "int" | .sum => "sum" | .abs => "abs" | .str => "str" | .list => "list" | .sorted => "sorted" | .dict => "dict" | .divmod => "divmod" | .set0 => "set" | .tuple => "tuple" | .listD => "list"
def Bf.val (b : Bf) : Value := if b.isTy then .type b.nm else .builtin b.nm
/-- methods that change nothing -/
inductive Mt where
  | join | strip | startswith | endswith | count | index | replace | split | islower | get | items
  deriving DecidableEq
def Mt.nm : Mt → String
  | .join => "join" | .strip => "strip" | .startswith => "startswith" | .endswith => "endswith" | .count => "count" | .index => "index" | .replace => "replace" | .split => "split" | .islower => "islower" | .get => "get" | .items => "items"
/-- methods that change their object -/
inductive Mu where
  | append | extend | pop | insert | reverse | clear
  deriving DecidableEq
def Mu.nm : Mu → String
  | .append => "append" | .extend => "extend" | .pop => "pop" | .insert => "insert" | .reverse => "reverse" | .clear => "clear"

inductive Tg where
  | nm (i : Nat) (p : Pos)
  | tp (is : List (Nat × Pos)) (k : Nat) (p : Pos)

mutual
inductive E where
  | var (i : Nat) (p : Pos)
  | int (i : Int) (k : Nat) (p : Pos)
  | str (s : Str) (k : Nat) (p : Pos)
  | bl (b : Bool) (k : Nat) (p : Pos)
  | non (k : Nat) (p : Pos)
  | glo (i : Nat) (p : Pos)
  | bin (o : Op) (a b : E) (p : Pos)
  | neg (a : E) (p : Pos)
  | cmp (o : Cm) (a b : E) (p : Pos)
  | ch2 (o q : Cm) (a b c : E) (p : Pos)
  | ch3 (o q r : Cm) (a b c d : E) (p : Pos)
  | bop (isAnd : Bool) (es : Es) (p : Pos)
  | not (a : E) (p : Pos)
  | ife (c a b : E) (p : Pos)
  | lst (es : Es) (p : Pos)
  | tup (es : Es) (k : Nat) (p : Pos)
  | dct0 (tk : Bool) (p : Pos)
  | call (f : Nat) (es : Es) (pn p : Pos)
  | mk (c : Nat) (es : Es) (nd : Nat) (pn p : Pos)
  | bfn (b : Bf) (es : Es) (pn p : Pos)
  | mth (m : Mt) (o : E) (es : Es) (pa p : Pos)
  | ix (a b : E) (p : Pos)
  | sl (a : E) (lo hi : Eo) (ps p : Pos)
  | fld (o : E) (f : Nat) (p : Pos)
  | isi (e : E) (c : Cl) (pn pc p : Pos)
  | isis (e : E) (cs : List (Cl × Pos)) (k : Nat) (pn pt p : Pos)
  | comp (elt : E) (tg : Tg) (src : Sr) (ifs : Es) (sc : Scope) (own : List (Str × Nat)) (p : Pos)
  /-- x or y, x a list or None; len(set(x)) of texts -/
  | orl (a b : E) (p : Pos)
  | lens (a : E) (p1 p2 q p : Pos)
  /-- an f-string's text of a value; an f-string; x.pop(i) as a value -/
  | fmt (e : E) (p : Pos)
  | fstr (es : Es) (p : Pos)
  | popx (o i : E) (pa pc : Pos)
  | new (e : E)
  /-- a new object that is only read from now on -/
  | frz (e : E)
inductive Es where
  | nil | cons (e : E) (r : Es)
inductive Eo where
  | no | so (e : E)
inductive Sr where
  | seq (e : E)
  | rng (es : Es) (pn p : Pos)
  | enum (e : E) (pn p : Pos)
  | zip (a b : E) (pn p : Pos)
  | rev (e : E) (pn p : Pos)
end

/-- what the text says beside its defs -/
structure Sig where
  fnm : List Str
  cnm : List Str
  ini : List Nat
  cst : List (Str × D)
  kit : Ty → Cl → Option Bool
  /-- the fields' names; which classes have no attribute of such a name -/
  fld : List Str
  na : List (Nat × Nat)
  /-- how many Nones may be left out where an object is made -/
  mkn : List (Nat × Nat)
  /-- which exception classes a clause takes; which are raised here -/
  hit : Nat → Nat → Option Bool
  rz : List Nat
  /-- built-in names that are used -/
  bi : List Str

section
variable (g : Sig) (N : List Str)
def nmOf (l : List Str) (i : Nat) : Str := (l[i]?).getD Str.empty
def Cl.py (c : Cl) (p : Pos) : Expr := match c with
  | .own i => .Name (nmOf g.cnm i) p
  | .ty x _ => .Name x p
def Tg.py : Tg → Expr
  | .nm i p => .Name (nmOf N i) p
  | .tp is k p => .Tuple (is.map fun q => .Name (nmOf N q.1) q.2) k p
mutual
def E.py : E → Expr
  | .var i p => .Name (nmOf N i) p
  | .int i k p => .Constant (.int i) k p
  | .str s k p => .Constant (.str s) k p
  | .bl b k p => .Constant (.bool b) k p
  | .non k p => .Constant .none k p
  | .glo i p => .Name (((g.cst[i]?).map (·.1)).getD Str.empty) p
  | .bin o a b p => .BinOp a.py o.py b.py p
  | .neg a p => .UnaryOp .USub a.py p
  | .cmp o a b p => .Compare a.py [o.py] [b.py] p
  | .ch2 o q a b c p => .Compare a.py [o.py, q.py] [b.py, c.py] p
  | .ch3 o q r a b c d p => .Compare a.py [o.py, q.py, r.py] [b.py, c.py, d.py] p
  | .bop isAnd es p => .BoolOp (if isAnd then .And else .Or) es.py p
  | .not a p => .UnaryOp .Not a.py p
  | .ife c a b p => .IfExp c.py a.py b.py p
  | .lst es p => .List es.py p
  | .tup es k p => .Tuple es.py k p
  | .dct0 _ p => .Dict [] [] p
  | .call f es pn p => .Call (.Name (nmOf g.fnm f) pn) es.py [] p
  | .mk c es _ pn p => .Call (.Name (nmOf g.cnm c) pn) es.py [] p
  | .bfn b es pn p => .Call (.Name (Str.ofString b.nm) pn) es.py [] p
  | .mth m o es pa p => .Call (.Attribute o.py (Str.ofString m.nm) pa) es.py [] p
  | .ix a b p => .Subscript a.py b.py p
  | .sl a lo hi ps p => .Subscript a.py (.Slice lo.py hi.py none ps) p
  | .fld o f p => .Attribute o.py (nmOf g.fld f) p
  | .isi e c pn pc p => .Call (.Name (Str.ofString "isinstance") pn) [e.py, c.py g pc] [] p
  | .isis e cs k pn pt p => .Call (.Name (Str.ofString "isinstance") pn) [e.py, .Tuple (cs.map fun c => c.1.py g c.2) k pt] [] p
  | .comp elt tg src ifs sc _ p => .ListComp elt.py [⟨tg.py N, src.py, ifs.py, 0⟩] sc p
  | .orl a b p => .BoolOp .Or [a.py, b.py] p
  | .lens a p1 p2 q p => .Call (.Name (Str.ofString "len") p1) [.Call (.Name (Str.ofString "set") p2) [a.py] [] q] [] p
  | .fmt e p => .FormattedValue e.py (-1) none p
  | .fstr es p => .JoinedStr es.py p
  | .popx o i pa pc => .Call (.Attribute o.py (Str.ofString "pop") pa) [i.py] [] pc
  | .new e => e.py
  | .frz e => e.py
def Es.py : Es → List Expr
  | .nil => []
  | .cons e r => e.py :: r.py
def Eo.py : Eo → Option Expr
  | .no => none
  | .so e => some e.py
def Sr.py : Sr → Expr
  | .seq e => e.py
  | .rng es pn p => .Call (.Name (Str.ofString "range") pn) es.py [] p
  | .enum e pn p => .Call (.Name (Str.ofString "enumerate") pn) [e.py] [] p
  | .zip a b pn p => .Call (.Name (Str.ofString "zip") pn) [a.py, b.py] [] p
  | .rev e pn p => .Call (.Name (Str.ofString "reversed") pn) [e.py] [] p
end
end

/-! ### values -/
def D.sc : D → Option V
  | .non => some .non
  | .bl b => some (.bl b)
  | .int i => some (.int i)
  | .str x => some (.str x)
  | _ => none
def scs : List D → Option (List V)
  | [] => some []
  | d :: r => match d.sc, scs r with
    | some v, some vs => some (v :: vs)
    | _, _ => none
def D.items : D → Option (List D)
  | .lst xs => some xs
  | .ro xs => some xs
  | .tup xs => some xs
  | .rt xs => some xs
  | _ => none
/-- a list, not a tuple -/
def D.lsts : D → Option (List D)
  | .lst xs => some xs
  | .ro xs => some xs
  | _ => none
mutual
def D.py? : D → Option PyData
  | .non => some .none
  | .bl b => some (.bool b)
  | .int i => some (.int i)
  | .str x => some (.str x)
  | .lst xs => match pys? xs with | some ys => some (.list ys) | none => none
  | .ro xs => match pys? xs with | some ys => some (.list ys) | none => none
  | .tup xs => match pys? xs with | some ys => some (.tuple ys) | none => none
  | .rt xs => match pys? xs with | some ys => some (.tuple ys) | none => none
  | _ => none
def pys? : List D → Option (List PyData)
  | [] => some []
  | x :: r => match x.py?, pys? r with | some y, some ys => some (y :: ys) | _, _ => none
end
def Ob.tree : Ob → D
  | .lst ds => .lst ds
  | .dct t ds => .dct t ds
  | .ins c fs => .ins c fs
/-- what is read -/
def rd (S : Store) : W → Option D
  | .t d => some d
  | .loc n => (get S n).map Ob.tree
def W.asT : W → Option D
  | .t d => some d
  | .loc _ => none
def asTs : List W → Option (List D)
  | [] => some []
  | w :: r => match w.asT, asTs r with | some d, some ds => some (d :: ds) | _, _ => none
def rds (S : Store) : List W → Option (List D)
  | [] => some []
  | w :: r => match rd S w, rds S r with | some d, some ds => some (d :: ds) | _, _ => none
def ok? (S : Store) (o : Option D) : Res W := match o with | some d => .ok (.t d) S | none => .bad

/-- == of data without dicts -/
def eqv1 (a b : D) : Option Bool := match a.sc, b.sc with
  | some x, some y => if scal x y then some (decide (x = y)) else none
  | _, _ => match a.py?, b.py? with
    | some x, some y => if x.depth ≤ 64 then some (PyData.eqv x y) else none
    | _, _ => none
def inSeq (x : D) (xs : List D) : Option Bool := match x.sc, scs xs with
  | some v, some vs => some (inV v vs)
  | _, _ => none
def strIn (x y : Str) : Bool := !(Builtin.Str.occurrences y x 0 y.length 1).isEmpty
def D.isNon : D → Bool
  | .non => true
  | _ => false
/-- a key of a dict -/
def D.key? : D → Option Key
  | .int i => some (.inl i)
  | .str x => some (.inr x)
  | _ => none
def keys? : List D → Option (List Key)
  | [] => some []
  | d :: r => match d.key?, keys? r with | some k, some ks => some (k :: ks) | _, _ => none
def D.tkey? : D → Option (List Key)
  | .tup ds => keys? ds
  | _ => none
/-- what a dict holds at a key -/
def lookK (k : Key) : List (D × D) → Option D
  | [] => none
  | (x, d) :: r => if x.key? = some k then some d else lookK k r
def lookT (k : List Key) : List (D × D) → Option D
  | [] => none
  | (x, d) :: r => if x.tkey? = some k then some d else lookT k r
def lookD (t : Bool) (k : D) (kvs : List (D × D)) : Option (Option D) := match t with
  | false => k.key?.map fun q => lookK q kvs
  | true => k.tkey?.map fun q => lookT q kvs
/-- the same entries -/
def sameD (ks ls : List (D × D)) : Bool := decide (ks.length = ls.length) && ks.all fun p => match p.1.key?, p.2.sc with
  | some k, some v => decide ((lookK k ls).bind D.sc = some v)
  | _, _ => false
/-- == of data -/
def eqv2 (a b : D) : Option Bool := match a, b with
  | .dct false ks, .dct false ls => if sameD ks ls = true then some true else none
  | a, b => eqv1 a b
def cmp2 (o : Cm) (a b : D) : Option Bool := match o with
  | .eq => eqv2 a b
  | .ne => (eqv2 a b).map (!·)
  | .lt => match a, b with | .int i, .int j => some (decide (i < j)) | _, _ => none
  | .le => match a, b with | .int i, .int j => some (decide (i ≤ j)) | _, _ => none
  | .gt => match a, b with | .int i, .int j => some (decide (j < i)) | _, _ => none
  | .ge => match a, b with | .int i, .int j => some (decide (j ≤ i)) | _, _ => none
  | .mem => match a, b with
    | .str x, .str y => some (strIn x y)
    | a, .dct t kvs => (lookD t a kvs).map (·.isSome)
    | a, b => match b.items with | some xs => inSeq a xs | none => none
  | .nmem => match a, b with
    | .str x, .str y => some (!strIn x y)
    | a, .dct t kvs => (lookD t a kvs).map fun o => !o.isSome
    | a, b => match b.items with | some xs => (inSeq a xs).map (!·) | none => none
  | .is_ => match b with | .non => some a.isNon | _ => none
  | .isn => match b with | .non => some (!a.isNon) | _ => none
def repS (x : Str) (k : Nat) : Str := ⟨(List.replicate k x.cps.toList).flatten.toArray⟩
def bin2 (o : Op) (a b : D) : Option D := match o with
  | .add => match a, b with
    | .int i, .int j => some (.int (i + j))
    | .str x, .str y => if x.length + y.length ≤ sizeLine then some (.str (x ++ y)) else none
    | .lst xs, .lst ys => if xs.length + ys.length ≤ sizeLine then some (.lst (xs ++ ys)) else none
    | _, _ => none
  | .sub => match a, b with | .int i, .int j => some (.int (i - j)) | _, _ => none
  | .mul => match a, b with
    | .int i, .int j => if i.natAbs.log2 + j.natAbs.log2 < 1000000 then some (.int (i * j)) else none
    | .str x, .int k => if 0 ≤ k ∧ k < 1000 ∧ x.length ≤ 1000 then some (.str (repS x k.toNat)) else none
    | .lst xs, .int k => if 0 ≤ k ∧ k < 1000 ∧ xs.length ≤ 1000 then some (.lst (List.replicate k.toNat xs).flatten) else none
    | _, _ => none
  | .fdiv => match a, b with | .int i, .int j => if 0 < j ∧ j.natAbs.log2 < 9000 then some (.int (i / j)) else none | _, _ => none
  | .mod => match a, b with | .int i, .int j => if 0 < j then some (.int (i % j)) else none | _, _ => none
  | .pow => match a, b with | .int i, .int j => if 0 ≤ j ∧ j ≤ 1000 ∧ i.natAbs < 2 ^ 64 then some (.int (i ^ j.toNat)) else none | _, _ => none
  | .shr => match a, b with | .int i, .int j => if 0 ≤ j then some (.int (i / 2 ^ j.toNat)) else none | _, _ => none
  | .band => match a, b with | .int i, .int j => some (.int (Builtin.bitAnd i j)) | _, _ => none
def cutD (xs : List D) (lo hi : Option Int) : List D := (xs.drop (HT.sIx xs.length 0 lo)).take (HT.sIx xs.length xs.length hi - HT.sIx xs.length 0 lo)
def slice2 (a : D) (lo hi : Option Int) : Option D := match a with
  | .str x => if x.length ≤ sizeLine then some (.str (cutS x lo hi)) else none
  | .lst xs => some (.lst (cutD xs lo hi))
  | .ro xs => some (.lst (cutD xs lo hi))
  | .tup xs => if HT.sIx xs.length 0 lo = 0 ∧ HT.sIx xs.length xs.length hi = xs.length then none else some (.tup (cutD xs lo hi))
  | _ => none
def ix2 (a b : D) : Option D := match a, b with
  | .str x, .int i => if x.length ≤ sizeLine then (atI x.cps.toList i).map fun c => .str ⟨#[c]⟩ else none
  | .lst xs, .int i => atI xs i
  | .ro xs, .int i => atI xs i
  | .tup xs, .int i => atI xs i
  | .rt xs, .int i => atI xs i
  | .dct t kvs, k => match lookD t k kvs with | some o => o | none => none
  | _, _ => none
def ints? : List D → Option (List Int)
  | [] => some []
  | .int i :: r => match ints? r with | some l => some (i :: l) | none => none
  | _ => none
def bls? : List D → Option (List Bool)
  | [] => some []
  | .bl i :: r => match bls? r with | some l => some (i :: l) | none => none
  | _ => none
def strs? : List D → Option (List Str)
  | [] => some []
  | .str i :: r => match strs? r with | some l => some (i :: l) | none => none
  | _ => none
def listMax : List Int → Option Int
  | [] => none
  | [i] => some i
  | i :: r => match listMax r with | some m => some (if m > i then m else i) | none => none
def listMin : List Int → Option Int
  | [] => none
  | [i] => some i
  | i :: r => match listMin r with | some m => some (if m < i then m else i) | none => none
def joinLen (s : Str) (xs : List Str) : Nat := (xs.map (·.length)).sum + xs.length * s.length
def bf (b : Bf) (as : List D) : Option D := match b, as with
  | .len, [.str x] => if x.length ≤ sizeLine then some (.int x.length) else none
  | .len, [d] => d.items.map fun xs => .int xs.length
  | .max, [.int i, .int j] => some (.int (if j > i then j else i))
  | .min, [.int i, .int j] => some (.int (if j < i then j else i))
  | .max, [d] => match d.lsts with | some xs => (match ints? xs with | some ns => (listMax ns).map .int | none => none) | none => none
  | .min, [d] => match d.lsts with | some xs => (match ints? xs with | some ns => (listMin ns).map .int | none => none) | none => none
  | .all, [d] => match d.lsts with | some xs => (bls? xs).map fun bs => .bl (bs.all id) | none => none
  | .any, [d] => match d.lsts with | some xs => (bls? xs).map fun bs => .bl (bs.any id) | none => none
  | .sum, [d] => match d.lsts with | some xs => (ints? xs).map fun bs => .int bs.sum | none => none
  | .int, [.int i] => some (.int i)
  | .int, [.bl k] => some (.int (if k then 1 else 0))
  | .abs, [.int i] => some (.int (if i < 0 then -i else i))
  | .str, [.int i] => if i.natAbs.log2 < 1920 then some (.str (toString i)) else none
  | .list, [d] => d.items.map .lst
  | .listD, [.dct false kvs] => some (.lst (kvs.map (·.1)))
  | .divmod, [.int i, .int j] => if 0 < j ∧ j.natAbs.log2 < 9000 then some (.tup [.int (i / j), .int (i % j)]) else none
  | _, _ => none
/-- whose methods a value has: a text's, a list's -/
def mTy (S : List (Option Ob)) : W → Option Bool
  | .t (.str _) => some true
  | .t (.lst _) => some false
  | .t (.ro _) => some false
  | .loc n => match get S n with | some (.lst _) => some false | _ => none
  | _ => none
def mtId : Bool → Mt → Option String
  | true, .join => some "str.join"
  | true, .strip => some "str.strip"
  | true, .startswith => some "str.startswith"
  | true, .endswith => some "str.endswith"
  | true, .count => some "str.count"
  | true, .split => some "str.split"
  | true, .islower => some "str.islower"
  | false, .count => some "list.count"
  | _, _ => none
def mt (m : Mt) (o : D) (as : List D) : Option D := match m, o, as with
  | .join, .str s, [d] => match d.items with
    | some xs => match strs? xs with
      | some ys => if joinLen s ys ≤ 16777216 then some (.str (Txt.join s ys)) else none
      | none => none
    | none => none
  | .startswith, .str a, [.str b] => some (.bl (Txt.startswith a b))
  | .endswith, .str a, [.str b] => some (.bl (Txt.endswith a b))
  | .strip, .str a, [.str b] => if a.length ≤ sizeLine then some (.str (Txt.stripChars a b)) else none
  | .count, .str a, [.str b] => some (.int (Txt.count a b))
  | .split, .str a, [.str b] => if (b.length == 0) = false ∧ a.length + 2 ≤ sizeLine then some (.lst ((Txt.split a b).map .str)) else none
  | .islower, .str a, [] => some (.bl (Txt.islower a))
  | .count, .lst xs, [y] => match scs xs, y.sc with | some vs, some v => some (.int (vs.countP fun z => eqV z v : Nat)) | _, _ => none
  | .count, .ro xs, [y] => match scs xs, y.sc with | some vs, some v => some (.int (vs.countP fun z => eqV z v : Nat)) | _, _ => none
  | _, _, _ => none
def mTyOk (m : Mt) (o : Option Bool) : Bool := match o with | some b => (mtId b m).isSome | none => false
def tyOf : D → Option Ty
  | .non => some (.ty "NoneType") | .bl _ => some (.ty "bool") | .int _ => some (.ty "int") | .str _ => some (.ty "str")
  | .lst _ => some (.ty "list") | .tup _ => some (.ty "tuple") | .dct _ _ => some (.ty "dict")
  | .ins c _ => some (.own c) | .exc c => some (.exc c) | .ro _ => none | .rt _ => none
def kits (f : Ty → Cl → Option Bool) (t : Ty) : List Cl → Option Bool
  | [] => some false
  | c :: r => match f t c with
    | some true => some true
    | some false => kits f t r
    | none => none
/-- the names stored by a target -/
def Tg.store : Tg → D → Env' → Option Env'
  | .nm i _, d, ρ => if i < ρ.length then some (ρ.set i (some (.t d))) else none
  | .tp is _ _, .tup ds, ρ => if is.length = ds.length then go is ds ρ else none
  | _, _, _ => none
where go : List (Nat × Pos) → List D → Env' → Option Env'
  | [], [], ρ => some ρ
  | (i, _) :: r, d :: ds, ρ => if i < ρ.length then go r ds (ρ.set i (some (.t d))) else none
  | _, _, _ => none
def wipeE (ρ : Env') : List Nat → Env'
  | [] => ρ
  | v :: vs => (wipeE ρ vs).set v none
def enumD : Nat → List D → List D
  | _, [] => []
  | i, d :: r => .tup [.int i, d] :: enumD (i + 1) r
def zipD : List D → List D → List D
  | a :: r, b :: s => .tup [a, b] :: zipD r s
  | _, _ => []
def rangeD (lo c : Int) : Nat → List D
  | 0 => []
  | n + 1 => .int lo :: rangeD (lo + c) c n
def rngItems : List D → Option (List D)
  | [.int n] => if -(2 ^ 62) ≤ n ∧ n < 2 ^ 62 then some (rangeD 0 1 n.toNat) else none
  | [.int a, .int b] => if -(2 ^ 62) ≤ a ∧ a < 2 ^ 62 ∧ -(2 ^ 62) ≤ b ∧ b < 2 ^ 62 then some (rangeD a 1 (b - a).toNat) else none
  | [.int a, .int b, .int c] => if c ≠ 0 ∧ c.natAbs < 1073741824 ∧ Builtin.Range.small a b c = true ∧ 0 ≤ Builtin.Range.rangeSize a b c then some (rangeD a c (Builtin.Range.rangeSize a b c).toNat) else none
  | _ => none
/-- a value in an f-string -/
def fmtW (x : W) (S1 : Store) : Res W := match x with
  | .t (.str y) => if y.length ≤ sizeLine then .ok (.t (.str y)) S1 else .bad
  | .t (.int i) => if i.natAbs.log2 < 1920 then .ok (.t (.str (toString i))) S1 else .bad
  | _ => .bad
def joinW (acc : Str) (x : W) (k : Str → Res W) : Res W := match x with
  | .t (.str y) => if (acc ++ y).length ≤ sizeLine then k (acc ++ y) else .bad
  | _ => .bad
def isLstE (S : Store) : W → Bool
  | .loc n => match get S n with | some (.lst _) => true | _ => false
  | .t _ => false
/-- an item is taken out -/
def popD (ds : List D) (i : Int) : Option (D × List D) := if -(2 ^ 63) ≤ i ∧ i < 2 ^ 63 then match seqIndex? i ds.length with
    | some k => (ds[k]?).map fun d => (d, ds.eraseIdx k)
    | none => none
  else none
def popW (S : Store) (x y : W) : Res W := match x, y with
  | .loc n, .t (.int i) => match get S n with
    | some (.lst ds) => match popD ds i with
      | some q => .ok (.t q.1) (S.set n (some (.lst q.2)))
      | none => .bad
    | _ => .bad
  | _, _ => .bad
/-- a comprehension's turns: the new list is the n-th location -/
def turns (f : D → Store → Res (Option D)) (n : Nat) : List D → Store → Res Unit
  | [], S => .ok () S
  | x :: r, S => match f x S with
    | .ok none S' => turns f n r S'
    | .ok (some d) S' => match get S' n with
      | some (.lst acc) => if acc.length < sizeLine then turns f n r (S'.set n (some (.lst (acc ++ [d])))) else .bad
      | _ => .bad
    | _ => .bad
/-- what is walked: items, or a list that stands at a location -/
abbrev Wk := List D × Option Nat
def itAt (it : Wk) (S : Store) (i : Nat) : Option D := match it.2 with
  | none => it.1[i]?
  | some n => match get S n with
    | some (.lst ys) => if ys.length = it.1.length then ys[i]? else none
    | _ => none
def itOk (it : Wk) (S : Store) : Bool := match it.2 with
  | none => true
  | some n => match get S n with
    | some (.lst ys) => decide (ys.length = it.1.length)
    | _ => false
def turnsL (f : D → Store → Res (Option D)) (n : Nat) (it : Wk) : Nat → Nat → Store → Res Unit
  | 0, _, S => if itOk it S = true then .ok () S else .bad
  | k + 1, i, S => match itAt it S i with
    | none => .bad
    | some x => match f x S with
      | .ok none S' => turnsL f n it k (i + 1) S'
      | .ok (some d) S' => match get S' n with
        | some (.lst acc) => if acc.length < sizeLine then turnsL f n it k (i + 1) (S'.set n (some (.lst (acc ++ [d])))) else .bad
        | _ => .bad
      | _ => .bad
def compRes (n : Nat) : Res Unit → Res W
  | .ok _ S => match get S n with | some (.lst ds) => .ok (.t (.lst ds)) (S.take n) | _ => .bad
  | _ => .bad
/-- one turn of a comprehension -/
def turn1 (st : D → Option Env') (tests : Env' → Store → Res Bool) (el : Env' → Store → Res W) (x : D) (S : Store) : Res (Option D) := match st x with
  | some ρ => match tests ρ S with
    | .ok true S1 => match el ρ S1 with
      | .ok (.t d) S2 => .ok (some d) S2
      | _ => .bad
    | .ok false S1 => .ok none S1
    | _ => .bad
  | none => .bad

/-- a new object is frozen -/
def frzW (b : Nat) (x : W) (S1 : Store) : Res W := match x with
  | .t d => .ok (.t d) S1
  | .loc n => if b ≤ n ∧ n + 1 = S1.length then (match get S1 n with | some o => .ok (.t o.tree) (S1.take n) | none => .bad) else .bad
section
variable (T : Nat → List W → Store → Res W) (g : Sig)
mutual
def E.ev : E → Env' → Store → Res W
  | .var i _, ρ, S => match (ρ[i]?).getD none with | some w => .ok w S | none => .bad
  | .int i _ _, _, S => .ok (.t (.int i)) S
  | .str s _ _, _, S => .ok (.t (.str s)) S
  | .bl b _ _, _, S => .ok (.t (.bl b)) S
  | .non _ _, _, S => .ok (.t .non) S
  | .glo i _, _, S => match (g.cst[i]?) with | some q => .ok (.t q.2) S | none => .bad
  | .bin o a b _, ρ, S => bnd (a.ev ρ S) fun x S1 => bnd (b.ev ρ S1) fun y S2 => match rd S2 x, rd S2 y with
    | some dx, some dy => ok? S2 (bin2 o dx dy)
    | _, _ => .bad
  | .neg a _, ρ, S => bnd (a.ev ρ S) fun x S1 => match x with | .t (.int i) => .ok (.t (.int (-i))) S1 | _ => .bad
  | .cmp o a b _, ρ, S => bnd (a.ev ρ S) fun x S1 => bnd (b.ev ρ S1) fun y S2 => match rd S2 x, rd S2 y with
    | some dx, some dy => ok? S2 ((cmp2 o dx dy).map .bl)
    | _, _ => .bad
  | .ch2 o q a b c _, ρ, S => bnd (a.ev ρ S) fun x S1 => bnd (b.ev ρ S1) fun y S2 => match x, y with
    | .t dx, .t dy => match cmp2 o dx dy with
      | some true => bnd (c.ev ρ S2) fun z S3 => match z with | .t dz => ok? S3 ((cmp2 q dy dz).map .bl) | _ => .bad
      | some false => .ok (.t (.bl false)) S2
      | none => .bad
    | _, _ => .bad
  | .ch3 o q r a b c d _, ρ, S => bnd (a.ev ρ S) fun x S1 => bnd (b.ev ρ S1) fun y S2 => match x, y with
    | .t dx, .t dy => match cmp2 o dx dy with
      | some true => bnd (c.ev ρ S2) fun z S3 => match z with
        | .t dz => match cmp2 q dy dz with
          | some true => bnd (d.ev ρ S3) fun u S4 => match u with | .t du => ok? S4 ((cmp2 r dz du).map .bl) | _ => .bad
          | some false => .ok (.t (.bl false)) S3
          | none => .bad
        | _ => .bad
      | some false => .ok (.t (.bl false)) S2
      | none => .bad
    | _, _ => .bad
  | .bop isAnd es _, ρ, S => es.bop isAnd ρ S
  | .not a _, ρ, S => bnd (a.ev ρ S) fun x S1 => match x with | .t (.bl b) => .ok (.t (.bl (!b))) S1 | _ => .bad
  | .ife c a b _, ρ, S => bnd (c.ev ρ S) fun x S1 => match x with
    | .t (.bl true) => a.ev ρ S1
    | .t (.bl false) => b.ev ρ S1
    | _ => .bad
  | .lst es _, ρ, S => bnd (es.ev ρ S) fun ws S1 => match asTs ws with | some ds => if ds.length ≤ sizeLine then .ok (.t (.lst ds)) S1 else .bad | none => .bad
  | .tup es _ _, ρ, S => bnd (es.ev ρ S) fun ws S1 => match asTs ws with | some ds => if ds.length ≤ sizeLine then .ok (.t (.tup ds)) S1 else .bad | none => .bad
  | .dct0 t _, _, S => .ok (.t (.dct t [])) S
  | .call f es _ _, ρ, S => bnd (es.ev ρ S) fun ws S1 => T f ws S1
  | .mk c es nd _ _, ρ, S => bnd (es.ev ρ S) fun ws S1 =>
    match T ((g.ini[c]?).getD 0) (.loc S1.length :: (ws ++ List.replicate nd (.t .non))) (S1 ++ [some (.ins c [])]) with
    | .ok (.t .non) S2 => if S2.length < S1.length then .bad else match get S2 S1.length with
      | some (.ins c' fs) => if c' = c then .ok (.t (.ins c fs)) (S2.take S1.length) else .bad
      | _ => .bad
    | .exc k S2 => .exc k (S2.take S1.length)
    | _ => .bad
  | .bfn b es _ _, ρ, S => bnd (es.ev ρ S) fun ws S1 => match rds S1 ws with | some ds => ok? S1 (bf b ds) | none => .bad
  | .mth m o es _ _, ρ, S => bnd (o.ev ρ S) fun x S1 => if mTyOk m (mTy S1 x) = true then bnd (es.ev ρ S1) fun ws S2 => if mTy S2 x = mTy S1 x then match rd S2 x, rds S2 ws with | some d, some ds => ok? S2 (mt m d ds) | _, _ => .bad else .bad else .bad
  | .ix a b _, ρ, S => bnd (a.ev ρ S) fun x S1 => bnd (b.ev ρ S1) fun y S2 => match rd S2 x, y with
    | some dx, .t dy => ok? S2 (ix2 dx dy)
    | _, _ => .bad
  | .sl a lo hi _ _, ρ, S => bnd (a.ev ρ S) fun x S1 => bnd (lo.ev ρ S1) fun l S2 => bnd (hi.ev ρ S2) fun h S3 => match rd S3 x with
    | some dx => ok? S3 (slice2 dx l h)
    | none => .bad
  | .fld o f _, ρ, S => bnd (o.ev ρ S) fun x S1 => match rd S1 x with | some (.ins c fs) => if g.na.contains (c, f) then ok? S1 (fs.lookup f) else .bad | _ => .bad
  | .isi e c _ _ _, ρ, S => bnd (e.ev ρ S) fun x S1 => match rd S1 x with
    | some d => match tyOf d with | some t => ok? S1 ((g.kit t c).map .bl) | none => .bad
    | none => .bad
  | .isis e cs _ _ _ _, ρ, S => bnd (e.ev ρ S) fun x S1 => match rd S1 x with
    | some d => match tyOf d with | some t => ok? S1 ((kits g.kit t (cs.map (·.1))).map .bl) | none => .bad
    | none => .bad
  | .comp elt tg src ifs _ own _, ρ, S => bnd (src.ev ρ S) fun items S1 =>
    compRes S1.length (turnsL (turn1 (fun x => tg.store x (wipeE ρ (own.map (·.2)))) (fun ρ2 S2 => ifs.all ρ2 S2) (fun ρ2 S2 => elt.ev ρ2 S2)) S1.length items items.1.length 0 (S1 ++ [some (.lst [])]))
  | .orl a b _, ρ, S => bnd (a.ev ρ S) fun x S1 => match rd S1 x with
    | some .non => b.ev ρ S1
    | some (.lst ds) => if ds.isEmpty = true then b.ev ρ S1 else .ok x S1
    | _ => .bad
  | .lens a _ _ _ _, ρ, S => bnd (a.ev ρ S) fun x S1 => match x with
    | .t (.lst ds) => match strs? ds with
      | some ys => if ys.length ≤ 1000 then .ok (.t (.int (metS ys).length)) S1 else .bad
      | none => .bad
    | _ => .bad
  | .fmt e _, ρ, S => bnd (e.ev ρ S) fmtW
  | .fstr es _, ρ, S => es.js Str.empty ρ S
  | .popx o i _ _, ρ, S => bnd (o.ev ρ S) fun x S1 => if isLstE S1 x then bnd (i.ev ρ S1) fun y S2 => popW S2 x y else .bad
  | .new e, ρ, S => bnd (e.ev ρ S) fun x S1 => match x with
    | .t (.lst ds) => .ok (.loc S1.length) (S1 ++ [some (.lst ds)])
    | .t (.dct t ds) => .ok (.loc S1.length) (S1 ++ [some (.dct t ds)])
    | _ => .bad
  | .frz e, ρ, S => bnd (e.ev ρ S) fun x S1 => frzW S.length x S1
def Es.ev : Es → Env' → Store → Res (List W)
  | .nil, _, S => .ok [] S
  | .cons e r, ρ, S => bnd (e.ev ρ S) fun x S1 => bnd (r.ev ρ S1) fun xs S2 => .ok (x :: xs) S2
def Es.js : Es → Str → Env' → Store → Res W
  | .nil, acc, _, S => .ok (.t (.str acc)) S
  | .cons e r, acc, ρ, S => bnd (e.ev ρ S) fun x S1 => joinW acc x fun a => r.js a ρ S1
/-- tests that all must hold, from the left -/
def Es.all : Es → Env' → Store → Res Bool
  | .nil, _, S => .ok true S
  | .cons e r, ρ, S => match e.ev ρ S with
    | .ok (.t (.bl true)) S1 => r.all ρ S1
    | .ok (.t (.bl false)) S1 => .ok false S1
    | _ => .bad
def Es.bop : Es → Bool → Env' → Store → Res W
  | .nil, _, _, _ => .bad
  | .cons e r, isAnd, ρ, S => bnd (e.ev ρ S) fun x S1 => match x with
    | .t (.bl b) => match r with
      | .nil => .ok (.t (.bl b)) S1
      | .cons _ _ => if b = isAnd then r.bop isAnd ρ S1 else .ok (.t (.bl b)) S1
    | _ => .bad
def Eo.ev : Eo → Env' → Store → Res (Option Int)
  | .no, _, S => .ok none S
  | .so e, ρ, S => bnd (e.ev ρ S) fun x S1 => match x with | .t (.int i) => .ok (some i) S1 | _ => .bad
def Sr.ev : Sr → Env' → Store → Res Wk
  | .seq e, ρ, S => bnd (e.ev ρ S) fun x S1 => match x with
    | .t (.str z) => .ok (z.cps.toList.map (fun c => .str ⟨#[c]⟩), none) S1
    | .t d => match d.items with | some xs => .ok (xs, none) S1 | none => .bad
    | .loc n => match get S1 n with | some (.lst xs) => .ok (xs, some n) S1 | _ => .bad
  | .rng es _ _, ρ, S => bnd (es.ev ρ S) fun ws S1 => match asTs ws with
    | some ds => match rngItems ds with | some xs => .ok (xs, none) S1 | none => .bad
    | none => .bad
  | .enum e _ _, ρ, S => bnd (e.ev ρ S) fun x S1 => match x with
    | .t d => match d.lsts with | some xs => .ok (enumD 0 xs, none) S1 | none => .bad
    | _ => .bad
  | .zip a b _ _, ρ, S => bnd (a.ev ρ S) fun x S1 => bnd (b.ev ρ S1) fun y S2 => match x, y with
    | .t d, .t u => match d.lsts, u.lsts with | some xs, some ys => .ok (zipD xs ys, none) S2 | _, _ => .bad
    | _, _ => .bad
  | .rev e _ _, ρ, S => bnd (e.ev ρ S) fun x S1 => match x with
    | .t d => match d.lsts with | some xs => .ok (xs.reverse, none) S1 | none => .bad
    | _ => .bad
end
end
end Rf

/-! Rf, part C: the judgements' best readings, results, primitive operations. -/
namespace Rf
open PySem PySem.Spec PyProof.Rows L2

/-! ### the best readings -/
section
variable (X : Cx)
def WE (e : Expr) : TE := fun σ H Q => ∀ (pins : List (Addr × Obj)) (s : Shared), Inv X pins σ H s → wpAny (model X.prog X.w) X.A (eval e X.env) (EP X pins σ Q) X.xe s
def WT (e : Expr) : TT := fun σ H Q => ∀ (pins : List (Addr × Obj)) (s : Shared), Inv X pins σ H s → wpAny (model X.prog X.w) X.A (isTrue e X.env (eval e X.env)) (TP X pins σ Q) X.xe s
def WW (e : Expr) : TT := fun σ H Q => ∀ (wh : Sem Value) (pins : List (Addr × Obj)) (s : Shared), Inv X pins σ H s → wpAny (model X.prog X.w) X.A (isTrue e X.env wh) (TP X pins σ Q) X.xe s
def WA (es : List Expr) : TA := fun σ H Q => ∀ (pos : Pos) (pins : List (Addr × Obj)) (s : Shared), Inv X pins σ H s → wpAny (model X.prog X.w) X.A (spliced (backTo pos (starEach es X.env))) (AP X pins σ Q) X.xe s
def WS (st : Stmt) : TS := fun D σ H => ∀ (pins : List (Addr × Obj)) (s : Shared), Inv X pins σ H s → wpAny (model X.prog X.w) X.A (exec st X.env) (SP X pins D) X.xe s
def WSs (st : List Stmt) : TS := fun D σ H => ∀ (pins : List (Addr × Obj)) (s : Shared), Inv X pins σ H s → wpAny (model X.prog X.w) X.A (execs st X.env) (SP X pins D) X.xe s
def WG (tg : Expr) : TG := fun v σ H Q => ∀ (pins : List (Addr × Obj)) (s : Shared) (u : Value), Inv X pins σ H s → RelV v u →
    wpAny (model X.prog X.w) X.A (assign tg X.env u) (fun _ s' => ∃ σ' H', Inv X pins σ' H' s' ∧ Q σ' H') X.xe s
def WI (tg iter : Expr) : TI := fun σ H R => ∀ (pins : List (Addr × Obj)) (s : Shared), Inv X pins σ H s →
    wpAny (model X.prog X.w) X.A (eval iter X.env) (fun v s1 => wpAny (model X.prog X.w) X.A (pyIter v) (PIE X pins σ tg R) X.xe s1) X.xe s
def WTs (ifs : List Expr) : TT := fun σ H Q => ∀ (pins : List (Addr × Obj)) (s : Shared), Inv X pins σ H s → wpAny (model X.prog X.w) X.A (do
    let mut ok := true
    for c in ifs do
      if ok then ok ← isTrue c X.env (eval c X.env)
    pure ok) (TP X pins σ Q) X.xe s
end
section
variable {X : Cx} {e : Expr} {es : List Expr} {st : Stmt} {sts : List Stmt} {tg iter : Expr}
theorem pe_W : PE X e (WE X e) := ⟨fun pins s _ _ _ I h => h pins s I⟩
theorem pt_W : PT X e (WT X e) := ⟨fun pins s _ _ _ I h => h pins s I⟩
theorem pw_W : PW X e (WW X e) := ⟨fun wh pins s _ _ _ I h => h wh pins s I⟩
theorem pa_W : PA X es (WA X es) := ⟨fun pos pins s _ _ _ I h => h pos pins s I⟩
theorem ps_W : PS X st (WS X st) := ⟨fun pins s _ _ _ I h => h pins s I⟩
theorem pss_W : PSs X sts (WSs X sts) := ⟨fun pins s _ _ _ I h => h pins s I⟩
theorem pg_W : PG X tg (WG X tg) := ⟨fun pins s _ _ _ u _ I r h => h pins s u I r⟩
theorem pi_W : PI X tg iter (WI X tg iter) := ⟨fun pins s _ _ _ I h => h pins s I⟩
theorem WE.of {t : TE} (p : PE X e t) {σ : L2.St} {H : Hp} {Q : VK} (h : t σ H Q) : WE X e σ H Q := fun pins s I => p.run pins s σ H Q I h
theorem WT.of {t : TT} (p : PT X e t) {σ : L2.St} {H : Hp} {Q : Bool → Hp → Prop} (h : t σ H Q) : WT X e σ H Q := fun pins s I => p.run pins s σ H Q I h
theorem WW.of {t : TT} (p : PW X e t) {σ : L2.St} {H : Hp} {Q : Bool → Hp → Prop} (h : t σ H Q) : WW X e σ H Q := fun wh pins s I => p.run wh pins s σ H Q I h
theorem WA.of {t : TA} (p : PA X es t) {σ : L2.St} {H : Hp} {Q : List V → Hp → Prop} (h : t σ H Q) : WA X es σ H Q := fun pos pins s I => p.run pos pins s σ H Q I h
theorem WS.of {t : TS} (p : PS X st t) {σ : L2.St} {H : Hp} {D : Ends} (h : t D σ H) : WS X st D σ H := fun pins s I => p.run pins s σ H D I h
theorem WSs.of {t : TS} (p : PSs X sts t) {σ : L2.St} {H : Hp} {D : Ends} (h : t D σ H) : WSs X sts D σ H := fun pins s I => p.run pins s σ H D I h
theorem WG.of {t : TG} (p : PG X tg t) {v : V} {σ : L2.St} {H : Hp} {Q : L2.St → Hp → Prop} (h : t v σ H Q) : WG X tg v σ H Q := fun pins s u I r => p.run pins s σ H v u Q I r h
theorem WI.of {t : TI} (p : PI X tg iter t) {σ : L2.St} {H : Hp} {R : It → Hp → Prop} (h : t σ H R) : WI X tg iter σ H R := fun pins s I => p.run pins s σ H R I h
end
/-- the best rule of a two-place operation -/
def bestOp (X : Cx) (f : Value → Value → Sem Value) : R2 := fun x y H Q => ∃ r, OpR X f r ∧ r x y H Q
theorem bestOp_ok {X : Cx} {f : Value → Value → Sem Value} : OpR X f (bestOp X f) := fun pins s σ H x y v u Q I rx ry ⟨_, ho, h⟩ => ho pins s σ H x y v u Q I rx ry h
def bestCall (X : Cx) (f : Value) : List V → Hp → VK → Prop := fun vs H Q => ∃ r, CallR X f r ∧ r vs H Q
theorem bestCall_ok {X : Cx} {f : Value} : CallR X f (bestCall X f) := fun pins s σ H xs us Q I r ⟨_, ho, h⟩ => ho pins s σ H xs us Q I r h
def bestIx (X : Cx) : R2 := fun x y H Q => ∃ r, IxR X r ∧ r x y H Q
theorem bestIx_ok {X : Cx} : IxR X (bestIx X) := fun value slice pins s σ H x y v u Q I rx ry ⟨_, ho, h⟩ hs => ho value slice pins s σ H x y v u Q I rx ry h hs
def bestSl (X : Cx) : V → Option Int → Option Int → Hp → VK → Prop := fun x lo hi H Q => ∃ r, SlR X r ∧ r x lo hi H Q
theorem bestSl_ok {X : Cx} : SlR X (bestSl X) := fun pins s σ H x v vl vu lo hi sl Q I rx hs pl pu ⟨_, ho, h⟩ => ho pins s σ H x v vl vu lo hi sl Q I rx hs pl pu h

/-! ### results -/
def XW (X : Cx) (cl : Nm) (σ : L2.St) (Sh : Hp) (μ : List Addr) (c : Nat) (S : Store) : Prop :=
  ∃ W : WX, Takes X W ∧ ∀ H' Sh' μ', Step Sh μ Sh' μ' → Rel X.K cl Sh' H' μ' S → W (.ref (cl.cl c)) none σ H'
def GR {α β : Type} (X : Cx) (cl : Nm) (σ : L2.St) (Sh : Hp) (μ : List Addr) (R : Hp → List Addr → β → α → Prop) (Q : β → Hp → Prop) : Res α → Prop
  | .ok a S => ∀ b H' Sh' μ', Step Sh μ Sh' μ' → Rel X.K cl Sh' H' μ' S → R Sh' μ' b a → Q b H'
  | .exc c S => XW X cl σ Sh μ c S
  | .bad => False
section
variable {X : Cx} {cl : Nm} {Sh Sh' H H' : Hp} {μ μ' : List Addr} {S : Store}
theorem XW.mono (s : Step Sh μ Sh' μ') {c : Nat} (h : XW X cl σ Sh μ c S) : XW X cl σ Sh' μ' c S := by
  obtain ⟨W, t, k⟩ := h
  exact ⟨W, t, fun H1 Sh1 μ1 s1 r => k H1 Sh1 μ1 (s.trans s1) r⟩
theorem GR.mono {α β : Type} {R : Hp → List Addr → β → α → Prop} {Q : β → Hp → Prop} {r : Res α} (s : Step Sh μ Sh' μ') (h : GR X cl σ Sh μ R Q r) : GR X cl σ Sh' μ' R Q r := by
  cases r with
  | ok a S => exact fun b H1 Sh1 μ1 s1 rl q => h b H1 Sh1 μ1 (s.trans s1) rl q
  | exc c S => exact XW.mono s h
  | bad => exact h
theorem GR.imp {α β : Type} {R : Hp → List Addr → β → α → Prop} {Q Q' : β → Hp → Prop} {r : Res α} (k : ∀ b H, Q b H → Q' b H) (h : GR X cl σ Sh μ R Q r) : GR X cl σ Sh μ R Q' r := by
  cases r with
  | ok a S => exact fun b H1 Sh1 μ1 s1 rl q => k b H1 (h b H1 Sh1 μ1 s1 rl q)
  | exc c S => exact h
  | bad => exact h
/-- the first part of a composed result -/
theorem GR.bind {α β α' β' : Type} {R : Hp → List Addr → β → α → Prop} {R' : Hp → List Addr → β' → α' → Prop} {Q : β' → Hp → Prop} {r : Res α} {f : α → Store → Res α'} (h : GR X cl σ Sh μ R' Q (bnd r f)) :
    GR X cl σ Sh μ R (fun b H1 => ∃ Sh1 μ1 a S1, Step Sh μ Sh1 μ1 ∧ Rel X.K cl Sh1 H1 μ1 S1 ∧ R Sh1 μ1 b a ∧ GR X cl σ Sh1 μ1 R' Q (f a S1)) r := by
  cases r with
  | ok a S => exact fun b H1 Sh1 μ1 s1 rl q => ⟨Sh1, μ1, a, S, s1, rl, q, GR.mono s1 h⟩
  | exc c S => exact h
  | bad => exact h
theorem GR.bindE {α β α' β' : Type} {R : Hp → List Addr → β → α → Prop} {R' : Hp → List Addr → β' → α' → Prop} {Q : β' → Hp → Prop} {r : Res α} {f : α → Store → Res α'} (h : GR X cl σ Sh μ R' Q (bnd r f)) :
    GR X cl σ Sh μ R (fun b H1 => ∃ Sh1 μ1 a S1, Step Sh μ Sh1 μ1 ∧ Rel X.K cl Sh1 H1 μ1 S1 ∧ R Sh1 μ1 b a ∧ r = .ok a S1 ∧ GR X cl σ Sh1 μ1 R' Q (f a S1)) r := by
  cases r with
  | ok a S => exact fun b H1 Sh1 μ1 s1 rl q => ⟨Sh1, μ1, a, S, s1, rl, q, rfl, GR.mono s1 h⟩
  | exc c S => exact h
  | bad => exact h
theorem GR.get {α β : Type} {R : Hp → List Addr → β → α → Prop} {Q : β → Hp → Prop} {a : α} {b : β} (h : GR X cl σ Sh μ R Q (.ok a S)) (r : Rel X.K cl Sh H μ S) (q : R Sh μ b a) : Q b H := h b H Sh μ (Step.refl _ _) r q
end
/-- the reading of an expression is right -/
def SE (X : Cx) (cl : Nm) (e : Expr) (f : Env' → Store → Res W) : Prop :=
  ∀ ρ S σ H Sh μ Q, Rel X.K cl Sh H μ S → DenE X.K cl Sh μ σ ρ → GR X cl σ Sh μ (DenW X.K cl) Q (f ρ S) → WE X e σ H Q
def SA (X : Cx) (cl : Nm) (e : List Expr) (f : Env' → Store → Res (List W)) : Prop :=
  ∀ ρ S σ H Sh μ Q, Rel X.K cl Sh H μ S → DenE X.K cl Sh μ σ ρ → GR X cl σ Sh μ (DenWs X.K cl) Q (f ρ S) → WA X e σ H Q
/-- as a test -/
def ST (X : Cx) (cl : Nm) (e : Expr) (f : Env' → Store → Res W) : Prop :=
  ∀ ρ S σ H Sh μ (Q : Bool → Hp → Prop), Rel X.K cl Sh H μ S → DenE X.K cl Sh μ σ ρ → GR X cl σ Sh μ (DenW X.K cl) (fun v H' => ∃ b, v = .bl b ∧ Q b H') (f ρ S) → WT X e σ H Q
/-- the new object: the value stands apart from all that is shared -/
def SF (X : Cx) (cl : Nm) (e : Expr) (f : Env' → Store → Res W) : Prop :=
  ∀ ρ S σ H Sh μ o S1 Q, Rel X.K cl Sh H μ S → DenE X.K cl Sh μ σ ρ → f ρ S = .ok (.t (Ob.tree o)) S1 →
    (∀ p H' Sh' μ', Step Sh μ Sh' μ' → Rel X.K cl Sh' H' μ' S1 → Sh' p = none → (∀ m ob a, get S1 m = some ob → μ'[m]? = some a → a ≠ p) → ObAt X.K cl Sh' H' p o → Q (.ref p) H') → WE X e σ H Q

/-! ### what is read -/
def DenR (K : PySem.W.Frag) (cl : Nm) (Sh H : Hp) (v : V) (d : D) : Prop := Den K cl Sh v d ∨ ∃ a o, v = .ref a ∧ ObAt K cl Sh H a o ∧ d = o.tree
section
variable {K : PySem.W.Frag} {cl : Nm} {Sh H : Hp} {μ : List Addr} {S : Store} {v : V} {d : D}
theorem Rel.rd (r : Rel K cl Sh H μ S) {w : W} (e : rd S w = some d) (h : DenW K cl Sh μ v w) : DenR K cl Sh H v d := by
  cases w with
  | t u => cases e; exact .inl h
  | loc n =>
    obtain ⟨a, e1, rfl⟩ := h
    obtain ⟨o, g, rfl⟩ := Option.map_eq_some_iff.mp (show (get S n).map Ob.tree = some d from e)
    obtain ⟨b, e2, _, q⟩ := r.obj n o g
    rw [e1] at e2; cases e2
    exact .inr ⟨a, o, rfl, q, rfl⟩
theorem DenR.sc (h : DenR K cl Sh H v d) {u : V} (e : d.sc = some u) : v = u := by
  rcases h with h | ⟨a, o, rfl, _, rfl⟩
  · cases h <;> (simp [D.sc] at e; try exact e)
  · cases o <;> simp [Ob.tree, D.sc] at e
theorem DenR.lst (s : Same Sh H) {ds : List D} (h : DenR K cl Sh H v (.lst ds)) : ∃ a vs, v = .ref a ∧ Rd H a (.lst vs) ∧ Dens K cl Sh vs ds := by
  rcases h with h | ⟨a, o, rfl, q, e⟩
  · cases h with | lst h r => exact ⟨_, _, rfl, same_rd s h, r⟩
  · cases o with
    | lst xs => cases e; obtain ⟨vs, h1, h2⟩ := q; exact ⟨a, vs, rfl, .inl h1, h2⟩
    | dct _ _ => cases e
    | ins _ _ => cases e
theorem DenR.lsts (s : Same Sh H) {ds : List D} (e : d.lsts = some ds) (h : DenR K cl Sh H v d) : ∃ a vs, v = .ref a ∧ SqL K H a vs ∧ Dens K cl Sh vs ds := by
  cases d with
  | lst xs => cases e; obtain ⟨a, vs, h1, h2, h3⟩ := h.lst s; exact ⟨a, vs, h1, .inl h2, h3⟩
  | ro xs =>
    cases e
    rcases h with h | ⟨a, o, rfl, q, e⟩
    · cases h with | ro h r => exact ⟨_, _, rfl, s.seq h, r⟩
    · cases o <;> cases e
  | _ => cases e
theorem DenR.items (s : Same Sh H) {ds : List D} (e : d.items = some ds) (h : DenR K cl Sh H v d) : ∃ a vs, v = .ref a ∧ (SqL K H a vs ∨ SqT K H a vs) ∧ Dens K cl Sh vs ds := by
  cases d with
  | lst xs => cases e; obtain ⟨a, vs, h1, h2, h3⟩ := h.lst s; exact ⟨a, vs, h1, .inl (.inl h2), h3⟩
  | ro xs =>
    cases e
    rcases h with h | ⟨a, o, rfl, q, e⟩
    · cases h with | ro h r => exact ⟨_, _, rfl, .inl (s.seq h), r⟩
    · cases o <;> cases e
  | tup xs =>
    cases e
    rcases h with h | ⟨a, o, rfl, q, e⟩
    · cases h with | tup h r => exact ⟨_, _, rfl, .inr (.inl (.inl (s _ _ h))), r⟩
    · cases o <;> cases e
  | rt xs =>
    cases e
    rcases h with h | ⟨a, o, rfl, q, e⟩
    · cases h with | rt h r => exact ⟨_, _, rfl, .inr (same_seqT s h), r⟩
    · cases o <;> cases e
  | _ => cases e
theorem DenR.ins (s : Same Sh H) {c : Nat} {fs : List (Nat × D)} (h : DenR K cl Sh H v (.ins c fs)) : ∃ a dx es, v = .ref a ∧ H a = some (.ins (cl.cl c) dx es) ∧ DenF K cl Sh es fs := by
  rcases h with h | ⟨a, o, rfl, q, e⟩
  · cases h with | ins h r => exact ⟨_, _, _, rfl, s _ _ h, r⟩
  · cases o with
    | ins c' fs' => cases e; obtain ⟨dx, es, h1, h2⟩ := q; exact ⟨a, dx, es, rfl, h1, h2⟩
    | dct _ _ => cases e
    | lst _ => cases e
theorem DenR.full (s : Same Sh H) (h : DenR K cl Sh H v d) : Den K cl H v d := by
  rcases h with h | ⟨a, o, rfl, q, rfl⟩
  · exact Den.mono s h
  · cases o with
    | lst xs => obtain ⟨vs, h1, h2⟩ := q; exact .lst (.inl h1) (h2.mono s)
    | dct t xs =>
      cases t with
      | false => obtain ⟨es, h1, h2⟩ := q; exact .dK h1 (h2.mono s)
      | true => obtain ⟨es, h1, h2⟩ := q; exact .dT h1 (h2.mono s)
    | ins c fs => obtain ⟨dx, es, h1, h2⟩ := q; exact .ins h1 (h2.mono s)
theorem Dens.scs : ∀ {vs us : List V} {ds : List D}, Dens K cl H vs ds → scs ds = some us → vs = us
  | _, _, _, .nil, e => by simp [Rf.scs] at e; exact e.symm
  | _, _, _, .cons (d := d) (ds := ds) h r, e => by
    simp only [Rf.scs] at e
    cases h1 : d.sc with
    | none => rw [h1] at e; cases e
    | some v =>
      cases h2 : Rf.scs ds with
      | none => rw [h1, h2] at e; cases e
      | some vs =>
        rw [h1, h2] at e; cases e
        have q := DenR.sc (Sh := H) (H := H) (.inl h) h1
        rw [q, Dens.scs r h2]
theorem sc_flat {d : D} {u : V} (e : d.sc = some u) : flatV u = true := by
  cases d <;> simp [D.sc] at e <;> (subst e; rfl)
theorem scs_flat : ∀ {ds : List D} {us : List V}, scs ds = some us → us.all flatV = true
  | [], _, e => by simp [Rf.scs] at e; subst e; rfl
  | d :: ds, _, e => by
    simp only [Rf.scs] at e
    cases h1 : d.sc with
    | none => rw [h1] at e; cases e
    | some v =>
      cases h2 : Rf.scs ds with
      | none => rw [h1, h2] at e; cases e
      | some vs =>
        rw [h1, h2] at e; cases e
        rw [List.all_cons, sc_flat h1, scs_flat h2]; rfl
theorem sc_den {d : D} {u : V} (e : d.sc = some u) : Den K cl H u d := by
  cases d <;> simp [D.sc] at e <;> (subst e; constructor)
theorem Den.py (h : Den K cl H v d) : ∀ x, d.py? = some x → Dp K H v x :=
  Den.rec (K := K) (cl := cl) (H := H) (motive_1 := fun v d _ => ∀ x, d.py? = some x → Dp K H v x) (motive_2 := fun v d _ => ∀ x, pys? d = some x → DpAll K H v x) (motive_3 := fun _ _ _ => True) (motive_4 := fun _ _ _ => True) (motive_5 := fun _ _ _ => True)
    (fun x e => by simp [D.py?] at e; subst e; exact .non) (fun b x e => by simp [D.py?] at e; subst e; exact .bl b) (fun b x e => by simp [D.py?] at e; subst e; exact .int b) (fun b x e => by simp [D.py?] at e; subst e; exact .str b)
    (fun {a vs ds} h _ i x e => by
      simp only [D.py?] at e
      cases q : pys? ds with
      | none => rw [q] at e; cases e
      | some ys => rw [q] at e; cases e; exact .lst (.inl h) (i ys q))
    (fun {a vs ds} h _ i x e => by
      simp only [D.py?] at e
      cases q : pys? ds with
      | none => rw [q] at e; cases e
      | some ys => rw [q] at e; cases e; exact .lst h (i ys q))
    (fun {a vs ds} h _ i x e => by
      simp only [D.py?] at e
      cases q : pys? ds with
      | none => rw [q] at e; cases e
      | some ys => rw [q] at e; cases e; exact .tup (.inl (.inl h)) (i ys q))
    (fun {a vs ds} h _ i x e => by
      simp only [D.py?] at e
      cases q : pys? ds with
      | none => rw [q] at e; cases e
      | some ys => rw [q] at e; cases e; exact .tup h (i ys q))
    (fun _ _ _ x e => by simp [D.py?] at e) (fun _ _ _ x e => by simp [D.py?] at e) (fun _ _ _ x e => by simp [D.py?] at e) (fun _ x e => by simp [D.py?] at e)
    (fun x e => by simp [pys?] at e; subst e; exact .nil)
    (fun {v vs d ds} _ _ i j x e => by
      simp only [pys?] at e
      cases q1 : d.py? with
      | none => rw [q1] at e; cases e
      | some y =>
        cases q2 : pys? ds with
        | none => rw [q1, q2] at e; cases e
        | some ys => rw [q1, q2] at e; cases e; exact .cons (i y q1) (j ys q2))
    True.intro (fun _ _ _ _ => True.intro) True.intro (fun _ _ _ _ => True.intro) True.intro (fun _ _ _ _ => True.intro) h
end
end Rf

/-! Rf, part D: primitive operations. -/
namespace Rf
open PySem PySem.Spec PyProof.Rows L2

section
variable {X : Cx}
theorem Inv.lstR {pins : List (Addr × Obj)} {σ : L2.St} {H : Hp} {s : Shared} {l : Addr} {xs : List V} (I : Inv X pins σ H s) (h : Rd H l (.lst xs)) : xs.length ≤ sizeLine ∧ ∃ (its : List Value) (n : Nat), Vals xs its ∧ xs.length = its.length ∧ s.heap.get? l = some { cls := .type "list", data := .seq its.toArray n } := by
  obtain ⟨z, its, n, r, e⟩ := h.ok I.hok
  exact ⟨z, its, n, r, r.length, e⟩
def rCatR : R2 := fun x y H Q => ∃ l b xs zs, x = .ref l ∧ y = .ref b ∧ Rd H l (.lst xs) ∧ Rd H b (.lst zs) ∧ xs.length + zs.length ≤ sizeLine ∧ ∀ p, H p = none → Q (.ref p) (upd H p (.lst (xs ++ zs)))
theorem op_catR : OpR X (binaryOp .Add) rCatR := by
  intro pins s σ H x y v u Q I rx ry h
  obtain ⟨l, b, xs, zs, rfl, rfl, hH, hB, hz, q⟩ := h
  cases rx
  cases ry
  obtain ⟨z, its, n, r, hl, e⟩ := Inv.lstR I hH
  obtain ⟨z2, its2, n2, r2, hl2, e2⟩ := Inv.lstR I hB
  refine PySem.P.add_list e e2 ?_ (by rw [List.size_toArray, List.size_toArray]; omega)
  have ea : its.toArray ++ its2.toArray = (its ++ its2).toArray := by simp
  rw [ea]
  exact ⟨.ref _, _, I.lnew (t' := s.toks) (r.append r2) (by rw [List.length_append]; omega), rfl, q _ I.fresh⟩
def rExtendR : V → List V → Hp → VK → Prop := fun x vs H Q => ∃ l b xs zs, x = .ref l ∧ vs = [.ref b] ∧ H l = some (.lst xs) ∧ Rd H b (.lst zs) ∧ xs.length + zs.length ≤ sizeLine ∧ Q .non (upd H l (.lst (xs ++ zs)))
theorem mt_extendR : MtM X "list.extend" rExtendR := by
  intro pins s σ H x vs v us Q I rx rv h
  obtain ⟨l, b, xs, zs, rfl, rfl, hH, hB, hz, q⟩ := h
  cases rx
  obtain ⟨u, rfl, ru⟩ := rv.one
  cases ru
  obtain ⟨z, its, n, r, hl, e⟩ := I.lstM hH
  obtain ⟨z2, its2, n2, r2, hl2, e2⟩ := Inv.lstR I hB
  have hsz : its.toArray.size + its2.toArray.size ≤ sizeLine := by rw [List.size_toArray, List.size_toArray]; omega
  have hlong : ¬ (!its.toArray.isEmpty && Builtin.List.listTooLong (its.toArray.size + its2.toArray.size)) = true := by
    rw [notLongL hsz, Bool.and_false]
    exact Bool.false_ne_true
  refine call_meets F.slot_list_extend ⟨_, e, rfl⟩ F.entry_list_extend (F.args_list_extend_2 _ _)
    (AutoSeq1.list_extend_list_list_0 l its.toArray n b its2.toArray n2 hlong (by rw [List.size_toArray]; omega) (by omega)) ⟨e, e2, ?_⟩
  refine ⟨.non, _, I.lset (its' := its ++ its2) hH e (by simp) (r.append r2) ?_, rfl, q⟩
  rw [List.length_append]
  omega
def rRepR : R2 := fun x y H Q => ∃ l k xs, x = .ref l ∧ y = .int k ∧ Rd H l (.lst xs) ∧ -(2 ^ 63) ≤ k ∧ k < 2 ^ 63 ∧ xs.length * k.toNat ≤ sizeLine ∧
  ∀ p, H p = none → Q (.ref p) (upd H p (.lst (List.replicate k.toNat xs).flatten))
theorem op_repR : OpR X (binaryOp .Mult) rRepR := by
  intro pins s σ H x y v u Q I rx ry h
  obtain ⟨l, k, xs, rfl, rfl, hH, h1, h2, hz, q⟩ := h
  cases rx
  obtain ⟨t, rfl⟩ := ry
  obtain ⟨z, its, n, r, hl, e⟩ := Inv.lstR I hH
  have hlen : its.toArray.size * k.toNat ≤ sizeLine := by rw [List.size_toArray, ← hl]; exact hz
  have hcap : ¬ its.toArray.size * k.toNat > (2 ^ 63 - 1) / 8 := by
    have : (sizeLine : Nat) ≤ (2 ^ 63 - 1) / 8 := by decide
    omega
  have hfit : ¬ (!Builtin.List.listFitsIndex k) = true := by
    rw [fitsIndex_both h1 h2]
    exact Bool.false_ne_true
  have hlong : ¬ Builtin.List.listTooLong (its.toArray.size * k.toNat) = true := by
    rw [notLongL hlen]
    exact Bool.false_ne_true
  have hnew : List.foldl (fun x1 x2 => x1 ++ x2) #[] (List.replicate (if its.toArray.isEmpty = true then 0 else k.toNat) its.toArray) = (List.replicate k.toNat its).flatten.toArray := by
    have f0 : ∀ m : Nat, List.foldl (fun x1 x2 => x1 ++ x2) #[] (List.replicate m its.toArray) = (List.replicate m its).flatten.toArray := fun m => by
      have := foldl_rep its m []
      rw [List.nil_append] at this
      exact this
    rw [f0]
    cases its with
    | nil => simp
    | cons a r' => rw [if_neg (by simp)]
  refine wpAny_binaryOp_repeat_ref (T := "list") (U := "int") (by decide) ⟨_, e, rfl⟩ (fun s' => typeIs_int s' k t) noFill_list_mul F.fills_int_mul F.slot_int_rmul repeat_list F.slot_int_index.lookup
    (call_meets F.slot_int_rmul (typeIs_int s k t) F.entry_int_rmul (F.args_int_rmul_2 _ _) (int___rmul___int_list k t l its.toArray n)
      ⟨e, rfl, ⟨_, e, rfl⟩, call_meets F.slot_list_mul ⟨_, e, rfl⟩ F.entry_list_mul (F.args_list_mul_2 _ _) (AutoListH.list___mul___list_int_3 l its.toArray n k t hfit hcap hlong) ⟨e, ?_⟩⟩)
  rw [hnew]
  exact ⟨.ref _, _, I.lnew (t' := s.toks) (r.rep k.toNat) (by rw [PyProof.Rows.lm_len_rep_flat, Nat.mul_comm]; exact hz), rfl, q _ I.fresh⟩


/-- a text times an int -/
def rRepS : R2 := fun x y H Q => ∃ z k, x = .str z ∧ y = .int k ∧ 0 ≤ k ∧ k < 1000 ∧ z.length ≤ 1000 ∧ Q (.str (repS z k.toNat)) H
theorem foldl_cps (c : Array Nat) : ∀ (k : Nat) (acc : Array Nat), (List.replicate k c).foldl (· ++ ·) acc = (acc.toList ++ (List.replicate k c.toList).flatten).toArray
  | 0, acc => by simp
  | k + 1, acc => by
    rw [List.replicate_succ, List.foldl_cons, foldl_cps c k, List.replicate_succ, List.flatten_cons]
    simp
theorem op_repS : OpR X (binaryOp .Mult) rRepS := by
  intro pins s σ H x y v u Q I rx ry h
  obtain ⟨z, k, rfl, rfl, h1, h2, hz, q⟩ := h
  obtain ⟨t, rfl⟩ := rx
  obtain ⟨t', rfl⟩ := ry
  refine PySem.P.mul_str (by simp; omega) (fun a _ => ?_) (fun a _ => ?_) ?_
  · have : (9223372036854775807 : Int) / 1000 ≤ (2 ^ 63 - 1) / k := by
      refine (Int.le_ediv_iff_mul_le (by omega)).mpr ?_
      have : (9223372036854775807 : Int) / 1000 * k ≤ 9223372036854775807 / 1000 * 1000 := Int.mul_le_mul_of_nonneg_left (by omega) (by decide)
      omega
    omega
  · unfold Builtin.Str.tooLong
    refine decide_eq_false ?_
    have : z.length * k.toNat ≤ 1000 * 1000 := Nat.mul_le_mul hz (by omega)
    have e : (1000000 : Nat) ≤ sizeLine := by decide
    omega
  · by_cases hk : k < 1
    · rw [if_pos hk]
      have : k.toNat = 0 := by omega
      refine ⟨by decide, V.str (repS z k.toNat), H, I.tok _, ⟨s.toks, ?_⟩, q⟩
      rw [this]; rfl
    · rw [if_neg hk]
      by_cases hq : (k == 1 || z.length == 0) = true
      · rw [if_pos hq]
        refine ⟨.str (repS z k.toNat), H, I, ⟨t, ?_⟩, q⟩
        have e : repS z k.toNat = z := by
          rw [Bool.or_eq_true] at hq
          rcases hq with hq | hq
          · have : k = 1 := by simpa using hq
            subst this
            unfold repS
            simp
          · have hl : z.cps.size = 0 := beq_iff_eq.mp hq
            have : z.cps = #[] := Array.eq_empty_of_size_eq_zero hl
            obtain ⟨c⟩ := z
            simp at this
            subst this
            unfold repS
            simp
        rw [e]
      · rw [if_neg hq]
        have hlen : (List.foldl (fun x1 x2 => x1 ++ x2) #[] (List.replicate k.toNat z.cps)).size ≤ sizeLine := by
          rw [foldl_cps]
          have e1 : ((#[] : Array Nat).toList ++ (List.replicate k.toNat z.cps.toList).flatten).toArray.size = k.toNat * z.cps.size := by simp
          rw [e1]
          have : k.toNat * z.cps.size ≤ 1000 * 1000 := Nat.mul_le_mul (by omega) hz
          have e : (1000000 : Nat) ≤ sizeLine := by decide
          omega
        refine ⟨hlen, V.str (repS z k.toNat), H, I.tok _, ⟨s.toks, ?_⟩, q⟩
        unfold repS
        rw [foldl_cps]
        simp
end
end Rf

/-! Rf, part E: the primitive operations over data. -/
namespace Rf
open PySem PySem.Spec PyProof.Rows L2

/-- what follows a primitive operation -/
def Nxt (K : PySem.W.Frag) (cl : Nm) (Sh : Hp) (μ : List Addr) (S : Store) (d : D) (Q : VK) : Prop :=
  ∀ v H' Sh' μ', Step Sh μ Sh' μ' → Rel K cl Sh' H' μ' S → Den K cl Sh' v d → Q v H'
section
variable {X : Cx} {cl : Nm} {Sh H : Hp} {μ : List Addr} {S : Store} {x y : V} {a b d : D} {Q : VK}
theorem Nxt.here (k : Nxt X.K cl Sh μ S d Q) (r : Rel X.K cl Sh H μ S) {v : V} (h : Den X.K cl Sh v d) : Q v H := k v H Sh μ (Step.refl _ _) r h
/-- a new list -/
theorem Nxt.lst {ds : List D} {vs : List V} (k : Nxt X.K cl Sh μ S (.lst ds) Q) (r : Rel X.K cl Sh H μ S) (h : Dens X.K cl Sh vs ds) : ∀ p, H p = none → Q (.ref p) (upd H p (.lst vs)) := fun p hp => by
  obtain ⟨r1, s1⟩ := r.put (o := .lst vs) hp
  exact k _ _ _ _ s1 r1 (.lst (.inl upd_same) (h.mono s1.sh))
theorem Nxt.tup {ds : List D} {vs : List V} (k : Nxt X.K cl Sh μ S (.tup ds) Q) (r : Rel X.K cl Sh H μ S) (h : Dens X.K cl Sh vs ds) : ∀ p, H p = none → Q (.ref p) (upd H p (.tup vs)) := fun p hp => by
  obtain ⟨r1, s1⟩ := r.put (o := .tup vs) hp
  exact k _ _ _ _ s1 r1 (.tup upd_same (h.mono s1.sh))
theorem Dens.rep {vs : List V} {ds : List D} (h : Dens X.K cl Sh vs ds) : ∀ k : Nat, Dens X.K cl Sh (List.replicate k vs).flatten (List.replicate k ds).flatten
  | 0 => .nil
  | k + 1 => by
    rw [List.replicate_succ, List.replicate_succ, List.flatten_cons, List.flatten_cons]
    exact h.append (h.rep k)
theorem len1000 {n k : Nat} (h : n ≤ 1000) (h2 : k < 1000) : n * k ≤ sizeLine := by
  have : n * k ≤ 1000 * 1000 := Nat.mul_le_mul h (by omega)
  have e : (1000000 : Nat) ≤ sizeLine := by decide
  omega
theorem bin2_ok {o : Op} (e : bin2 o a b = some d) (r : Rel X.K cl Sh H μ S) (ha : DenR X.K cl Sh H x a) (hb : DenR X.K cl Sh H y b) (k : Nxt X.K cl Sh μ S d Q) :
    bestOp X (binaryOp o.py) x y H Q := by
  have hi : ∀ {v : V} {i : Int}, DenR X.K cl Sh H v (.int i) → v = .int i := fun h => h.sc rfl
  have hs : ∀ {v : V} {i : Str}, DenR X.K cl Sh H v (.str i) → v = .str i := fun h => h.sc rfl
  cases o with
  | add =>
    simp only [bin2] at e
    split at e
    · cases e; rw [hi ha, hi hb]; exact ⟨_, op_add, _, _, rfl, rfl, k.here r (.int _)⟩
    · split at e
      · rename_i hl; cases e; rw [hs ha, hs hb]; exact ⟨_, op_add_str, _, _, rfl, rfl, hl, k.here r (.str _)⟩
      · cases e
    · split at e
      · rename_i hl
        cases e
        obtain ⟨p, vs, rfl, h1, h2⟩ := ha.lst r.sub
        obtain ⟨q, us, rfl, h3, h4⟩ := hb.lst r.sub
        exact ⟨_, op_catR, p, q, vs, us, rfl, rfl, h1, h3, by rw [h2.length, h4.length]; exact hl, k.lst r (h2.append h4)⟩
      · cases e
    · cases e
  | sub =>
    simp only [bin2] at e
    split at e
    · cases e; rw [hi ha, hi hb]; exact ⟨_, op_sub, _, _, rfl, rfl, k.here r (.int _)⟩
    · cases e
  | mul =>
    simp only [bin2] at e
    split at e
    · split at e
      · rename_i hl; cases e; rw [hi ha, hi hb]; exact ⟨_, op_mulW, _, _, rfl, rfl, hl, k.here r (.int _)⟩
      · cases e
    · split at e
      · rename_i hl; cases e; rw [hs ha, hi hb]; exact ⟨_, op_repS, _, _, rfl, rfl, hl.1, hl.2.1, hl.2.2, k.here r (.str _)⟩
      · cases e
    · split at e
      · rename_i hl
        cases e
        obtain ⟨p, vs, rfl, h1, h2⟩ := ha.lst r.sub
        rw [hi hb]
        refine ⟨_, op_repR, p, _, vs, rfl, rfl, h1, by omega, by omega, ?_, k.lst r (h2.rep _)⟩
        rw [h2.length]
        exact len1000 hl.2.2 (by omega)
      · cases e
    · cases e
  | fdiv =>
    simp only [bin2] at e
    split at e
    · split at e
      · rename_i hl; cases e; rw [hi ha, hi hb]; exact ⟨_, op_fdivW, _, _, rfl, rfl, hl, k.here r (.int _)⟩
      · cases e
    · cases e
  | mod =>
    simp only [bin2] at e
    split at e
    · split at e
      · rename_i hl; cases e; rw [hi ha, hi hb]; exact ⟨_, op_mod, _, _, rfl, rfl, hl, k.here r (.int _)⟩
      · cases e
    · cases e
  | pow =>
    simp only [bin2] at e
    split at e
    · split at e
      · rename_i hl; cases e; rw [hi ha, hi hb]; exact ⟨_, op_pow, _, _, rfl, rfl, ⟨hl.1, by omega, hl.2.2⟩, k.here r (.int _)⟩
      · cases e
    · cases e
  | shr =>
    simp only [bin2] at e
    split at e
    · split at e
      · rename_i hl; cases e; rw [hi ha, hi hb]; exact ⟨_, op_shr, _, _, rfl, rfl, hl, k.here r (.int _)⟩
      · cases e
    · cases e
  | band =>
    simp only [bin2] at e
    split at e
    · cases e; rw [hi ha, hi hb]; exact ⟨_, op_and, _, _, rfl, rfl, k.here r (.int _)⟩
    · cases e

mutual
theorem py_plain : ∀ (d : D) (p : PyData), d.py? = some p → p.plain = true
  | .non, _, e => by simp [D.py?] at e; subst e; rfl
  | .bl _, _, e => by simp [D.py?] at e; subst e; rfl
  | .int _, _, e => by simp [D.py?] at e; subst e; rfl
  | .str _, _, e => by simp [D.py?] at e; subst e; rfl
  | .lst xs, p, e => by
    simp only [D.py?] at e
    cases q : pys? xs with
    | none => rw [q] at e; cases e
    | some ys => rw [q] at e; cases e; simp only [PyData.plain]; exact pys_plain xs ys q
  | .ro xs, p, e => by
    simp only [D.py?] at e
    cases q : pys? xs with
    | none => rw [q] at e; cases e
    | some ys => rw [q] at e; cases e; simp only [PyData.plain]; exact pys_plain xs ys q
  | .tup xs, p, e => by
    simp only [D.py?] at e
    cases q : pys? xs with
    | none => rw [q] at e; cases e
    | some ys => rw [q] at e; cases e; simp only [PyData.plain]; exact pys_plain xs ys q
  | .rt xs, p, e => by
    simp only [D.py?] at e
    cases q : pys? xs with
    | none => rw [q] at e; cases e
    | some ys => rw [q] at e; cases e; simp only [PyData.plain]; exact pys_plain xs ys q
  | .dct _ _, _, e => by simp [D.py?] at e
  | .ins _ _, _, e => by simp [D.py?] at e
  | .exc _, _, e => by simp [D.py?] at e
theorem pys_plain : ∀ (ds : List D) (ps : List PyData), pys? ds = some ps → PyData.plainAll ps = true
  | [], _, e => by simp [pys?] at e; subst e; rfl
  | d :: ds, ps, e => by
    simp only [pys?] at e
    cases q1 : d.py? with
    | none => rw [q1] at e; cases e
    | some x =>
      cases q2 : pys? ds with
      | none => rw [q1, q2] at e; cases e
      | some xs => rw [q1, q2] at e; cases e; simp only [PyData.plainAll, py_plain d x q1, pys_plain ds xs q2, Bool.and_self]
end
def rEqP (K : PySem.W.Frag) : R2 := fun x y H Q => ∃ d e, Dp K H x d ∧ Dp K H y e ∧ d.plain = true ∧ e.plain = true ∧ d.depth ≤ 64 ∧ Q (.bl (PyData.eqv d e)) H
def rNeP (K : PySem.W.Frag) : R2 := fun x y H Q => ∃ d e, Dp K H x d ∧ Dp K H y e ∧ d.plain = true ∧ e.plain = true ∧ d.depth ≤ 64 ∧ Q (.bl (!PyData.eqv d e)) H
theorem op_eqP (hu : X.A.units + 64 < cLine) : OpR X (compareOp .Eq) (rEqP X.K) := by
  intro pins s σ H x y v u Q I rx ry h
  obtain ⟨d, e, hd, he, sd, se, hz, q⟩ := h
  obtain ⟨as, r1⟩ := Dp.reads I d x v hd rx
  obtain ⟨bs, r2⟩ := Dp.reads I e y u he ry
  exact SeqAt.eq_plain r1 r2 sd se (by have := Nat.min_le_left d.depth e.depth; omega) ⟨.bl _, H, I, rfl, q⟩
theorem op_neP (hu : X.A.units + 64 < cLine) : OpR X (compareOp .NotEq) (rNeP X.K) := by
  intro pins s σ H x y v u Q I rx ry h
  obtain ⟨d, e, hd, he, sd, se, hz, q⟩ := h
  obtain ⟨as, r1⟩ := Dp.reads I d x v hd rx
  obtain ⟨bs, r2⟩ := Dp.reads I e y u he ry
  exact SeqAt.ne_plain r1 r2 sd se (by have := Nat.min_le_left d.depth e.depth; omega) ⟨.bl _, H, I, rfl, q⟩
theorem eqv1_ok {c : Bool} (hu : X.A.units + 64 < cLine) (e : eqv1 a b = some c) (r : Rel X.K cl Sh H μ S) (ha : DenR X.K cl Sh H x a) (hb : DenR X.K cl Sh H y b) :
    (∀ Q : VK, Q (.bl c) H → bestOp X (compareOp .Eq) x y H Q) ∧ ∀ Q : VK, Q (.bl (!c)) H → bestOp X (compareOp .NotEq) x y H Q := by
  have fin : ∀ p q, a.py? = some p → b.py? = some q → (if p.depth ≤ 64 then some (PyData.eqv p q) else none) = some c → (∀ Q : VK, Q (.bl c) H → bestOp X (compareOp .Eq) x y H Q) ∧ ∀ Q : VK, Q (.bl (!c)) H → bestOp X (compareOp .NotEq) x y H Q := by
    intro p q ep eq e
    split at e
    · rename_i hh
      cases e
      exact ⟨fun Q k => ⟨_, op_eqP hu, p, q, Den.py (ha.full r.sub) p ep, Den.py (hb.full r.sub) q eq, py_plain a p ep, py_plain b q eq, hh, k⟩, fun Q k => ⟨_, op_neP hu, p, q, Den.py (ha.full r.sub) p ep, Den.py (hb.full r.sub) q eq, py_plain a p ep, py_plain b q eq, hh, k⟩⟩
    · cases e
  unfold eqv1 at e
  split at e
  · rename_i u v h1 h2
    split at e
    · rename_i hc
      cases e
      rw [ha.sc h1, hb.sc h2]
      exact ⟨fun Q k => ⟨_, op_eq, hc, k⟩, fun Q k => ⟨_, op_ne, hc, k⟩⟩
    · cases e
  · split at e
    · rename_i p q ep eq
      exact fin p q ep eq e
    · cases e
theorem DenR.isNon (h : DenR X.K cl Sh H x a) : decide (x = V.non) = a.isNon := by
  rcases h with h | ⟨p, o, rfl, _, rfl⟩
  · cases h <;> first | rfl | (exact decide_eq_false (fun q => nomatch q))
  · cases o <;> exact decide_eq_false (fun q => nomatch q)
theorem key_den {k : Key} (e : a.key? = some k) (h : DenR X.K cl Sh H x a) : x = kV k := by
  cases a <;> simp [D.key?] at e <;> (subst e; exact h.sc rfl)
theorem keys_den : ∀ {ds : List D} {vs : List V} {ks : List Key}, keys? ds = some ks → Dens X.K cl Sh vs ds → vs = ks.map kV
  | [], _, _, e, .nil => by simp [keys?] at e; subst e; rfl
  | d :: ds, _, _, e, .cons h r => by
    simp only [keys?] at e
    cases q1 : d.key? with
    | none => rw [q1] at e; cases e
    | some k =>
      cases q2 : keys? ds with
      | none => rw [q1, q2] at e; cases e
      | some ks => rw [q1, q2] at e; cases e; rw [key_den (Sh := Sh) (H := Sh) q1 (.inl h), keys_den q2 r]; rfl
theorem keyD_key (k : Key) : (keyD k).key? = some k := by cases k <;> rfl
theorem keys_keyD : ∀ ks : List Key, keys? (ks.map keyD) = some ks
  | [] => rfl
  | k :: ks => by rw [List.map_cons]; simp only [keys?, keyD_key, keys_keyD ks]
theorem DenK.look : ∀ {es : List (Key × V)} {ds : List (D × D)} (k : Key), DenK X.K cl Sh es ds → (∀ d, lookK k ds = some d → ∃ v, valV es k = some v ∧ Den X.K cl Sh v d) ∧ (lookK k ds = none → valV es k = none)
  | _, _, k, .nil => ⟨fun _ e => by simp [lookK] at e, fun _ => rfl⟩
  | _, _, k, .cons (k := k') (v := v) (vs := es) (d := d) (ds := ds) h r => by
    obtain ⟨i1, i2⟩ := r.look k
    have ev : valV ((k', v) :: es) k = if k' = k then some v else valV es k := by
      unfold valV
      rw [List.find?_cons]
      by_cases q : k' = k
      · simp [q]
      · simp [q]
    simp only [lookK, keyD_key]
    rw [ev]
    by_cases q : k' = k
    · subst q
      refine ⟨fun d' e => ⟨v, by simp, ?_⟩, fun e => by simp at e⟩
      simp at e; subst e; exact h
    · have q' : ¬ (some k' = some k) := fun z => q (Option.some.inj z)
      rw [if_neg q', if_neg q]
      exact ⟨i1, i2⟩
theorem DenT.look : ∀ {es : List (List Key × V)} {ds : List (D × D)} (k : List Key), DenT X.K cl Sh es ds → (∀ d, lookT k ds = some d → ∃ v, valV es k = some v ∧ Den X.K cl Sh v d) ∧ (lookT k ds = none → valV es k = none)
  | _, _, k, .nil => ⟨fun _ e => by simp [lookT] at e, fun _ => rfl⟩
  | _, _, k, .cons (k := k') (v := v) (vs := es) (d := d) (ds := ds) h r => by
    obtain ⟨i1, i2⟩ := r.look k
    have ev : valV ((k', v) :: es) k = if k' = k then some v else valV es k := by
      unfold valV
      rw [List.find?_cons]
      by_cases q : k' = k
      · simp [q]
      · simp [q]
    simp only [lookT, D.tkey?, keys_keyD]
    rw [ev]
    by_cases q : k' = k
    · subst q
      refine ⟨fun d' e => ⟨v, by simp, ?_⟩, fun e => by simp at e⟩
      simp at e; subst e; exact h
    · have q' : ¬ (some k' = some k) := fun z => q (Option.some.inj z)
      rw [if_neg q', if_neg q]
      exact ⟨i1, i2⟩
/-- what a dict of ours holds -/
theorem dget_ok {t : Bool} {kvs : List (D × D)} {o : Option D} (e : lookD t b kvs = some o) (r : Rel X.K cl Sh H μ S) (ha : DenR X.K cl Sh H x (.dct t kvs)) (hb : DenR X.K cl Sh H y b) :
    ∃ p ov, x = .ref p ∧ DGet H p y ov ∧ (∀ d, o = some d → ∃ v, ov = some v ∧ Den X.K cl Sh v d) ∧ (o = none → ov = none) := by
  cases t with
  | false =>
    obtain ⟨k, ek, rfl⟩ := Option.map_eq_some_iff.mp (show (b.key?).map (fun q => lookK q kvs) = some o from e)
    have ey := key_den ek hb
    obtain ⟨p, es, rfl, h1, h2⟩ : ∃ p es, x = .ref p ∧ H p = some (.dK es) ∧ DenK X.K cl Sh es kvs := by
      rcases ha with h | ⟨a, o, rfl, q, e⟩
      · cases h with | dK h r' => exact ⟨_, _, rfl, r.sub _ _ h, r'⟩
      · cases o with
        | dct t' _ => cases e; obtain ⟨es, h1, h2⟩ := q; exact ⟨a, es, rfl, h1, h2⟩
        | lst _ => cases e
        | ins _ _ => cases e
    obtain ⟨i1, i2⟩ := h2.look k
    exact ⟨p, valV es k, rfl, .inl ⟨es, k, .inl h1, ey, rfl⟩, i1, i2⟩
  | true =>
    obtain ⟨k, ek, rfl⟩ := Option.map_eq_some_iff.mp (show (b.tkey?).map (fun q => lookT q kvs) = some o from e)
    obtain ⟨p, es, rfl, h1, h2⟩ : ∃ p es, x = .ref p ∧ H p = some (.dT es) ∧ DenT X.K cl Sh es kvs := by
      rcases ha with h | ⟨a, o, rfl, q, e⟩
      · cases h with | dT h r' => exact ⟨_, _, rfl, r.sub _ _ h, r'⟩
      · cases o with
        | dct t' _ => cases e; obtain ⟨es, h1, h2⟩ := q; exact ⟨a, es, rfl, h1, h2⟩
        | lst _ => cases e
        | ins _ _ => cases e
    obtain ⟨q, vs, rfl, hq⟩ : ∃ q, ∃ vs : List V, y = .ref q ∧ H q = some (.tup (k.map kV)) := by
      cases b with
      | tup ds =>
        rcases hb with h | ⟨a, o, rfl, q, e⟩
        · cases h with
          | tup h r' => exact ⟨_, [], rfl, by rw [← keys_den ek r']; exact r.sub _ _ h⟩
        · cases o <;> cases e
      | _ => cases ek
    obtain ⟨i1, i2⟩ := h2.look k
    exact ⟨p, valV es k, rfl, .inr ⟨es, k, q, .inl h1, rfl, hq, rfl⟩, i1, i2⟩
theorem dct_den {kvs : List (D × D)} (r : Rel X.K cl Sh H μ S) (ha : DenR X.K cl Sh H x (.dct false kvs)) : ∃ p es, x = .ref p ∧ H p = some (.dK es) ∧ DenK X.K cl Sh es kvs := by
  rcases ha with h | ⟨a, o, rfl, q, e⟩
  · cases h with | dK h r' => exact ⟨_, _, rfl, r.sub _ _ h, r'⟩
  · cases o with
    | dct t' _ => cases e; obtain ⟨es, h1, h2⟩ := q; exact ⟨a, es, rfl, h1, h2⟩
    | lst _ => cases e
    | ins _ _ => cases e
theorem DenK.len' : ∀ {es : List (Key × V)} {ds : List (D × D)}, DenK X.K cl Sh es ds → es.length = ds.length
  | _, _, .nil => rfl
  | _, _, .cons _ r => congrArg (· + 1) (DenK.len' r)
theorem flatB_sc {d : D} {v : V} (e : d.sc = some v) : flatB v = true := by
  cases d <;> simp [D.sc] at e <;> (subst e; rfl)
theorem same_den {ls : List (D × D)} {fs : List (Key × V)} (hl : DenK X.K cl Sh fs ls) : ∀ {ks : List (D × D)} {es : List (Key × V)}, DenK X.K cl Sh es ks →
    (ks.all (fun p => match p.1.key?, p.2.sc with | some k, some v => decide ((lookK k ls).bind D.sc = some v) | _, _ => false) = true) → ∀ p ∈ es, valV fs p.1 = some p.2 ∧ flatB p.2 = true
  | _, _, .nil, _ => fun _ h => nomatch h
  | _, _, .cons (k := k) (v := v) (d := d) h r, e => by
    rw [List.all_cons, Bool.and_eq_true] at e
    obtain ⟨e1, e2⟩ := e
    intro p hp
    rcases List.mem_cons.mp hp with rfl | hp
    · simp only [keyD_key] at e1
      cases hs : d.sc with
      | none => rw [hs] at e1; cases e1
      | some u =>
        rw [hs] at e1
        have e1 := of_decide_eq_true e1
        have hv : v = u := DenR.sc (Sh := Sh) (H := Sh) (.inl h) hs
        subst hv
        cases hk : lookK k ls with
        | none => rw [hk] at e1; cases e1
        | some d' =>
          rw [hk] at e1
          obtain ⟨v', h1, h2⟩ := (hl.look k).1 d' hk
          have := DenR.sc (Sh := Sh) (H := Sh) (.inl h2) e1
          subst this
          exact ⟨h1, flatB_sc hs⟩
    · exact same_den hl r e2 p hp
theorem eqv2_ok {c : Bool} (hu : X.A.units + 64 < cLine) (e : eqv2 a b = some c) (r : Rel X.K cl Sh H μ S) (ha : DenR X.K cl Sh H x a) (hb : DenR X.K cl Sh H y b) :
    (∀ Q : VK, Q (.bl c) H → bestOp X (compareOp .Eq) x y H Q) ∧ ∀ Q : VK, Q (.bl (!c)) H → bestOp X (compareOp .NotEq) x y H Q := by
  unfold eqv2 at e
  split at e
  · rename_i ks ls
    split at e
    · rename_i hs
      cases e
      obtain ⟨p, es, rfl, h1, h2⟩ := dct_den r ha
      obtain ⟨q, fs, rfl, h3, h4⟩ := dct_den r hb
      unfold sameD at hs
      rw [Bool.and_eq_true] at hs
      have hl : es.length = fs.length := by rw [DenK.len' h2, DenK.len' h4]; exact of_decide_eq_true hs.1
      have hp := same_den h4 h2 hs.2
      exact ⟨fun Q k => ⟨_, op_eq_dictA (by omega), p, q, es, fs, rfl, rfl, h1, h3, hl, hp, k⟩, fun Q k => ⟨_, op_ne_dictA (by omega), p, q, es, fs, rfl, rfl, h1, h3, hl, hp, k⟩⟩
    · cases e
  · exact eqv1_ok hu e r ha hb
theorem op_din (hu : X.A.units + 64 < cLine) : OpR X (compareOp .In) (fun y x H Q => ∃ a o, x = .ref a ∧ DGet H a y o ∧ Q (.bl o.isSome) H) := by
  intro pins s σ H x y v u Q I rx ry h
  obtain ⟨a, o, rfl, g, q⟩ := h
  obtain rfl : u = Value.ref a := ry
  exact d_in (by omega) I g rx fun s3 I3 => ⟨.bl o.isSome, H, I3, rfl, q⟩
theorem op_dnotin (hu : X.A.units + 64 < cLine) : OpR X (compareOp .NotIn) (fun y x H Q => ∃ a o, x = .ref a ∧ DGet H a y o ∧ Q (.bl (!o.isSome)) H) := by
  intro pins s σ H x y v u Q I rx ry h
  obtain ⟨a, o, rfl, g, q⟩ := h
  obtain rfl : u = Value.ref a := ry
  exact d_notIn (by omega) I g rx fun s3 I3 => ⟨.bl (!o.isSome), H, I3, rfl, q⟩
theorem some_eq {o : Option D} {ov : Option V} (h1 : ∀ d, o = some d → ∃ v, ov = some v ∧ Den X.K cl Sh v d) (h2 : o = none → ov = none) : ov.isSome = o.isSome := by
  cases o with
  | none => rw [h2 rfl]; rfl
  | some d => obtain ⟨v, e, _⟩ := h1 d rfl; rw [e]; rfl
theorem cmp2_ok {o : Cm} {c : Bool} (hu : X.A.units + 64 < cLine) (e : cmp2 o a b = some c) (r : Rel X.K cl Sh H μ S) (ha : DenR X.K cl Sh H x a) (hb : DenR X.K cl Sh H y b) (k : Q (.bl c) H) :
    bestOp X (compareOp o.py) x y H Q := by
  have hi : ∀ {v : V} {i : Int}, DenR X.K cl Sh H v (.int i) → v = .int i := fun h => h.sc rfl
  have hs : ∀ {v : V} {i : Str}, DenR X.K cl Sh H v (.str i) → v = .str i := fun h => h.sc rfl
  have inq : ∀ {xs : List D} {c : Bool}, b.items = some xs → inSeq a xs = some c → ∃ p ys, y = .ref p ∧ (SqL X.K H p ys ∨ SqT X.K H p ys) ∧ flatV x = true ∧ ys.all flatV = true ∧ inV x ys = c := by
    intro xs c h1 h2
    obtain ⟨p, ys, rfl, h3, h4⟩ := hb.items r.sub h1
    unfold inSeq at h2
    split at h2
    · rename_i v vs e1 e2
      cases h2
      have ex := ha.sc e1
      have ey := h4.scs e2
      subst ex ey
      exact ⟨p, _, rfl, h3, sc_flat e1, scs_flat e2, rfl⟩
    · cases h2
  cases o with
  | eq => exact (eqv2_ok hu e r ha hb).1 Q k
  | ne =>
    obtain ⟨c', e', rfl⟩ := Option.map_eq_some_iff.mp (show (eqv2 a b).map (!·) = some c from e)
    exact (eqv2_ok hu e' r ha hb).2 Q k
  | lt => simp only [cmp2] at e; split at e <;> cases e; rw [hi ha, hi hb]; exact ⟨_, op_lt, _, _, rfl, rfl, k⟩
  | le => simp only [cmp2] at e; split at e <;> cases e; rw [hi ha, hi hb]; exact ⟨_, op_le, _, _, rfl, rfl, k⟩
  | gt => simp only [cmp2] at e; split at e <;> cases e; rw [hi ha, hi hb]; exact ⟨_, op_gt, _, _, rfl, rfl, k⟩
  | ge => simp only [cmp2] at e; split at e <;> cases e; rw [hi ha, hi hb]; exact ⟨_, op_ge, _, _, rfl, rfl, k⟩
  | mem =>
    simp only [cmp2] at e
    split at e
    · cases e; rw [hs ha, hs hb]; exact ⟨_, op_in_str, _, _, rfl, rfl, k⟩
    · obtain ⟨o, e', rfl⟩ := Option.map_eq_some_iff.mp e
      obtain ⟨p, ov, rfl, h1, h2, h3⟩ := dget_ok e' r hb ha
      exact ⟨_, op_din hu, p, ov, rfl, h1, by rw [some_eq h2 h3]; exact k⟩
    · split at e
      · rename_i xs h1
        obtain ⟨p, ys, rfl, h2, h3, h4, h5⟩ := inq h1 e
        exact ⟨_, op_in_seq, p, ys, rfl, h2, h3, h4, by rw [h5]; exact k⟩
      · cases e
  | nmem =>
    simp only [cmp2] at e
    split at e
    · cases e; rw [hs ha, hs hb]; exact ⟨_, op_notin_str, _, _, rfl, rfl, k⟩
    · obtain ⟨o, e', rfl⟩ := Option.map_eq_some_iff.mp e
      obtain ⟨p, ov, rfl, h1, h2, h3⟩ := dget_ok e' r hb ha
      exact ⟨_, op_dnotin hu, p, ov, rfl, h1, by rw [some_eq h2 h3]; exact k⟩
    · split at e
      · rename_i xs h1
        obtain ⟨c', e', rfl⟩ := Option.map_eq_some_iff.mp e
        obtain ⟨p, ys, rfl, h2, h3, h4, h5⟩ := inq h1 e'
        exact ⟨_, op_notIn_seq, p, ys, rfl, h2, h3, h4, by rw [h5]; exact k⟩
      · cases e
  | is_ =>
    simp only [cmp2] at e
    split at e
    · cases e
      exact ⟨_, op_isN, hb.sc rfl, by rw [ha.isNon]; exact k⟩
    · cases e
  | isn =>
    simp only [cmp2] at e
    split at e
    · cases e
      exact ⟨_, op_notN, hb.sc rfl, by rw [ha.isNon]; exact k⟩
    · cases e

theorem Dens.atI {vs : List V} {ds : List D} {i : Int} {d : D} (h : Dens X.K cl Sh vs ds) (e : atI ds i = some d) : ∃ v, atI vs i = some v ∧ Den X.K cl Sh v d := by
  unfold L2.atI at e ⊢
  rw [h.length]
  cases q : ixN ds.length i with
  | none => rw [q] at e; cases e
  | some j =>
    rw [q] at e
    exact h.get (show ds[j]? = some d from e)
theorem ix_dict (hu : X.A.units + 64 < cLine) : IxR X (fun x y H Q => ∃ a v, x = .ref a ∧ DGet H a y (some v) ∧ Q v H) := by
  intro value slice pins s σ H x y v u Q I rx ry h hs
  obtain ⟨a, z, rfl, g, q⟩ := h
  obtain rfl : v = Value.ref a := rx
  exact PyProof.Rows.tail_any (dict_typeIs I g) PySem.F.slot_dict_getitem.lookup (d_getItem (by omega) I g ry fun w' s3 I3 rw' => ⟨z, H, I3, rw', q⟩) hs
theorem ix2_ok (hu : X.A.units + 64 < cLine) (e : ix2 a b = some d) (r : Rel X.K cl Sh H μ S) (ha : DenR X.K cl Sh H x a) (hb : DenR X.K cl Sh H y b) (k : Nxt X.K cl Sh μ S d Q) : bestIx X x y H Q := by
  have hi : ∀ {v : V} {i : Int}, DenR X.K cl Sh H v (.int i) → v = .int i := fun h => h.sc rfl
  have hs : ∀ {v : V} {i : Str}, DenR X.K cl Sh H v (.str i) → v = .str i := fun h => h.sc rfl
  unfold ix2 at e
  split at e
  · split at e
    · rename_i hz
      obtain ⟨c, hc, rfl⟩ := Option.map_eq_some_iff.mp e
      rw [hs ha, hi hb]
      exact ⟨_, ix_str, _, _, c, rfl, rfl, hz, hc, k.here r (.str _)⟩
    · cases e
  · obtain ⟨p, vs, rfl, h1, h2⟩ := ha.lsts (ds := _) r.sub rfl
    rw [hi hb]
    obtain ⟨v, h3, h4⟩ := h2.atI e
    exact ⟨_, ix_list, p, vs, _, v, rfl, rfl, h1, h3, k.here r h4⟩
  · obtain ⟨p, vs, rfl, h1, h2⟩ := ha.lsts (ds := _) r.sub rfl
    rw [hi hb]
    obtain ⟨v, h3, h4⟩ := h2.atI e
    exact ⟨_, ix_list, p, vs, _, v, rfl, rfl, h1, h3, k.here r h4⟩
  · obtain ⟨p, vs, rfl, h1, h2⟩ := ha.items (ds := _) r.sub rfl
    rw [hi hb]
    obtain ⟨v, h3, h4⟩ := h2.atI e
    rcases h1 with h1 | h1
    · exact ⟨_, ix_list, p, vs, _, v, rfl, rfl, h1, h3, k.here r h4⟩
    · exact ⟨_, ix_tup, p, vs, _, v, rfl, rfl, h1, h3, k.here r h4⟩
  · obtain ⟨p, vs, rfl, h1, h2⟩ := ha.items (ds := _) r.sub rfl
    rw [hi hb]
    obtain ⟨v, h3, h4⟩ := h2.atI e
    rcases h1 with h1 | h1
    · exact ⟨_, ix_list, p, vs, _, v, rfl, rfl, h1, h3, k.here r h4⟩
    · exact ⟨_, ix_tup, p, vs, _, v, rfl, rfl, h1, h3, k.here r h4⟩
  · split at e
    · rename_i o e'
      obtain ⟨p, ov, rfl, h1, h2, h3⟩ := dget_ok e' r ha hb
      obtain ⟨v, rfl, h4⟩ := h2 d e
      exact ⟨_, ix_dict hu, p, v, rfl, h1, k.here r h4⟩
    · cases e
  · cases e
theorem Dens.cut {vs : List V} {ds : List D} (h : Dens X.K cl Sh vs ds) (lo hi : Option Int) : Dens X.K cl Sh (cutV vs lo hi) (cutD ds lo hi) := by
  unfold L2.cutV cutD
  rw [h.length]
  exact (h.drop _).take _
theorem Dens.ints : ∀ {vs : List V} {ds : List D} {ns : List Int}, Dens X.K cl H vs ds → ints? ds = some ns → vs = ns.map V.int
  | _, _, _, .nil, e => by simp [ints?] at e; subst e; rfl
  | _, _, _, .cons (d := d) (ds := ds) h r, e => by
    cases d <;> simp only [ints?] at e
    case int i =>
      cases q : ints? ds with
      | none => rw [q] at e; cases e
      | some l =>
        rw [q] at e; cases e
        rw [DenR.sc (Sh := H) (H := H) (.inl h) rfl, Dens.ints r q]
        rfl
    all_goals cases e
theorem Dens.bls : ∀ {vs : List V} {ds : List D} {ns : List Bool}, Dens X.K cl H vs ds → bls? ds = some ns → vs = ns.map V.bl
  | _, _, _, .nil, e => by simp [bls?] at e; subst e; rfl
  | _, _, _, .cons (d := d) (ds := ds) h r, e => by
    cases d <;> simp only [bls?] at e
    case bl i =>
      cases q : bls? ds with
      | none => rw [q] at e; cases e
      | some l =>
        rw [q] at e; cases e
        rw [DenR.sc (Sh := H) (H := H) (.inl h) rfl, Dens.bls r q]
        rfl
    all_goals cases e
theorem Dens.strs : ∀ {vs : List V} {ds : List D} {ns : List Str}, Dens X.K cl H vs ds → strs? ds = some ns → vs = ns.map V.str
  | _, _, _, .nil, e => by simp [strs?] at e; subst e; rfl
  | _, _, _, .cons (d := d) (ds := ds) h r, e => by
    cases d <;> simp only [strs?] at e
    case str i =>
      cases q : strs? ds with
      | none => rw [q] at e; cases e
      | some l =>
        rw [q] at e; cases e
        rw [DenR.sc (Sh := H) (H := H) (.inl h) rfl, Dens.strs r q]
        rfl
    all_goals cases e
theorem listMax_ok : ∀ {ns : List Int} {m : Int}, listMax ns = some m → m ∈ ns ∧ ∀ y ∈ ns, y ≤ m
  | [i], m, e => by
    have : i = m := Option.some.inj e
    subst this; simp
  | i :: j :: r, m, e => by
    simp only [listMax] at e
    cases q : listMax (j :: r) with
    | none =>
      have e' : (match listMax (j :: r) with | some m => some (if m > i then m else i) | none => none) = some m := e
      rw [q] at e'; cases e'
    | some n =>
      have e' : (match listMax (j :: r) with | some m => some (if m > i then m else i) | none => none) = some m := e
      rw [q] at e'
      obtain ⟨h1, h2⟩ := listMax_ok q
      have e2 : (if n > i then n else i) = m := Option.some.inj e'
      by_cases hh : n > i
      · rw [if_pos hh] at e2
        subst e2
        refine ⟨List.mem_cons_of_mem _ h1, fun y hy => ?_⟩
        rcases List.mem_cons.mp hy with rfl | hy
        · omega
        · exact h2 y hy
      · rw [if_neg hh] at e2
        subst e2
        refine ⟨List.mem_cons_self, fun y hy => ?_⟩
        rcases List.mem_cons.mp hy with rfl | hy
        · omega
        · have := h2 y hy; omega
theorem listMin_ok : ∀ {ns : List Int} {m : Int}, listMin ns = some m → m ∈ ns ∧ ∀ y ∈ ns, m ≤ y
  | [i], m, e => by
    have : i = m := Option.some.inj e
    subst this; simp
  | i :: j :: r, m, e => by
    simp only [listMin] at e
    cases q : listMin (j :: r) with
    | none =>
      have e' : (match listMin (j :: r) with | some m => some (if m < i then m else i) | none => none) = some m := e
      rw [q] at e'; cases e'
    | some n =>
      have e' : (match listMin (j :: r) with | some m => some (if m < i then m else i) | none => none) = some m := e
      rw [q] at e'
      obtain ⟨h1, h2⟩ := listMin_ok q
      have e2 : (if n < i then n else i) = m := Option.some.inj e'
      by_cases hh : n < i
      · rw [if_pos hh] at e2
        subst e2
        refine ⟨List.mem_cons_of_mem _ h1, fun y hy => ?_⟩
        rcases List.mem_cons.mp hy with rfl | hy
        · omega
        · exact h2 y hy
      · rw [if_neg hh] at e2
        subst e2
        refine ⟨List.mem_cons_self, fun y hy => ?_⟩
        rcases List.mem_cons.mp hy with rfl | hy
        · omega
        · have := h2 y hy; omega
end
end Rf

namespace Rf
open PySem PySem.Spec PyProof.Rows L2
inductive DenRs (K : PySem.W.Frag) (cl : Nm) (Sh H : Hp) : List V → List D → Prop
  | nil : DenRs K cl Sh H [] []
  | cons {v : V} {vs : List V} {d : D} {ds : List D} : DenR K cl Sh H v d → DenRs K cl Sh H vs ds → DenRs K cl Sh H (v :: vs) (d :: ds)
section
variable {X : Cx} {cl : Nm} {Sh H : Hp} {μ : List Addr} {S : Store} {x y : V} {a b d : D} {Q : VK}
theorem slice2_ok {lo hi : Option Int} (e : slice2 a lo hi = some d) (r : Rel X.K cl Sh H μ S) (ha : DenR X.K cl Sh H x a) (k : Nxt X.K cl Sh μ S d Q) : bestSl X x lo hi H Q := by
  unfold slice2 at e
  split at e
  · split at e
    · rename_i hz
      cases e
      rw [ha.sc (u := .str _) rfl]
      exact ⟨_, sl_str, _, rfl, hz, k.here r (.str _)⟩
    · cases e
  · cases e
    obtain ⟨p, vs, rfl, h1, h2⟩ := ha.lsts (ds := _) r.sub rfl
    exact ⟨_, sl_list, p, vs, rfl, h1, k.lst r (h2.cut lo hi)⟩
  · cases e
    obtain ⟨p, vs, rfl, h1, h2⟩ := ha.lsts (ds := _) r.sub rfl
    exact ⟨_, sl_list, p, vs, rfl, h1, k.lst r (h2.cut lo hi)⟩
  · split at e
    · cases e
    · rename_i hn
      cases e
      rcases ha with h | ⟨p, o, rfl, q, e⟩
      · cases h with
        | tup h h2 => exact ⟨_, sl_tup, _, _, rfl, .inl (.inl (r.sub _ _ h)), by rw [h2.length]; exact hn, k.tup r (h2.cut lo hi)⟩
      · cases o <;> cases e
  · cases e
theorem keys_dens {K : PySem.W.Frag} : ∀ {es : List (Key × V)} {ds : List (D × D)}, DenK K cl Sh es ds → Dens K cl Sh (es.map fun kv => kV kv.1) (ds.map (·.1))
  | _, _, .nil => .nil
  | _, _, .cons (k := k) _ r => .cons (by cases k <;> constructor) (keys_dens r)
theorem bf_ok {b : Bf} {as : List D} {vs : List V} (hc : X.calm = true) (e : bf b as = some d) (r : Rel X.K cl Sh H μ S) (ha : DenRs X.K cl Sh H vs as) (k : Nxt X.K cl Sh μ S d Q) : bestCall X b.val vs H Q := by
  have hi : ∀ {v : V} {i : Int}, DenR X.K cl Sh H v (.int i) → v = .int i := fun h => h.sc rfl
  have hb : ∀ {v : V} {i : Bool}, DenR X.K cl Sh H v (.bl i) → v = .bl i := fun h => h.sc rfl
  have hs : ∀ {v : V} {i : Str}, DenR X.K cl Sh H v (.str i) → v = .str i := fun h => h.sc rfl
  unfold bf at e
  split at e
  · -- len of a text
    split at e
    · rename_i hz
      cases e
      cases ha with
      | cons h h' =>
        cases h'
        rw [hs h]
        exact ⟨_, call_len_str, _, rfl, hz, k.here r (.int _)⟩
    · cases e
  · obtain ⟨xs, h1, rfl⟩ := Option.map_eq_some_iff.mp e
    cases ha with
    | cons h h' =>
      cases h'
      obtain ⟨p, vs, rfl, h2, h3⟩ := h.items r.sub h1
      refine ⟨_, call_len_seq, p, vs, rfl, h2, ?_⟩
      rw [h3.length]
      exact k.here r (.int _)
  · cases e
    cases ha with
    | cons h h' =>
      cases h' with
      | cons h2 h' =>
        cases h'
        rw [hi h, hi h2]
        exact ⟨_, call_max2 hc, _, _, rfl, k.here r (.int _)⟩
  · cases e
    cases ha with
    | cons h h' =>
      cases h' with
      | cons h2 h' =>
        cases h'
        rw [hi h, hi h2]
        exact ⟨_, call_min2 hc, _, _, rfl, k.here r (.int _)⟩
  · cases ha with
    | cons h h' =>
      cases h'
      split at e
      · rename_i xs h1
        split at e
        · rename_i ns h2
          obtain ⟨m, h3, rfl⟩ := Option.map_eq_some_iff.mp e
          obtain ⟨p, vs, rfl, h4, h5⟩ := h.lsts r.sub h1
          have ev := h5.ints h2
          subst ev
          obtain ⟨m1, m2⟩ := listMax_ok h3
          refine ⟨_, cr_max hc, p, ns, rfl, h4, List.length_pos_of_mem m1, fun n hn hn2 => ?_⟩
          have : n = m := by
            have a1 := m2 n hn
            have a2 := hn2 m m1
            omega
          rw [this]
          exact k.here r (.int _)
        · cases e
      · cases e
  · cases ha with
    | cons h h' =>
      cases h'
      split at e
      · rename_i xs h1
        split at e
        · rename_i ns h2
          obtain ⟨m, h3, rfl⟩ := Option.map_eq_some_iff.mp e
          obtain ⟨p, vs, rfl, h4, h5⟩ := h.lsts r.sub h1
          have ev := h5.ints h2
          subst ev
          obtain ⟨m1, m2⟩ := listMin_ok h3
          refine ⟨_, cr_min hc, p, ns, rfl, h4, List.length_pos_of_mem m1, fun n hn hn2 => ?_⟩
          have : n = m := by
            have a1 := m2 n hn
            have a2 := hn2 m m1
            omega
          rw [this]
          exact k.here r (.int _)
        · cases e
      · cases e
  · cases ha with
    | cons h h' =>
      cases h'
      split at e
      · rename_i xs h1
        obtain ⟨bs, h2, rfl⟩ := Option.map_eq_some_iff.mp e
        obtain ⟨p, vs, rfl, h4, h5⟩ := h.lsts r.sub h1
        have ev := h5.bls h2
        subst ev
        exact ⟨_, cr_all hc, p, bs, rfl, h4, k.here r (.bl _)⟩
      · cases e
  · cases ha with
    | cons h h' =>
      cases h'
      split at e
      · rename_i xs h1
        obtain ⟨bs, h2, rfl⟩ := Option.map_eq_some_iff.mp e
        obtain ⟨p, vs, rfl, h4, h5⟩ := h.lsts r.sub h1
        have ev := h5.bls h2
        subst ev
        exact ⟨_, cr_any hc, p, bs, rfl, h4, k.here r (.bl _)⟩
      · cases e
  · cases ha with
    | cons h h' =>
      cases h'
      split at e
      · rename_i xs h1
        obtain ⟨bs, h2, rfl⟩ := Option.map_eq_some_iff.mp e
        obtain ⟨p, vs, rfl, h4, h5⟩ := h.lsts r.sub h1
        have ev := h5.ints h2
        subst ev
        exact ⟨_, cr_sum hc, p, bs, rfl, h4, k.here r (.int _)⟩
      · cases e
  · cases e
    cases ha with
    | cons h h' => cases h'; rw [hi h]; exact ⟨_, call_int1, .inl ⟨_, rfl, k.here r (.int _)⟩⟩
  · cases e
    cases ha with
    | cons h h' => cases h'; rw [hb h]; exact ⟨_, call_int1, .inr ⟨_, rfl, k.here r (.int _)⟩⟩
  · cases e
    cases ha with
    | cons h h' => cases h'; rw [hi h]; exact ⟨_, call_abs, _, rfl, k.here r (.int _)⟩
  · split at e
    · rename_i hz
      cases e
      cases ha with
      | cons h h' => cases h'; rw [hi h]; exact ⟨_, call_str_int, _, rfl, hz, k.here r (.str _)⟩
    · cases e
  · obtain ⟨xs, h1, rfl⟩ := Option.map_eq_some_iff.mp e
    cases ha with
    | cons h h' =>
      cases h'
      obtain ⟨p, vs, rfl, h2, h3⟩ := h.items r.sub h1
      exact ⟨_, call_list_of, p, vs, rfl, h2, k.lst r h3⟩
  · rename_i kvs
    cases e
    cases ha with
    | cons h h' =>
      cases h'
      obtain ⟨p, es, rfl, h2, h3⟩ := dct_den r h
      exact ⟨_, call_listD hc, p, es, rfl, .inl h2, k.lst r (keys_dens h3)⟩
  · split at e
    · rename_i hz
      cases e
      cases ha with
      | cons h h' =>
        cases h' with
        | cons h2 h' =>
          cases h'
          rw [hi h, hi h2]
          exact ⟨_, call_divmodW, _, _, rfl, ⟨hz.1, PyProof.noPylong_of_log2 hz.2⟩, k.tup r (.cons (.int _) (.cons (.int _) .nil))⟩
    · cases e
  · cases e
end
end Rf

/-! Rf, part G: one lemma a node. -/
namespace Rf
open PySem PySem.Spec PyProof.Rows L2

structure Plain (e : Expr) : Prop where
  star : ∀ es env, starEach (e :: es) env = (false, eval e env) :: starEach es env
  mark : ∀ op, behindInMarks op e = false
  attr : ∀ f env, attributeBase e f env (eval e env) = eval e env
  sub : ∀ o i, subscripted e false o i = operate [o, i] (getItem o i)
  fold : ∀ env x, foldedSetIterable e env x = pure x

section
variable {X : Cx} {cl : Nm}
/-- an expression whose reading is a step of its parts -/
theorem GR.ok? {Sh : Hp} {μ : List Addr} {S : Store} {o : Option D} {Q : VK} (h : GR X cl σ Sh μ (DenW X.K cl) Q (ok? S o)) : ∃ d, o = some d ∧ Nxt X.K cl Sh μ S d Q := by
  cases o with
  | none => exact h.elim
  | some d => exact ⟨d, rfl, fun v H' Sh' μ' s r q => h v H' Sh' μ' s r q⟩
theorem se_var {i : Nat} {x : Str} {p : Pos} (hN : X.N[i]? = some x) (hv : Vis X.env.scope x) (hd : (x == ("__debug__" : Str)) = false) (hcd : (x == ("__classdict__" : Str)) = false) :
    SE X cl (.Name x p) (fun ρ S => match (ρ[i]?).getD none with | some w => .ok w S | none => .bad) := by
  intro ρ S σ H Sh μ Q r de h
  cases e : ρ[i]? with
  | none => simp only [e] at h; exact h.elim
  | some o =>
    cases o with
    | none => simp only [e] at h; exact h.elim
    | some w =>
      simp only [e] at h
      obtain ⟨v, e1, e2⟩ := de.get i w e
      exact WE.of (pe_var hN hv hd hcd) ⟨v, e1, GR.get h r e2⟩
theorem se_int {i : Int} {k : Nat} {p : Pos} : SE X cl (.Constant (.int i) k p) (fun _ S => .ok (.t (.int i)) S) := fun _ _ _ _ _ _ _ r _ h => WE.of pe_int (GR.get h r (Den.int i))
theorem se_str {i : Str} {k : Nat} {p : Pos} : SE X cl (.Constant (.str i) k p) (fun _ S => .ok (.t (.str i)) S) := fun _ _ _ _ _ _ _ r _ h => WE.of pe_str (GR.get h r (Den.str i))
theorem se_bl {i : Bool} {k : Nat} {p : Pos} : SE X cl (.Constant (.bool i) k p) (fun _ S => .ok (.t (.bl i)) S) := fun _ _ _ _ _ _ _ r _ h => WE.of pe_bl (GR.get h r (Den.bl i))
theorem se_non {k : Nat} {p : Pos} : SE X cl (.Constant .none k p) (fun _ S => .ok (.t .non) S) := fun _ _ _ _ _ _ _ r _ h => WE.of pe_non (GR.get h r Den.non)
theorem se_glo {x : Str} {d : D} {p : Pos} {v : V} {u : Value} (hg : Gl X x) (hm : X.mg x = some u) (rv : RelV v u) (hd : (x == ("__debug__" : Str)) = false) (k : ∀ H, Den X.K cl H v d) :
    SE X cl (.Name x p) (fun _ S => .ok (.t d) S) := fun _ _ _ _ _ _ _ r _ h => WE.of (pe_glob hg hm rv hd) (GR.get h r (k _))

/-- two operands, then a step -/
theorem two {ea eb : Expr} {fa fb : Env' → Store → Res W} (ha : SE X cl ea fa) (hb : SE X cl eb fb) {ρ : Env'} {S : Store} {σ : L2.St} {H Sh : Hp} {μ : List Addr} {Q : VK} {k : W → W → Store → Res W}
    (r : Rel X.K cl Sh H μ S) (de : DenE X.K cl Sh μ σ ρ) (h : GR X cl σ Sh μ (DenW X.K cl) Q (bnd (fa ρ S) fun x S1 => bnd (fb ρ S1) fun y S2 => k x y S2)) {R : V → V → Hp → Prop}
    (hk : ∀ x y a b H2 Sh2 μ2 S2, Step Sh μ Sh2 μ2 → Rel X.K cl Sh2 H2 μ2 S2 → DenW X.K cl Sh2 μ2 x a → DenW X.K cl Sh2 μ2 y b → GR X cl σ Sh2 μ2 (DenW X.K cl) Q (k a b S2) → R x y H2) :
    WE X ea σ H (fun x H1 => WE X eb σ H1 (fun y H2 => R x y H2)) := by
  refine ha ρ S σ H Sh μ _ r de ?_
  refine GR.imp ?_ (GR.bind (R := DenW X.K cl) h)
  rintro x H1 ⟨Sh1, μ1, a, S1, s1, r1, d1, g1⟩
  refine hb ρ S1 σ H1 Sh1 μ1 _ r1 (de.step s1) ?_
  refine GR.imp ?_ (GR.bind (R := DenW X.K cl) g1)
  rintro y H2 ⟨Sh2, μ2, b, S2, s2, r2, d2, g2⟩
  exact hk x y a b H2 Sh2 μ2 S2 (s1.trans s2) r2 (d1.step s2) d2 g2

theorem se_bin {o : Op} {ea eb : Expr} {fa fb : Env' → Store → Res W} {p : Pos} (ha : SE X cl ea fa) (hb : SE X cl eb fb) :
    SE X cl (.BinOp ea o.py eb p) (fun ρ S => bnd (fa ρ S) fun x S1 => bnd (fb ρ S1) fun y S2 => match rd S2 x, rd S2 y with
      | some dx, some dy => ok? S2 (bin2 o dx dy)
      | _, _ => .bad) := by
  intro ρ S σ H Sh μ Q r de h
  refine WE.of (pe_op bestOp_ok pe_W pe_W) (two ha hb r de h ?_)
  intro x y a b H2 Sh2 μ2 S2 _ r2 d1 d2 g
  split at g
  · rename_i dx dy e1 e2
    obtain ⟨d, e, k⟩ := GR.ok? g
    exact bin2_ok e r2 (r2.rd e1 d1) (r2.rd e2 d2) k
  · exact g.elim
theorem se_neg {ea : Expr} {fa : Env' → Store → Res W} {p : Pos} (ha : SE X cl ea fa) :
    SE X cl (.UnaryOp .USub ea p) (fun ρ S => bnd (fa ρ S) fun x S1 => match x with | .t (.int i) => .ok (.t (.int (-i))) S1 | _ => .bad) := by
  intro ρ S σ H Sh μ Q r de h
  refine WE.of (pe_un un_neg pe_W) (ha ρ S σ H Sh μ _ r de (GR.imp ?_ (GR.bind (R := DenW X.K cl) h)))
  rintro x H1 ⟨Sh1, μ1, a, S1, s1, r1, d1, g1⟩
  split at g1
  · rename_i i
    have : x = .int i := DenR.sc (Sh := Sh1) (H := H1) (.inl d1) rfl
    exact ⟨i, this, GR.get g1 r1 (Den.int _)⟩
  · exact g1.elim
/-- what a comparison reads -/
theorem cmp_step {o : Cm} (hu : X.A.units + 64 < cLine) {x y : V} {a b : W} {H2 Sh2 : Hp} {μ2 : List Addr} {S2 : Store} {Q : VK} (r2 : Rel X.K cl Sh2 H2 μ2 S2) (d1 : DenW X.K cl Sh2 μ2 x a) (d2 : DenW X.K cl Sh2 μ2 y b)
    (g : GR X cl σ Sh2 μ2 (DenW X.K cl) Q (match rd S2 a, rd S2 b with | some dx, some dy => ok? S2 ((cmp2 o dx dy).map .bl) | _, _ => .bad)) : bestOp X (compareOp o.py) x y H2 Q := by
  split at g
  · rename_i dx dy e1 e2
    obtain ⟨d, e, k⟩ := GR.ok? g
    obtain ⟨c, e', rfl⟩ := Option.map_eq_some_iff.mp e
    exact cmp2_ok hu e' r2 (r2.rd e1 d1) (r2.rd e2 d2) (k.here r2 (.bl _))
  · exact g.elim
theorem se_cmp {o : Cm} (hu : X.A.units + 64 < cLine) {ea eb : Expr} {fa fb : Env' → Store → Res W} {p : Pos} (hm : behindInMarks o.py eb = false) (ha : SE X cl ea fa) (hb : SE X cl eb fb) :
    SE X cl (.Compare ea [o.py] [eb] p) (fun ρ S => bnd (fa ρ S) fun x S1 => bnd (fb ρ S1) fun y S2 => match rd S2 x, rd S2 y with
      | some dx, some dy => ok? S2 ((cmp2 o dx dy).map .bl)
      | _, _ => .bad) := by
  intro ρ S σ H Sh μ Q r de h
  refine WE.of (pe_cmpR bestOp_ok pe_W pe_W hm) (two ha hb r de h ?_)
  intro x y a b H2 Sh2 μ2 S2 _ r2 d1 d2 g
  exact cmp_step hu r2 d1 d2 g
theorem st_cmp {o : Cm} (hu : X.A.units + 64 < cLine) {ea eb : Expr} {fa fb : Env' → Store → Res W} {p : Pos} (hm : behindInMarks o.py eb = false) (ha : SE X cl ea fa) (hb : SE X cl eb fb) :
    ST X cl (.Compare ea [o.py] [eb] p) (fun ρ S => bnd (fa ρ S) fun x S1 => bnd (fb ρ S1) fun y S2 => match rd S2 x, rd S2 y with
      | some dx, some dy => ok? S2 ((cmp2 o dx dy).map .bl)
      | _, _ => .bad) := by
  intro ρ S σ H Sh μ Q r de h
  refine WT.of (pt_cmpR bestOp_ok pe_W pe_W hm) (two ha hb r de h ?_)
  intro x y a b H2 Sh2 μ2 S2 _ r2 d1 d2 g
  exact cmp_step hu r2 d1 d2 g
/-- the second comparison of a chain -/
theorem chain_step {o q : Cm} (hu : X.A.units + 64 < cLine) {x y : V} {a b : W} {ec : Expr} {fc : Env' → Store → Res W} (hc : SE X cl ec fc) {ρ : Env'} {σ : L2.St} {H2 Sh2 : Hp} {μ2 : List Addr} {S2 : Store} {Q : VK} (r2 : Rel X.K cl Sh2 H2 μ2 S2)
    (de : DenE X.K cl Sh2 μ2 σ ρ) (d1 : DenW X.K cl Sh2 μ2 x a) (d2 : DenW X.K cl Sh2 μ2 y b) {k : D → D → Store → Res W} {tc : V → Hp → VK → Prop}
    (hk : ∀ dy z dz H3 Sh3 μ3 S3, Step Sh2 μ2 Sh3 μ3 → Rel X.K cl Sh3 H3 μ3 S3 → Den X.K cl Sh3 y dy → Den X.K cl Sh3 z dz → GR X cl σ Sh3 μ3 (DenW X.K cl) Q (k dy dz S3) → tc z H3 Q)
    (g : GR X cl σ Sh2 μ2 (DenW X.K cl) Q (match (generalizing := false) a, b with
    | .t dx, .t dy => match cmp2 o dx dy with
      | some true => bnd (fc ρ S2) fun z S3 => match z with | .t dz => k dy dz S3 | _ => .bad
      | some false => .ok (.t (.bl false)) S2
      | none => .bad
    | _, _ => .bad)) :
    bestOp X (compareOp o.py) x y H2 (fun z H3 => ∃ k, z = .bl k ∧ (if k = true then WE X ec σ H3 (fun w' H4 => tc w' H4 Q) else Q (.bl false) H3)) := by
  split at g
  · rename_i dx dy
    split at g
    · rename_i e
      refine cmp2_ok hu e r2 (.inl d1) (.inl d2) ⟨true, rfl, ?_⟩
      rw [if_pos rfl]
      refine hc ρ S2 σ H2 Sh2 μ2 _ r2 de (GR.imp ?_ (GR.bind (R := DenW X.K cl) g))
      rintro z H3 ⟨Sh3, μ3, c, S3, s3, r3, d3, g3⟩
      split at g3
      · exact hk dy z _ H3 Sh3 μ3 S3 s3 r3 (Den.mono s3.sh d2) d3 g3
      · exact g3.elim
    · rename_i e
      refine cmp2_ok hu e r2 (.inl d1) (.inl d2) ⟨false, rfl, ?_⟩
      rw [if_neg Bool.false_ne_true]
      exact GR.get g r2 (Den.bl _)
    · exact g.elim
  · exact g.elim
theorem ch2_read {o q : Cm} (hu : X.A.units + 64 < cLine) {ea eb ec : Expr} {fa fb fc : Env' → Store → Res W} (ha : SE X cl ea fa) (hb : SE X cl eb fb) (hc : SE X cl ec fc) {ρ : Env'} {S : Store} {σ : L2.St} {H Sh : Hp} {μ : List Addr} {Q : VK}
    (r : Rel X.K cl Sh H μ S) (de : DenE X.K cl Sh μ σ ρ) (h : GR X cl σ Sh μ (DenW X.K cl) Q (bnd (fa ρ S) fun x S1 => bnd (fb ρ S1) fun y S2 => match x, y with
    | .t dx, .t dy => match cmp2 o dx dy with
      | some true => bnd (fc ρ S2) fun z S3 => match z with | .t dz => ok? S3 ((cmp2 q dy dz).map .bl) | _ => .bad
      | some false => .ok (.t (.bl false)) S2
      | none => .bad
    | _, _ => .bad)) : tChain (bestOp X (compareOp o.py)) (bestOp X (compareOp q.py)) (WE X ea) (WE X eb) (WE X ec) σ H Q := by
  refine two ha hb r de h ?_
  intro x y a b H2 Sh2 μ2 S2 s2 r2 d1 d2 g
  refine chain_step (q := q) (tc := fun w' H4 Q => bestOp X (compareOp q.py) y w' H4 Q) hu hc r2 (de.step s2) d1 d2 (k := fun dy dz S3 => ok? S3 ((cmp2 q dy dz).map .bl)) ?_ g
  intro dy z dz H3 Sh3 μ3 S3 _ r3 e1 e2 g3
  obtain ⟨d, e, k⟩ := GR.ok? g3
  obtain ⟨c, e', rfl⟩ := Option.map_eq_some_iff.mp e
  exact cmp2_ok hu e' r3 (.inl e1) (.inl e2) (k.here r3 (.bl _))
theorem se_ch2 {o q : Cm} (hu : X.A.units + 64 < cLine) {ea eb ec : Expr} {fa fb fc : Env' → Store → Res W} {p : Pos} (hm : behindInMarks q.py ec = false) (ha : SE X cl ea fa) (hb : SE X cl eb fb) (hc : SE X cl ec fc) :
    SE X cl (.Compare ea [o.py, q.py] [eb, ec] p) (fun ρ S => bnd (fa ρ S) fun x S1 => bnd (fb ρ S1) fun y S2 => match x, y with
    | .t dx, .t dy => match cmp2 o dx dy with
      | some true => bnd (fc ρ S2) fun z S3 => match z with | .t dz => ok? S3 ((cmp2 q dy dz).map .bl) | _ => .bad
      | some false => .ok (.t (.bl false)) S2
      | none => .bad
    | _, _ => .bad) := fun _ _ _ _ _ _ _ r de h => WE.of (pe_chain bestOp_ok bestOp_ok pe_W pe_W pe_W (by show behindInMarks q.py ec = false; exact hm)) (ch2_read hu ha hb hc r de h)
theorem st_ch2 {o q : Cm} (hu : X.A.units + 64 < cLine) {ea eb ec : Expr} {fa fb fc : Env' → Store → Res W} {p : Pos} (hm : behindInMarks q.py ec = false) (ha : SE X cl ea fa) (hb : SE X cl eb fb) (hc : SE X cl ec fc) :
    ST X cl (.Compare ea [o.py, q.py] [eb, ec] p) (fun ρ S => bnd (fa ρ S) fun x S1 => bnd (fb ρ S1) fun y S2 => match x, y with
    | .t dx, .t dy => match cmp2 o dx dy with
      | some true => bnd (fc ρ S2) fun z S3 => match z with | .t dz => ok? S3 ((cmp2 q dy dz).map .bl) | _ => .bad
      | some false => .ok (.t (.bl false)) S2
      | none => .bad
    | _, _ => .bad) := fun _ _ _ _ _ _ _ r de h => WT.of (pt_chain bestOp_ok bestOp_ok pe_W pe_W pe_W (by show behindInMarks q.py ec = false; exact hm)) (ch2_read hu ha hb hc r de h)

/-- three comparisons -/
def tChain3 (r r' r'' : R2) (ta tb tc td : TE) : TE := fun σ H Q => ta σ H fun x H1 => tb σ H1 fun y H2 => r x y H2 fun z H3 => ∃ k, z = .bl k ∧
  (if k = true then tc σ H3 fun w H4 => r' y w H4 fun z' H5 => ∃ k', z' = .bl k' ∧ (if k' = true then td σ H5 fun u H6 => r'' w u H6 Q else Q (.bl false) H5) else Q (.bl false) H3)
theorem pt_chain3 {op op' op'' : CmpOp} {r r' r'' : R2} {a b c d : Expr} {ta tb tc td : TE} {pos : Pos} (ho : OpR X (compareOp op) r) (ho' : OpR X (compareOp op') r') (ho'' : OpR X (compareOp op'') r'') (ha : PE X a ta) (hb : PE X b tb) (hc : PE X c tc) (hd : PE X d td)
    (hm : lastMarks [op, op', op''] [b, c, d] = false) : PT X (.Compare a [op, op', op''] [b, c, d] pos) (tTest (tChain3 r r' r'' ta tb tc td)) := by
  refine ⟨fun pins s σ H Q I h => ?_⟩
  refine isTrue_chain (thn (ha.run pins s σ H _ I h) fun v s1 ⟨x, H1, I1, r1, q1⟩ => test_link (thn (hb.run pins s1 σ H1 _ I1 q1) fun u s2 ⟨y, H2, I2, r2, q2⟩ =>
    thn (ho pins s2 σ H2 x y v u _ I2 r1 r2 q2) fun d s3 ⟨z, H3, I3, r3, k, e, q3⟩ => ?_)) hm
  subst e
  cases r3
  refine wpAny_truthy_bool ?_
  cases k with
  | false =>
    obtain ⟨k', e', q'⟩ := q3
    cases e'
    exact ite_ff ⟨H3, I3, q'⟩
  | true =>
    refine ite_tt (test_link (thn (hc.run pins s3 σ H3 _ I3 q3) fun w' s4 ⟨z', H4, I4, r4, q4⟩ => thn (ho' pins s4 σ H4 y z' u w' _ I4 r2 r4 q4) fun d' s5 ⟨z2, H5, I5, r5, k2, e2, q5⟩ => ?_))
    subst e2
    cases r5
    refine wpAny_truthy_bool ?_
    cases k2 with
    | false =>
      obtain ⟨k', e', q'⟩ := q5
      cases e'
      exact ite_ff ⟨H5, I5, q'⟩
    | true =>
      refine ite_tt (test_last (thn (hd.run pins s5 σ H5 _ I5 q5) fun w'' s6 ⟨z'', H6, I6, r6, q6⟩ => thn (ho'' pins s6 σ H6 z' z'' w' w'' _ I6 r4 r6 q6) fun d'' s7 ⟨z3, H7, I7, r7, k3, e3, q7⟩ => ?_))
      subst e3
      cases r7
      exact wpAny_truthy_bool ⟨H7, I7, q7⟩
theorem st_ch3 {o q u : Cm} (hu : X.A.units + 64 < cLine) {ea eb ec ed : Expr} {fa fb fc fd : Env' → Store → Res W} {p : Pos} (hm : behindInMarks u.py ed = false) (ha : SE X cl ea fa) (hb : SE X cl eb fb) (hc : SE X cl ec fc) (hd : SE X cl ed fd) :
    ST X cl (.Compare ea [o.py, q.py, u.py] [eb, ec, ed] p) (fun ρ S => bnd (fa ρ S) fun x S1 => bnd (fb ρ S1) fun y S2 => match x, y with
    | .t dx, .t dy => match cmp2 o dx dy with
      | some true => bnd (fc ρ S2) fun z S3 => match z with
        | .t dz => match cmp2 q dy dz with
          | some true => bnd (fd ρ S3) fun w S4 => match w with | .t dw => ok? S4 ((cmp2 u dz dw).map .bl) | _ => .bad
          | some false => .ok (.t (.bl false)) S3
          | none => .bad
        | _ => .bad
      | some false => .ok (.t (.bl false)) S2
      | none => .bad
    | _, _ => .bad) := by
  intro ρ S σ H Sh μ Q r de h
  refine WT.of (pt_chain3 bestOp_ok bestOp_ok bestOp_ok pe_W pe_W pe_W pe_W (by show behindInMarks u.py ed = false; exact hm)) ?_
  refine two ha hb r de h ?_
  intro x y a b H2 Sh2 μ2 S2 s2 r2 d1 d2 g
  have de2 := de.step s2
  split at g
  · rename_i dx dy
    split at g
    · rename_i e
      refine cmp2_ok hu e r2 (.inl d1) (.inl d2) ⟨true, rfl, ?_⟩
      rw [if_pos rfl]
      refine hc ρ S2 σ H2 Sh2 μ2 _ r2 de2 (GR.imp ?_ (GR.bind (R := DenW X.K cl) g))
      rintro z H3 ⟨Sh3, μ3, c, S3, s3, r3, d3, g3⟩
      split at g3
      · split at g3
        · rename_i e3
          refine cmp2_ok hu e3 r3 (.inl (Den.mono s3.sh d2)) (.inl d3) ⟨true, rfl, ?_⟩
          rw [if_pos rfl]
          refine hd ρ S3 σ H3 Sh3 μ3 _ r3 (de2.step s3) (GR.imp ?_ (GR.bind (R := DenW X.K cl) g3))
          rintro w H4 ⟨Sh4, μ4, c4, S4, s4, r4, d4, g4⟩
          split at g4
          · obtain ⟨d, e, k⟩ := GR.ok? g4
            obtain ⟨c, e', rfl⟩ := Option.map_eq_some_iff.mp e
            exact cmp2_ok hu e' r4 (.inl (Den.mono s4.sh d3)) (.inl d4) (k.here r4 (.bl _))
          · exact g4.elim
        · rename_i e3
          refine cmp2_ok hu e3 r3 (.inl (Den.mono s3.sh d2)) (.inl d3) ⟨false, rfl, ?_⟩
          rw [if_neg Bool.false_ne_true]
          exact GR.get g3 r3 (Den.bl _)
        · exact g3.elim
      · exact g3.elim
    · rename_i e
      refine cmp2_ok hu e r2 (.inl d1) (.inl d2) ⟨false, rfl, ?_⟩
      rw [if_neg Bool.false_ne_true]
      exact GR.get g r2 (Den.bl _)
    · exact g.elim
  · exact g.elim
theorem se_not {ea : Expr} {fa : Env' → Store → Res W} {p : Pos} (ha : SE X cl ea fa) :
    SE X cl (.UnaryOp .Not ea p) (fun ρ S => bnd (fa ρ S) fun x S1 => match x with | .t (.bl b) => .ok (.t (.bl (!b))) S1 | _ => .bad) := by
  intro ρ S σ H Sh μ Q r de h
  refine WE.of (pe_not pe_W) (ha ρ S σ H Sh μ _ r de (GR.imp ?_ (GR.bind (R := DenW X.K cl) h)))
  rintro x H1 ⟨Sh1, μ1, a, S1, s1, r1, d1, g1⟩
  split at g1
  · rename_i b
    exact ⟨b, DenR.sc (Sh := Sh1) (H := H1) (.inl d1) rfl, GR.get g1 r1 (Den.bl _)⟩
  · exact g1.elim
theorem st_not {ea : Expr} {fa : Env' → Store → Res W} {p : Pos} (ha : ST X cl ea fa) :
    ST X cl (.UnaryOp .Not ea p) (fun ρ S => bnd (fa ρ S) fun x S1 => match x with | .t (.bl b) => .ok (.t (.bl (!b))) S1 | _ => .bad) := by
  intro ρ S σ H Sh μ Q r de h
  refine WT.of (pt_not pt_W) (ha ρ S σ H Sh μ _ r de (GR.imp ?_ (GR.bind (R := DenW X.K cl) h)))
  rintro x H1 ⟨Sh1, μ1, a, S1, s1, r1, d1, g1⟩
  split at g1
  · rename_i b
    obtain ⟨c, e, q⟩ := GR.get (b := V.bl (!b)) g1 r1 (Den.bl _)
    exact ⟨b, DenR.sc (Sh := Sh1) (H := H1) (.inl d1) rfl, by cases e; exact q⟩
  · exact g1.elim
/-- a test by its value -/
theorem st_val {ea : Expr} {fa : Env' → Store → Res W} (ha : SE X cl ea fa) (he : ∀ whole, isTrue ea X.env whole = (do let v ← whole; standAt ea.pos; holding [v] (truthy v))) : ST X cl ea fa :=
  fun ρ S σ H Sh μ Q r de h => WT.of (pt_val pe_W he) (ha ρ S σ H Sh μ _ r de h)
theorem ife_read {ec : Expr} {fc : Env' → Store → Res W} (hc : ST X cl ec fc) {ρ : Env'} {S : Store} {σ : L2.St} {H Sh : Hp} {μ : List Addr} {Q : VK} {k1 k2 : Store → Res W} {P1 P2 : Hp → Prop}
    (r : Rel X.K cl Sh H μ S) (de : DenE X.K cl Sh μ σ ρ) (h : GR X cl σ Sh μ (DenW X.K cl) Q (bnd (fc ρ S) fun x S1 => match x with
      | .t (.bl true) => k1 S1
      | .t (.bl false) => k2 S1
      | _ => .bad))
    (h1 : ∀ H1 Sh1 μ1 S1, Step Sh μ Sh1 μ1 → Rel X.K cl Sh1 H1 μ1 S1 → GR X cl σ Sh1 μ1 (DenW X.K cl) Q (k1 S1) → P1 H1)
    (h2 : ∀ H1 Sh1 μ1 S1, Step Sh μ Sh1 μ1 → Rel X.K cl Sh1 H1 μ1 S1 → GR X cl σ Sh1 μ1 (DenW X.K cl) Q (k2 S1) → P2 H1) : WT X ec σ H (fun c H1 => if c = true then P1 H1 else P2 H1) := by
  refine hc ρ S σ H Sh μ _ r de (GR.imp ?_ (GR.bind (R := DenW X.K cl) h))
  rintro x H1 ⟨Sh1, μ1, a, S1, s1, r1, d1, g1⟩
  split at g1
  · exact ⟨true, DenR.sc (Sh := Sh1) (H := H1) (.inl d1) rfl, by rw [if_pos rfl]; exact h1 _ _ _ _ s1 r1 g1⟩
  · exact ⟨false, DenR.sc (Sh := Sh1) (H := H1) (.inl d1) rfl, by rw [if_neg Bool.false_ne_true]; exact h2 _ _ _ _ s1 r1 g1⟩
  · exact g1.elim
theorem se_ife {ec ea eb : Expr} {fc fa fb : Env' → Store → Res W} {p : Pos} (hc : ST X cl ec fc) (ha : SE X cl ea fa) (hb : SE X cl eb fb) :
    SE X cl (.IfExp ec ea eb p) (fun ρ S => bnd (fc ρ S) fun x S1 => match x with
      | .t (.bl true) => fa ρ S1
      | .t (.bl false) => fb ρ S1
      | _ => .bad) := by
  intro ρ S σ H Sh μ Q r de h
  refine WE.of (pe_ifExp pt_W pe_W pe_W) (ife_read hc r de h ?_ ?_)
  · exact fun H1 Sh1 μ1 S1 s1 r1 g => ha ρ S1 σ H1 Sh1 μ1 Q r1 (de.step s1) g
  · exact fun H1 Sh1 μ1 S1 s1 r1 g => hb ρ S1 σ H1 Sh1 μ1 Q r1 (de.step s1) g
end
end Rf

/-! Rf, part H: nodes, continued. -/
namespace Rf
open PySem PySem.Spec PyProof.Rows L2
section
variable {X : Cx} {cl : Nm}
/-! ### and, or -/
def bop1 (fa : Env' → Store → Res W) : Env' → Store → Res W := fun ρ S => bnd (fa ρ S) fun x S1 => match x with | .t (.bl b) => .ok (.t (.bl b)) S1 | _ => .bad
def bopc (isAnd : Bool) (fa fr : Env' → Store → Res W) : Env' → Store → Res W := fun ρ S => bnd (fa ρ S) fun x S1 => match x with | .t (.bl b) => if b = isAnd then fr ρ S1 else .ok (.t (.bl b)) S1 | _ => .bad
def bopPy (isAnd : Bool) : BoolOp := if isAnd then .And else .Or
def SW (X : Cx) (cl : Nm) (e : Expr) (f : Env' → Store → Res W) : Prop :=
  ∀ ρ S σ H Sh μ (Q : Bool → Hp → Prop), Rel X.K cl Sh H μ S → DenE X.K cl Sh μ σ ρ → GR X cl σ Sh μ (DenW X.K cl) (fun v H' => ∃ b, v = .bl b ∧ Q b H') (f ρ S) → WW X e σ H Q
theorem SW.st {e : Expr} {f : Env' → Store → Res W} (h : SW X cl e f) : ST X cl e f := fun ρ S σ H Sh μ Q r de g => WT.of pw_W.pt (h ρ S σ H Sh μ Q r de g)
theorem den_bl {Sh : Hp} {v : V} {b : Bool} (h : Den X.K cl Sh v (.bl b)) : v = .bl b := DenR.sc (Sh := Sh) (H := Sh) (.inl h) rfl
theorem den_int {Sh : Hp} {v : V} {b : Int} (h : Den X.K cl Sh v (.int b)) : v = .int b := DenR.sc (Sh := Sh) (H := Sh) (.inl h) rfl
theorem den_str {Sh : Hp} {v : V} {b : Str} (h : Den X.K cl Sh v (.str b)) : v = .str b := DenR.sc (Sh := Sh) (H := Sh) (.inl h) rfl
def orlE (fa fb : Env' → Store → Res W) : Env' → Store → Res W := fun ρ S => bnd (fa ρ S) fun x S1 => match rd S1 x with
    | some .non => fb ρ S1
    | some (.lst ds) => if ds.isEmpty = true then fb ρ S1 else .ok x S1
    | _ => .bad
theorem se_orl {ea eb : Expr} {fa fb : Env' → Store → Res W} {p : Pos} (ha : SE X cl ea fa) (hb : SE X cl eb fb) : SE X cl (.BoolOp .Or [ea, eb] p) (orlE fa fb) := by
  intro ρ S σ H Sh μ Q r de h
  refine WE.of (pe_orT pe_W (pe_one pe_W)) (ha ρ S σ H Sh μ _ r de (GR.imp ?_ (GR.bind (R := DenW X.K cl) h)))
  rintro v H1 ⟨Sh1, μ1, x, S1, s1, r1, d1, g1⟩
  split at g1
  · rename_i e
    have hv : v = .non := (r1.rd e d1).sc rfl
    subst hv
    exact ⟨false, rfl, hb ρ S1 σ H1 Sh1 μ1 Q r1 (de.step s1) g1⟩
  · rename_i ds e
    obtain ⟨a, vs, rfl, h1, h2⟩ := (r1.rd e d1).lst r1.sub
    have hl := h2.length
    have he : vs.isEmpty = ds.isEmpty := by
      cases vs <;> cases ds <;> simp at hl ⊢
    split at g1
    · rename_i hz
      exact ⟨false, .inl ⟨vs, .inl h1, by rw [he, hz]; rfl⟩, hb ρ S1 σ H1 Sh1 μ1 Q r1 (de.step s1) g1⟩
    · rename_i hz
      exact ⟨true, .inl ⟨vs, .inl h1, by rw [he]; cases q : ds.isEmpty; rfl; exact absurd q hz⟩, GR.get g1 r1 d1⟩
  · exact g1.elim
def lensE (fa : Env' → Store → Res W) : Env' → Store → Res W := fun ρ S => bnd (fa ρ S) fun x S1 => match x with
    | .t (.lst ds) => match Rf.strs? ds with
      | some ys => if ys.length ≤ 1000 then .ok (.t (.int (metS ys).length)) S1 else .bad
      | none => .bad
    | _ => .bad
theorem se_lens {ea : Expr} {fa : Env' → Store → Res W} {p1 p2 q p : Pos} (hc : X.calm = true) (hp : Plain ea) (ha : SE X cl ea fa) (hg : Gl X (Str.ofString "len")) (hm : X.mg (Str.ofString "len") = none) (hg2 : Gl X (Str.ofString "set")) (hm2 : X.mg (Str.ofString "set") = none) :
    SE X cl (.Call (.Name (Str.ofString "len") p1) [.Call (.Name (Str.ofString "set") p2) [ea] [] q] [] p) (lensE fa) := by
  intro ρ S σ H Sh μ Q r de h
  refine WE.of (pe_lenSetS hc hg hm hg2 hm2 pe_W (hp.star _ _)) (ha ρ S σ H Sh μ _ r de (GR.imp ?_ (GR.bind (R := DenW X.K cl) h)))
  rintro v H1 ⟨Sh1, μ1, x, S1, s1, r1, d1, g1⟩
  split at g1
  · rename_i ds
    split at g1
    · rename_i ys e
      split at g1
      · rename_i hl
        obtain ⟨a, vs, rfl, h1, h2⟩ := DenR.lst r1.sub (.inl d1)
        have ev := h2.strs e
        subst ev
        exact ⟨a, ys, rfl, .inl h1, hl, GR.get g1 r1 (Den.int _)⟩
      · exact g1.elim
    · exact g1.elim
  · exact g1.elim
theorem se_bop1 {isAnd : Bool} {ea : Expr} {fa : Env' → Store → Res W} {p : Pos} (ha : SE X cl ea fa) : SE X cl (.BoolOp (bopPy isAnd) [ea] p) (bop1 fa) := by
  intro ρ S σ H Sh μ Q r de h
  refine WE.of (pe_one pe_W) (ha ρ S σ H Sh μ _ r de (GR.imp ?_ (GR.bind (R := DenW X.K cl) h)))
  rintro x H1 ⟨Sh1, μ1, a, S1, s1, r1, d1, g1⟩
  split at g1
  · exact GR.get g1 r1 d1
  · exact g1.elim
theorem se_bopc {isAnd : Bool} {ea eb : Expr} {es : List Expr} {fa fr : Env' → Store → Res W} {p : Pos} (ha : SE X cl ea fa) (hr : SE X cl (.BoolOp (bopPy isAnd) (eb :: es) p) fr) :
    SE X cl (.BoolOp (bopPy isAnd) (ea :: eb :: es) p) (bopc isAnd fa fr) := by
  intro ρ S σ H Sh μ Q r de h
  have key : WE X ea σ H (fun x H1 => ∃ c, x = .bl c ∧ if c = isAnd then WE X (.BoolOp (bopPy isAnd) (eb :: es) p) σ H1 Q else Q (.bl c) H1) := by
    refine ha ρ S σ H Sh μ _ r de (GR.imp ?_ (GR.bind (R := DenW X.K cl) h))
    rintro x H1 ⟨Sh1, μ1, a, S1, s1, r1, d1, g1⟩
    split at g1
    · rename_i b
      refine ⟨b, den_bl d1, ?_⟩
      by_cases hb : b = isAnd
      · rw [if_pos hb] at g1 ⊢; exact hr ρ S1 σ H1 Sh1 μ1 Q r1 (de.step s1) g1
      · rw [if_neg hb] at g1 ⊢; exact GR.get g1 r1 (Den.bl _)
    · exact g1.elim
  cases isAnd with
  | true =>
    refine WE.of (pe_and pe_W pe_W) (fun pins s I => wpAny_mono (key pins s I) ?_ fun _ _ z => z)
    rintro u s1 ⟨v, H1, I1, r1, c, rfl, q⟩
    refine ⟨_, H1, I1, r1, c, rfl, ?_⟩
    cases c <;> exact q
  | false =>
    refine WE.of (pe_or pe_W pe_W) (fun pins s I => wpAny_mono (key pins s I) ?_ fun _ _ z => z)
    rintro u s1 ⟨v, H1, I1, r1, c, rfl, q⟩
    refine ⟨_, H1, I1, r1, c, rfl, ?_⟩
    cases c <;> exact q
theorem sw_bop1 {isAnd : Bool} {ea : Expr} {fa : Env' → Store → Res W} {p : Pos} (ha : ST X cl ea fa) : SW X cl (.BoolOp (bopPy isAnd) [ea] p) (bop1 fa) := by
  intro ρ S σ H Sh μ Q r de h
  have key : WT X ea σ H Q := by
    refine ha ρ S σ H Sh μ _ r de (GR.imp ?_ (GR.bind (R := DenW X.K cl) h))
    rintro x H1 ⟨Sh1, μ1, a, S1, s1, r1, d1, g1⟩
    split at g1
    · exact GR.get g1 r1 d1
    · exact g1.elim
  cases isAnd with
  | true => exact WW.of (pw_and1 pt_W) key
  | false => exact WW.of (pw_or1 pt_W) key
theorem sw_bopc {isAnd : Bool} {ea eb : Expr} {es : List Expr} {fa fr : Env' → Store → Res W} {p : Pos} (ha : ST X cl ea fa) (hr : SW X cl (.BoolOp (bopPy isAnd) (eb :: es) p) fr) :
    SW X cl (.BoolOp (bopPy isAnd) (ea :: eb :: es) p) (bopc isAnd fa fr) := by
  intro ρ S σ H Sh μ Q r de h
  have key : WT X ea σ H (fun c H1 => if c = isAnd then WW X (.BoolOp (bopPy isAnd) (eb :: es) p) σ H1 Q else Q c H1) := by
    refine ha ρ S σ H Sh μ _ r de (GR.imp ?_ (GR.bind (R := DenW X.K cl) h))
    rintro x H1 ⟨Sh1, μ1, a, S1, s1, r1, d1, g1⟩
    split at g1
    · rename_i b
      refine ⟨b, den_bl d1, ?_⟩
      by_cases hb : b = isAnd
      · rw [if_pos hb] at g1 ⊢; exact hr ρ S1 σ H1 Sh1 μ1 Q r1 (de.step s1) g1
      · rw [if_neg hb] at g1 ⊢
        obtain ⟨c, e, q⟩ := GR.get (b := V.bl b) g1 r1 (Den.bl _)
        cases e; exact q
    · exact g1.elim
  cases isAnd with
  | true =>
    refine WW.of (pw_and pt_W pw_W) (fun pins s I => wpAny_mono (key pins s I) ?_ fun _ _ z => z)
    rintro c s1 ⟨H1, I1, q⟩
    refine ⟨H1, I1, ?_⟩
    cases c <;> exact q
  | false =>
    refine WW.of (pw_or pt_W pw_W) (fun pins s I => wpAny_mono (key pins s I) ?_ fun _ _ z => z)
    rintro c s1 ⟨H1, I1, q⟩
    refine ⟨H1, I1, ?_⟩
    cases c <;> exact q

/-! ### argument lists -/
theorem sa_nil : SA X cl [] (fun _ S => .ok [] S) := fun _ _ _ _ _ _ _ r _ h => WA.of pa_nil (GR.get h r DenWs.nil)
theorem sa_cons {e : Expr} {es : List Expr} {fa : Env' → Store → Res W} {fr : Env' → Store → Res (List W)} (hp : Plain e) (ha : SE X cl e fa) (hr : SA X cl es fr) :
    SA X cl (e :: es) (fun ρ S => bnd (fa ρ S) fun x S1 => bnd (fr ρ S1) fun xs S2 => .ok (x :: xs) S2) := by
  intro ρ S σ H Sh μ Q r de h
  refine WA.of (pa_cons pe_W pa_W (hp.star _ _)) (ha ρ S σ H Sh μ _ r de (GR.imp ?_ (GR.bind (R := DenW X.K cl) h)))
  rintro x H1 ⟨Sh1, μ1, a, S1, s1, r1, d1, g1⟩
  refine hr ρ S1 σ H1 Sh1 μ1 _ r1 (de.step s1) (GR.imp ?_ (GR.bind (R := DenWs X.K cl) g1))
  rintro xs H2 ⟨Sh2, μ2, b, S2, s2, r2, d2, g2⟩
  exact GR.get g2 r2 (DenWs.cons (d1.step s2) d2)
theorem DenWs.asTs {Sh : Hp} {μ : List Addr} : ∀ {vs : List V} {ws : List W} {ds : List D}, DenWs X.K cl Sh μ vs ws → asTs ws = some ds → Dens X.K cl Sh vs ds
  | _, _, _, .nil, e => by simp [Rf.asTs] at e; subst e; exact .nil
  | _, _, _, .cons (w := w) (ws := ws) h r, e => by
    simp only [Rf.asTs] at e
    cases q1 : w.asT with
    | none => rw [q1] at e; cases e
    | some d =>
      cases q2 : Rf.asTs ws with
      | none => rw [q1, q2] at e; cases e
      | some ds =>
        rw [q1, q2] at e; cases e
        cases w with
        | t u => cases q1; exact .cons h (DenWs.asTs r q2)
        | loc n => cases q1
theorem Rel.rds {Sh H : Hp} {μ : List Addr} {S : Store} (r : Rel X.K cl Sh H μ S) : ∀ {vs : List V} {ws : List W} {ds : List D}, DenWs X.K cl Sh μ vs ws → rds S ws = some ds → DenRs X.K cl Sh H vs ds
  | _, _, _, .nil, e => by simp [Rf.rds] at e; subst e; exact .nil
  | _, _, _, .cons (w := w) (ws := ws) h h', e => by
    simp only [Rf.rds] at e
    cases q1 : Rf.rd S w with
    | none => rw [q1] at e; cases e
    | some d =>
      cases q2 : Rf.rds S ws with
      | none => rw [q1, q2] at e; cases e
      | some ds => rw [q1, q2] at e; cases e; exact .cons (r.rd q1 h) (Rel.rds r h' q2)

/-! ### displays -/
theorem se_tup {es : List Expr} {f : Env' → Store → Res (List W)} {k : Nat} {p : Pos} (ha : SA X cl es f) :
    SE X cl (.Tuple es k p) (fun ρ S => bnd (f ρ S) fun ws S1 => match asTs ws with | some ds => if ds.length ≤ sizeLine then .ok (.t (.tup ds)) S1 else .bad | none => .bad) := by
  intro ρ S σ H Sh μ Q r de h
  refine WE.of (pe_tup pa_W) (ha ρ S σ H Sh μ _ r de (GR.imp ?_ (GR.bind (R := DenWs X.K cl) h)))
  rintro vs H1 ⟨Sh1, μ1, ws, S1, s1, r1, d1, g1⟩
  split at g1
  · rename_i ds e
    have dd := d1.asTs e
    split at g1
    · rename_i hl
      exact ⟨by rw [dd.length]; exact hl, Nxt.tup (fun v H' Sh' μ' s r q => g1 v H' Sh' μ' s r q) r1 dd⟩
    · exact g1.elim
  · exact g1.elim
theorem se_lst {es : List Expr} {f : Env' → Store → Res (List W)} {p : Pos} (ha : SA X cl es f) :
    SE X cl (.List es p) (fun ρ S => bnd (f ρ S) fun ws S1 => match asTs ws with | some ds => if ds.length ≤ sizeLine then .ok (.t (.lst ds)) S1 else .bad | none => .bad) := by
  intro ρ S σ H Sh μ Q r de h
  refine WE.of (pe_lst pa_W) (ha ρ S σ H Sh μ _ r de (GR.imp ?_ (GR.bind (R := DenWs X.K cl) h)))
  rintro vs H1 ⟨Sh1, μ1, ws, S1, s1, r1, d1, g1⟩
  split at g1
  · rename_i ds e
    have dd := d1.asTs e
    split at g1
    · rename_i hl
      exact ⟨by rw [dd.length]; exact hl, Nxt.lst (fun v H' Sh' μ' s r q => g1 v H' Sh' μ' s r q) r1 dd⟩
    · exact g1.elim
  · exact g1.elim

/-! ### items, slices, fields -/
theorem se_ix {ea eb : Expr} {fa fb : Env' → Store → Res W} {p : Pos} (hp : Plain eb) (ha : SE X cl ea fa) (hb : SE X cl eb fb) (hu : X.A.units + 64 < cLine) :
    SE X cl (.Subscript ea eb p) (fun ρ S => bnd (fa ρ S) fun x S1 => bnd (fb ρ S1) fun y S2 => match rd S2 x, y with
      | some dx, .t dy => ok? S2 (ix2 dx dy)
      | _, _ => .bad) := by
  intro ρ S σ H Sh μ Q r de h
  refine WE.of (pe_ix bestIx_ok pe_W pe_W hp.sub) (two ha hb r de h ?_)
  intro x y a b H2 Sh2 μ2 S2 _ r2 d1 d2 g
  split at g
  · rename_i dx dy e1
    obtain ⟨d, e, k⟩ := GR.ok? g
    exact ix2_ok hu e r2 (r2.rd e1 d1) (.inl d2) k
  · exact g.elim
end
end Rf

/-! Rf, part H, end: f-strings; an item taken out of a list as a value. -/
namespace Rf
open PySem PySem.Spec PyProof.Rows L2
section
variable {X : Cx} {cl : Nm}
theorem se_fmt {ea : Expr} {fa : Env' → Store → Res W} {p : Pos} (ha : SE X cl ea fa) : SE X cl (.FormattedValue ea (-1) none p) (fun ρ S => bnd (fa ρ S) fmtW) := by
  intro ρ S σ H Sh μ Q r de h
  refine WE.of (pe_fmt pe_W) (ha ρ S σ H Sh μ _ r de (GR.imp ?_ (GR.bind (R := DenW X.K cl) h)))
  rintro v H1 ⟨Sh1, μ1, x, S1, s1, r1, d1, g1⟩
  unfold fmtW at g1
  split at g1
  · rename_i y
    split at g1
    · rename_i hl
      have hv : v = .str y := den_str d1
      subst hv
      exact .inl ⟨y, rfl, hl, GR.get g1 r1 (Den.str _)⟩
    · exact g1.elim
  · rename_i i
    split at g1
    · rename_i hl
      have hv : v = .int i := den_int d1
      subst hv
      exact .inr ⟨i, rfl, hl, GR.get g1 r1 (Den.str _)⟩
    · exact g1.elim
  · exact g1.elim
/-- the texts of an f-string, one behind the other -/
def SJ (X : Cx) (cl : Nm) (es : List Expr) (f : Str → Env' → Store → Res W) : Prop :=
  ∀ acc ρ S σ H Sh μ (Q : VK), Rel X.K cl Sh H μ S → DenE X.K cl Sh μ σ ρ → GR X cl σ Sh μ (DenW X.K cl) Q (f acc ρ S) → tJs (es.map fun e σ H Q => WE X e σ H Q) acc σ H (fun out H' => Q (.str out) H')
theorem sj_nil : SJ X cl [] (fun acc _ S => .ok (.t (.str acc)) S) := by
  intro acc ρ S σ H Sh μ Q r de h
  exact GR.get h r (Den.str _)
theorem sj_cons {ea : Expr} {es : List Expr} {fa : Env' → Store → Res W} {fr : Str → Env' → Store → Res W} (ha : SE X cl ea fa) (hr : SJ X cl es fr) : SJ X cl (ea :: es) (fun acc ρ S => bnd (fa ρ S) fun x S1 => joinW acc x fun a => fr a ρ S1) := by
  intro acc ρ S σ H Sh μ Q r de h
  show WE X ea σ H _
  refine ha ρ S σ H Sh μ _ r de (GR.imp ?_ (GR.bind (R := DenW X.K cl) h))
  rintro v H1 ⟨Sh1, μ1, x, S1, s1, r1, d1, g1⟩
  unfold joinW at g1
  split at g1
  · rename_i y
    split at g1
    · rename_i hl
      have hv : v = .str y := den_str d1
      subst hv
      exact ⟨y, rfl, hl, hr (acc ++ y) ρ S1 σ H1 Sh1 μ1 Q r1 (de.step s1) g1⟩
    · exact g1.elim
  · exact g1.elim
theorem pj_map : ∀ (es : List Expr), PJ X es (es.map fun e σ H Q => WE X e σ H Q)
  | [] => .nil
  | _ :: es => .cons pe_W (pj_map es)
theorem se_fstr {e1 e2 : Expr} {es : List Expr} {f : Str → Env' → Store → Res W} {p : Pos} (h : SJ X cl (e1 :: e2 :: es) f) : SE X cl (.JoinedStr (e1 :: e2 :: es) p) (fun ρ S => f Str.empty ρ S) := by
  intro ρ S σ H Sh μ Q r de g
  exact WE.of (pe_joined (pj_map (e1 :: e2 :: es))) (h Str.empty ρ S σ H Sh μ Q r de g)
end
end Rf

/-! Rf, part I: slices, fields, isinstance, calls. -/
namespace Rf
open PySem PySem.Spec PyProof.Rows L2

def tyV (cl : Nm) : Ty → Value
  | .own c => .ref (cl.cl c)
  | .exc c => .ref (cl.cl c)
  | .ty n => .type n
def clV (cl : Nm) : Cl → Value
  | .own c => .ref (cl.cl c)
  | .ty _ n => .type n
structure InsOk (K : PySem.W.Frag) (C : Addr) : Prop where
  cl : Cls K C
  ha : PySem.W.findIn K (.ref C) "__class__" = some (some (.builtin "object.__class__"))
  hn : PySem.W.specialIn K (.builtin "object.__class__") "__get__" = some (some (.builtin "getset_descriptor.__get__"))
  ht : PySem.W.takesIn K (.builtin "object.__class__") = some true
  hm : PySem.W.mroIn K C (.type "object") = some true
/-- as HandS.ExcIs has it -/
structure ExcK (K : PySem.W.Frag) (D : Addr) : Prop where
  hg : PySem.W.findIn K (.ref D) "__getattribute__" = some (some (.builtin "BaseException.__getattribute__"))
  hk : PySem.W.findIn K (.ref D) "__getattr__" = some none
  hs : PySem.W.subIn K (.ref D) (.type "BaseException") = some true
  hd : PySem.W.hasDictIn K D = true
  ha : PySem.W.findIn K (.ref D) "__class__" = some (some (.builtin "object.__class__"))
  hn : PySem.W.specialIn K (.builtin "object.__class__") "__get__" = some (some (.builtin "getset_descriptor.__get__"))
  ht : PySem.W.takesIn K (.builtin "object.__class__") = some true
  hm : PySem.W.mroIn K D (.type "object") = some true

/-- a def's promise by its reading -/
def PostF (K : PySem.W.Frag) (cl : Nm) (Sh : Hp) (μ : List Addr) (Q : VK) (E : XK) : Res W → Prop
  | .ok w S' => ∀ v H' Sh' μ', Step Sh μ Sh' μ' → Rel K cl Sh' H' μ' S' → DenW K cl Sh' μ' v w → Q v H'
  | .exc c S' => ∀ H' Sh' μ', Step Sh μ Sh' μ' → Rel K cl Sh' H' μ' S' → E (.ref (cl.cl c)) none H'
  | .bad => False
def spF (K : PySem.W.Frag) (cl : Nm) (F : List W → Store → Res W) : Sp := fun vs H Q E => ∃ Sh μ S ws, Rel K cl Sh H μ S ∧ DenWs K cl Sh μ vs ws ∧ PostF K cl Sh μ Q E (F ws S)

structure GOk (g : Sig) (cl : Nm) (T : Nat → List W → Store → Res W) (k : Nat) (P : Program) (w : World) (K : PySem.W.Frag) (mg : Str → Option Value) (base : Heap) : Prop where
  bi : ∀ x ∈ g.bi, mg x = none
  cst : ∀ (i : Nat) (x : Str) (d : D), g.cst[i]? = some (x, d) → ∃ v u, mg x = some u ∧ RelV v u ∧ ∀ H, Den K cl H v d
  fn : ∀ (f : Nat) (x : Str), g.fnm[f]? = some x → x ≠ Str.empty → ∃ a fd ps, mg x = some (.ref a) ∧ PySem.W.keepIn K (.ref a) = true ∧ Binds K fd ps [] ∧ FnOk P w K mg base (CX P w) k a fd ps (spF K cl (T f))
  mkc : ∀ (c nd : Nat), (c, nd) ∈ g.mkn → ∃ x fI fd ps, g.cnm[c]? = some x ∧ mg x = some (.ref (cl.cl c)) ∧ Mk K (cl.cl c) fI ∧ Binds K fd ps (List.replicate nd Value.none) ∧ FnOk P w K mg base (CX P w) k fI fd ps (spF K cl (T ((g.ini[c]?).getD 0)))
  fld : ∀ (i : Nat) (x : Str), g.fld[i]? = some x → cl.fn i = x
  na : ∀ (c f : Nat), (c, f) ∈ g.na → Cls K (cl.cl c) ∧ NoAttr K (cl.cl c) (cl.fn f)
  cn : ∀ (c : Nat) (x : Str), g.cnm[c]? = some x → mg x = some (.ref (cl.cl c))
  kit : ∀ t c b, g.kit t c = some b → PySem.W.kitOne K (tyV cl t) (clV cl c) = some b
  ins : ∀ c u b, g.kit (.own c) u = some b → InsOk K (cl.cl c)
  exc : ∀ c u b, g.kit (.exc c) u = some b → ExcK K (cl.cl c)
  hit : ∀ c d b, g.hit c d = some b → PySem.W.exmOne K (.ref (cl.cl c)) (.ref (cl.cl d)) = some b
  rai : ∀ c ∈ g.rz, ∃ bmB B newId initId, ExcBaseFacts B newId initId bmB ∧ PySem.W.excIn K (cl.cl c) bmB newId = true ∧ PySem.W.keepIn K (.ref (cl.cl c)) = true ∧ PySem.W.subIn K (.ref (cl.cl c)) (.type "BaseException") = some true ∧ PySem.W.typeIn K (.ref (cl.cl c)) = some (.type "type")

section
variable {X : Cx} {cl : Nm}
/-! ### slices -/
def WO (X : Cx) (e : Option Expr) : TO := fun σ H Q => ∀ (pins : List (Addr × Obj)) (s : Shared), Inv X pins σ H s →
  wpAny (model X.prog X.w) X.A (evalPart e X.env) (fun u s' => ∃ o H', Inv X pins σ H' s' ∧ IsPart u o ∧ Q o H') X.xe s
theorem po_W {e : Option Expr} : PO X e (WO X e) := ⟨fun pins s _ _ _ I h => h pins s I⟩
theorem WO.of {e : Option Expr} {t : TO} (p : PO X e t) {σ : L2.St} {H : Hp} {Q : Option Int → Hp → Prop} (h : t σ H Q) : WO X e σ H Q := fun pins s I => p.run pins s σ H Q I h
def SO (X : Cx) (cl : Nm) (e : Option Expr) (f : Env' → Store → Res (Option Int)) : Prop :=
  ∀ ρ S σ H Sh μ (Q : Option Int → Hp → Prop), Rel X.K cl Sh H μ S → DenE X.K cl Sh μ σ ρ → GR X cl σ Sh μ (fun _ _ (b a : Option Int) => b = a) Q (f ρ S) → WO X e σ H Q
theorem so_no : SO X cl none (fun _ S => .ok none S) := fun _ _ _ _ _ _ _ r _ h => WO.of po_none (GR.get h r rfl)
theorem so_so {e : Expr} {fa : Env' → Store → Res W} (ha : SE X cl e fa) : SO X cl (some e) (fun ρ S => bnd (fa ρ S) fun x S1 => match x with | .t (.int i) => .ok (some i) S1 | _ => .bad) := by
  intro ρ S σ H Sh μ Q r de h
  refine WO.of (po_some pe_W) (ha ρ S σ H Sh μ _ r de (GR.imp ?_ (GR.bind (R := DenW X.K cl) h)))
  rintro x H1 ⟨Sh1, μ1, a, S1, s1, r1, d1, g1⟩
  split at g1
  · exact ⟨_, den_int d1, GR.get g1 r1 rfl⟩
  · exact g1.elim
theorem se_sl {ea : Expr} {lo hi : Option Expr} {fa : Env' → Store → Res W} {fl fh : Env' → Store → Res (Option Int)} {ps p : Pos} (ha : SE X cl ea fa) (hl : SO X cl lo fl) (hh : SO X cl hi fh) :
    SE X cl (.Subscript ea (.Slice lo hi none ps) p) (fun ρ S => bnd (fa ρ S) fun x S1 => bnd (fl ρ S1) fun l S2 => bnd (fh ρ S2) fun h S3 => match rd S3 x with
      | some dx => ok? S3 (slice2 dx l h)
      | none => .bad) := by
  intro ρ S σ H Sh μ Q r de h
  refine WE.of (pe_slice bestSl_ok pe_W po_W po_W) (ha ρ S σ H Sh μ _ r de (GR.imp ?_ (GR.bind (R := DenW X.K cl) h)))
  rintro x H1 ⟨Sh1, μ1, a, S1, s1, r1, d1, g1⟩
  refine hl ρ S1 σ H1 Sh1 μ1 _ r1 (de.step s1) (GR.imp ?_ (GR.bind (R := fun _ _ (b a : Option Int) => b = a) g1))
  rintro l H2 ⟨Sh2, μ2, l', S2, s2, r2, rfl, g2⟩
  refine hh ρ S2 σ H2 Sh2 μ2 _ r2 ((de.step s1).step s2) (GR.imp ?_ (GR.bind (R := fun _ _ (b a : Option Int) => b = a) g2))
  rintro u H3 ⟨Sh3, μ3, u', S3, s3, r3, rfl, g3⟩
  split at g3
  · rename_i dx e
    obtain ⟨d, e', k⟩ := GR.ok? g3
    exact slice2_ok e' r3 (r3.rd e ((d1.step s2).step s3)) k
  · exact g3.elim

/-! ### fields -/
theorem se_fld {eo : Expr} {fo : Env' → Store → Res W} {f : Nat} {x : Str} {p : Pos} {na : List (Nat × Nat)} (hp : Plain eo) (ho : SE X cl eo fo) (hx : cl.fn f = x) (hna : ∀ c, (c, f) ∈ na → Cls X.K (cl.cl c) ∧ NoAttr X.K (cl.cl c) (cl.fn f)) :
    SE X cl (.Attribute eo x p) (fun ρ S => bnd (fo ρ S) fun x S1 => match rd S1 x with | some (.ins c fs) => if na.contains (c, f) then ok? S1 (fs.lookup f) else .bad | _ => .bad) := by
  intro ρ S σ H Sh μ Q r de h
  refine WE.of (pe_fld pe_W (hp.attr _ _)) (ho ρ S σ H Sh μ _ r de (GR.imp ?_ (GR.bind (R := DenW X.K cl) h)))
  rintro v H1 ⟨Sh1, μ1, a, S1, s1, r1, d1, g1⟩
  split at g1
  · rename_i c fs e
    split at g1
    · rename_i hc
      obtain ⟨d, e', k⟩ := GR.ok? g1
      obtain ⟨c1, c2⟩ := hna c (by simpa using hc)
      have q := r1.rd e d1
      have q' := q
      obtain ⟨p, dx, es, rfl, h1, h2⟩ := q.ins r1.sub
      have h3 : DenF X.K cl Sh1 es fs := h2
      obtain ⟨y, h4, h5⟩ := (h3.look (f := f)).1 d e'
      rw [hx] at h4 c2
      exact ⟨p, cl.cl c, dx, es, y, rfl, h1, c1, c2, h4, k.here r1 h5⟩
    · exact g1.elim
  · exact g1.elim

/-! ### isinstance -/
inductive TyY (K : PySem.W.Frag) (cl : Nm) (H : Hp) : V → Value → Prop where
  | base {x : V} {t : Value} (h : TyX K H x t) : TyY K cl H x t
  | exc {a : Addr} {c : Nat} (h : H a = some (ExH (.ref (cl.cl c)) a)) (C : ExcK K (cl.cl c)) : TyY K cl H (.ref a) (.ref (cl.cl c))
theorem kit_ofY {pins : List (Addr × Obj)} {σ : L2.St} {H : Hp} {s : Shared} {x : V} {u t : Value} (I : Inv X pins σ H s) (rx : RelV x u) (ty : TyY X.K cl H x t) :
    ∃ P : Heap → Prop, PySem.W.KitX X.K u t P ∧ P s.heap ∧ u ≠ .builtin "__main__.__loader__#opaque" := by
  cases ty with
  | base h => exact kit_of I rx h
  | @exc a c h C =>
    cases (show u = Value.ref a from rx)
    obtain ⟨⟨oe, vs, hget, hz, hv⟩, _, _⟩ := (show ObjOk X.prog X.w H s.heap a (ExH (.ref (cl.cl c)) a) from I.hok a _ h)
    have J : PySem.W.InstAt s.heap a oe (cl.cl c) none := by
      obtain ⟨oc, od, oda, osl⟩ := oe
      obtain ⟨h1, h2⟩ := hz
      dsimp only at h1 h2 hv
      subst h1 h2 hv
      exact ⟨hget, rfl, rfl, trivial⟩
    exact ⟨_, PySem.W.handS_kitx_exc C.hg C.hk C.hs C.hd C.ha C.hn C.ht C.hm, J, fun z => nomatch z⟩
def rIsiY (K : PySem.W.Frag) (cl : Nm) : List V → Hp → VK → Prop := fun xs H Q => ∃ (x c : V) (t u : Value) (b : Bool), xs = [x, c] ∧ ClsV c u ∧ TyY K cl H x t ∧ PySem.W.kitOne K t u = some b ∧ Q (.bl b) H
def rIsiTY (K : PySem.W.Frag) (cl : Nm) : List V → Hp → VK → Prop := fun xs H Q => ∃ (x : V) (tp : Addr) (cs : List V) (t : Value) (us : List Value) (b : Bool), xs = [x, .ref tp] ∧ H tp = some (.tup cs) ∧ Paired ClsV cs us ∧ TyY K cl H x t ∧ PySem.W.kitAny K t us = some b ∧ Q (.bl b) H
theorem call_isiY : CallR X (.builtin "isinstance") (rIsiY X.K cl) := by
  intro pins s σ H xs us Q I r h
  obtain ⟨x, c, t, u, b, rfl, k, ty, e, q⟩ := h
  obtain ⟨u1, u2, rfl, r1, r2⟩ := vals2 r
  have e2 := k.eq r2
  subst e2
  obtain ⟨P, Z, p, hx⟩ := kit_ofY I r1 ty
  exact PySem.W.kia_one Z I.kIn p e hx fun tk => ⟨.bl b, H, I.tok tk, rfl, q⟩
theorem call_isiTY : CallR X (.builtin "isinstance") (rIsiTY X.K cl) := by
  intro pins s σ H xs us Q I r h
  obtain ⟨x, tp, cs, t, ws, b, rfl, hT, k, ty, e, q⟩ := h
  obtain ⟨u1, u2, rfl, r1, r2⟩ := vals2 r
  cases (show u2 = Value.ref tp from r2)
  obtain ⟨P, Z, p, hx⟩ := kit_ofY I r1 ty
  obtain ⟨_, its, rv, o, h1, h2, n, h3⟩ := (show ObjOk X.prog X.w H s.heap tp (.tup cs) from I.hok tp _ hT)
  have e3 := ClsV.all k rv
  subst e3
  obtain ⟨oc, od, dt, sl⟩ := o
  simp only at h2 h3
  subst h2 h3
  exact PySem.W.kia_tup Z I.kIn p h1 e hx fun tk => ⟨.bl b, H, I.tok tk, rfl, q⟩
theorem tyY_ok {g : Sig} {Sh H : Hp} {μ : List Addr} {S : Store} {v : V} {d : D} {t : Ty} {u : Cl} {b : Bool} (r : Rel X.K cl Sh H μ S) (h : DenR X.K cl Sh H v d) (e : tyOf d = some t)
    (hi : ∀ c, t = .own c → InsOk X.K (cl.cl c)) (he : ∀ c, t = .exc c → ExcK X.K (cl.cl c)) : TyY X.K cl H v (tyV cl t) := by
  have full := h.full r.sub
  cases full with
  | non => cases e; exact .base (.base .non)
  | bl b => cases e; exact .base (.base (.bl b))
  | int b => cases e; exact .base (.base (.int b))
  | str b => cases e; exact .base (.base (.str b))
  | lst h1 _ =>
    cases e
    rcases h1 with h1 | ⟨o, h1⟩
    · exact .base (.base (.lst h1))
    · exact .base (.base (.frz h1))
  | tup h1 _ => cases e; exact .base (.base (.tup h1))
  | dK h1 _ => cases e; exact .base (.base (.dK h1))
  | dT h1 _ => cases e; exact .base (.base (.dT h1))
  | ins h1 _ =>
    cases e
    obtain ⟨a1, a2, a3, a4, a5⟩ := hi _ rfl
    exact .base (.base (.ins h1 a1 a2 a3 a4 a5))
  | exc h1 => cases e; exact .exc h1 (he _ rfl)
  | ro _ _ => cases e
  | rt _ _ => cases e
/-- a class's name, read -/
def clN (g : Sig) (mg : Str → Option Value) (cl : Nm) : Cl → Str → Prop
  | .own c, x => mg x = some (.ref (cl.cl c))
  | .ty _ n, x => mg x = none ∧ bootBuiltins x = some (.type n) ∧ x ≠ "__name__"
theorem pe_cls {g : Sig} {c : Cl} {x : Str} {p : Pos} (hg : Gl X x) (hd : (x == ("__debug__" : Str)) = false) (h : clN g X.mg cl c x) : ∃ v, ClsV v (clV cl c) ∧ PE X (.Name x p) (tC v) := by
  cases c with
  | own c => exact ⟨.ref (cl.cl c), .own _, pe_glob hg h rfl hd⟩
  | ty y n => exact ⟨.ty n, .ty n, pe_bltn hg h.1 h.2.1 rfl h.2.2 hd⟩
theorem plain_name {x : Str} {p : Pos} : Plain (.Name x p) := ⟨fun _ _ => rfl, fun op => rfl, fun _ _ => rfl, fun _ _ => rfl, fun _ _ => rfl⟩
theorem se_isi {g : Sig} {ee : Expr} {fe : Env' → Store → Res W} {c : Cl} {x : Str} {pn pc p : Pos} (hp : Plain ee) (he : SE X cl ee fe) (hG : Gl X "isinstance") (hm : X.mg "isinstance" = none) (hg : Gl X x) (hd : (x == ("__debug__" : Str)) = false) (hc : clN g X.mg cl c x)
    (hk : ∀ t c b, g.kit t c = some b → PySem.W.kitOne X.K (tyV cl t) (clV cl c) = some b) (hi : ∀ c u b, g.kit (.own c) u = some b → InsOk X.K (cl.cl c)) (hx : ∀ c u b, g.kit (.exc c) u = some b → ExcK X.K (cl.cl c)) :
    SE X cl (.Call (.Name (Str.ofString "isinstance") pn) [ee, .Name x pc] [] p) (fun ρ S => bnd (fe ρ S) fun x S1 => match rd S1 x with
      | some d => match tyOf d with | some t => ok? S1 ((g.kit t c).map .bl) | none => .bad
      | none => .bad) := by
  intro ρ S σ H Sh μ Q r de h
  obtain ⟨cv, h1, h2⟩ := pe_cls (cl := cl) (p := pc) hg hd hc
  refine WE.of (pe_callB (id := "isinstance") (call_isiY (cl := cl)) hG hm (by decide +kernel) (pa_cons pe_W (pa_cons h2 pa_nil (plain_name.star _ _)) (hp.star _ _)) (he := hp.star _ _) (hpl := by rw [plain_name.star]; rfl)) ?_
  refine he ρ S σ H Sh μ _ r de (GR.imp ?_ (GR.bind (R := DenW X.K cl) h))
  rintro v H1 ⟨Sh1, μ1, a, S1, s1, r1, d1, g1⟩
  split at g1
  · rename_i d e
    split at g1
    · rename_i t et
      obtain ⟨d', e', k⟩ := GR.ok? g1
      obtain ⟨b, e2, rfl⟩ := Option.map_eq_some_iff.mp e'
      refine ⟨v, cv, tyV cl t, clV cl c, b, rfl, h1, tyY_ok (g := g) (u := c) (b := b) r1 (r1.rd e d1) et (fun c' q => ?_) (fun c' q => ?_), hk _ _ _ e2, k.here r1 (.bl _)⟩
      · subst q; exact hi _ _ _ e2
      · subst q; exact hx _ _ _ e2
    · exact g1.elim
  · exact g1.elim
theorem DenR.put {Sh H : Hp} {μ : List Addr} {S : Store} {v : V} {d : D} {p : Addr} {o : HO} (r : Rel X.K cl Sh H μ S) (n : H p = none) (h : DenR X.K cl Sh H v d) : DenR X.K cl (upd Sh p o) (upd H p o) v d := by
  have st := (r.put (o := o) n).2
  rcases h with h | ⟨a, ob, rfl, q, rfl⟩
  · exact .inl (Den.mono st.sh h)
  · obtain ⟨u, hu⟩ := q.some
    exact .inr ⟨a, ob, rfl, q.mono st.sh (upd_ne (ne_of_none hu n)), rfl⟩
theorem kits_ok {g : Sig} {t : Ty} (hk : ∀ t c b, g.kit t c = some b → PySem.W.kitOne X.K (tyV cl t) (clV cl c) = some b) : ∀ (cs : List Cl) (b : Bool), kits g.kit t cs = some b → PySem.W.kitAny X.K (tyV cl t) (cs.map (clV cl)) = some b
  | [], b, e => e
  | c :: cs, b, e => by
    simp only [kits] at e
    show (match PySem.W.kitOne X.K (tyV cl t) (clV cl c) with | some true => some true | some false => PySem.W.kitAny X.K (tyV cl t) (cs.map (clV cl)) | none => none) = some b
    cases q : g.kit t c with
    | none => rw [q] at e; cases e
    | some b' =>
      rw [q] at e
      rw [hk _ _ _ q]
      cases b' with
      | true => exact e
      | false => exact kits_ok hk cs b e
/-- the classes of a tuple -/
theorem pa_clss {g : Sig} : ∀ {cs : List (Cl × Pos)}, (∀ c ∈ cs, ∃ x, c.1.py g c.2 = .Name x c.2 ∧ Gl X x ∧ (x == ("__debug__" : Str)) = false ∧ clN g X.mg cl c.1 x) →
    ∃ vs, Paired ClsV vs (cs.map fun c => clV cl c.1) ∧ PA X (cs.map fun c => c.1.py g c.2) (fun _ H Q => Q vs H)
  | [], _ => ⟨[], .nil, pa_nil⟩
  | c :: cs, h => by
    obtain ⟨vs, h1, h2⟩ := pa_clss (cs := cs) fun c hc => h c (List.mem_cons_of_mem _ hc)
    obtain ⟨x, e, hg, hd, hc⟩ := h c List.mem_cons_self
    obtain ⟨v, h3, h4⟩ := pe_cls (cl := cl) (p := c.2) hg hd hc
    refine ⟨v :: vs, .cons h3 h1, ?_⟩
    rw [List.map_cons, e]
    exact ⟨fun pos pins s σ H Q I q => (pa_cons h4 h2 (plain_name.star _ _)).run pos pins s σ H Q I q⟩
theorem plain_tup {es : List Expr} {k : Nat} {p : Pos} : Plain (.Tuple es k p) := ⟨fun _ _ => rfl, fun op => rfl, fun _ _ => rfl, fun _ _ => rfl, fun _ _ => rfl⟩
theorem se_isis {g : Sig} {ee : Expr} {fe : Env' → Store → Res W} {cs : List (Cl × Pos)} {kk : Nat} {pn pt p : Pos} (hp : Plain ee) (he : SE X cl ee fe) (hG : Gl X "isinstance") (hm : X.mg "isinstance" = none) (hcs : cs.length ≤ 1000)
    (hc : ∀ c ∈ cs, ∃ x, c.1.py g c.2 = .Name x c.2 ∧ Gl X x ∧ (x == ("__debug__" : Str)) = false ∧ clN g X.mg cl c.1 x)
    (hk : ∀ t c b, g.kit t c = some b → PySem.W.kitOne X.K (tyV cl t) (clV cl c) = some b) (hi : ∀ c u b, g.kit (.own c) u = some b → InsOk X.K (cl.cl c)) (hx : ∀ c u b, g.kit (.exc c) u = some b → ExcK X.K (cl.cl c)) (hne : cs ≠ []) :
    SE X cl (.Call (.Name (Str.ofString "isinstance") pn) [ee, .Tuple (cs.map fun c => c.1.py g c.2) kk pt] [] p) (fun ρ S => bnd (fe ρ S) fun x S1 => match rd S1 x with
      | some d => match tyOf d with | some t => ok? S1 ((kits g.kit t (cs.map (·.1))).map .bl) | none => .bad
      | none => .bad) := by
  intro ρ S σ H Sh μ Q r de h
  obtain ⟨vs, h1, h2⟩ := pa_clss (cl := cl) (g := g) hc
  refine WE.of (pe_callB (id := "isinstance") (call_isiTY (cl := cl)) hG hm (by decide +kernel) (pa_cons pe_W (pa_cons (pe_tup h2) pa_nil (plain_tup.star _ _)) (hp.star _ _)) (he := hp.star _ _) (hpl := by rw [plain_tup.star]; rfl)) ?_
  refine he ρ S σ H Sh μ _ r de (GR.imp ?_ (GR.bind (R := DenW X.K cl) h))
  rintro v H1 ⟨Sh1, μ1, a, S1, s1, r1, d1, g1⟩
  split at g1
  · rename_i d e
    split at g1
    · rename_i t et
      obtain ⟨d', e', k⟩ := GR.ok? g1
      obtain ⟨b, e2, rfl⟩ := Option.map_eq_some_iff.mp e'
      have hl : vs.length ≤ sizeLine := by
        have := Paired.length h1
        rw [List.length_map] at this
        have e3 : (1000 : Nat) ≤ sizeLine := by decide
        omega
      refine ⟨hl, fun tp htp => ?_⟩
      obtain ⟨r2, s2⟩ := r1.put (o := .tup vs) htp
      have e4 := kits_ok (X := X) (cl := cl) (g := g) hk _ _ e2
      rw [List.map_map] at e4
      obtain ⟨c0, b0, q0⟩ : ∃ c0 b0, g.kit t c0 = some b0 := by
        cases cs with
        | nil => exact absurd rfl hne
        | cons c cs =>
          rw [List.map_cons] at e2
          simp only [kits] at e2
          cases q : g.kit t c.1 with
          | none => rw [q] at e2; cases e2
          | some b0 => exact ⟨_, b0, q⟩
      refine ⟨v, tp, vs, tyV cl t, _, b, rfl, upd_same, h1, tyY_ok (g := g) (u := c0) (b := b0) r2 ((r1.rd e d1).put r1 htp) et (fun c' q => ?_) (fun c' q => ?_), e4, k _ _ _ _ s2 r2 (.bl _)⟩
      · subst q; exact hi _ _ _ q0
      · subst q; exact hx _ _ _ q0
    · exact g1.elim
  · exact g1.elim
end
end Rf

/-! Rf, part J: calls. -/
namespace Rf
open PySem PySem.Spec PyProof.Rows L2
theorem boot_bf (b : Bf) : bootBuiltins (Str.ofString b.nm) = some b.val := by cases b <;> decide +kernel
theorem bf_names (b : Bf) : (Str.ofString b.nm) ≠ "__name__" ∧ ((Str.ofString b.nm) == ("__debug__" : Str)) = false := by cases b <;> exact ⟨by decide +kernel, by decide +kernel⟩
section
variable {X : Cx} {cl : Nm}
theorem star_any {es : List Expr} (h : ∀ e ∈ es, Plain e) (pos : Pos) (env : Env) : (backTo pos (starEach es env)).any (·.1) = false := by
  induction es with
  | nil => rfl
  | cons e es ih =>
    rw [(h e List.mem_cons_self).star]
    have := ih fun e he => h e (List.mem_cons_of_mem _ he)
    show (false || (backTo pos (starEach es env)).any (·.1)) = false
    rw [this]; rfl
theorem star_all {es : List Expr} (h : ∀ e ∈ es, Plain e) (pos : Pos) (env : Env) : (backTo pos (starEach es env)).all (fun x => !x.1) = true := by
  induction es with
  | nil => rfl
  | cons e es ih =>
    rw [(h e List.mem_cons_self).star]
    have := ih fun e he => h e (List.mem_cons_of_mem _ he)
    show (true && (backTo pos (starEach es env)).all (fun x => !x.1)) = true
    rw [this]; rfl
theorem se_bfn {b : Bf} {e : Expr} {es : List Expr} {f : Env' → Store → Res (List W)} {pn p : Pos} (hp : ∀ x ∈ e :: es, Plain x) (ha : SA X cl (e :: es) f) (hG : Gl X (Str.ofString b.nm)) (hm : X.mg (Str.ofString b.nm) = none) (hc : X.calm = true) :
    SE X cl (.Call (.Name (Str.ofString b.nm) pn) (e :: es) [] p) (fun ρ S => bnd (f ρ S) fun ws S1 => match rds S1 ws with | some ds => ok? S1 (bf b ds) | none => .bad) := by
  intro ρ S σ H Sh μ Q r de h
  have key : tCB (bestCall X b.val) (WA X (e :: es)) σ H Q := by
    refine ha ρ S σ H Sh μ _ r de (GR.imp ?_ (GR.bind (R := DenWs X.K cl) h))
    rintro vs H1 ⟨Sh1, μ1, ws, S1, s1, r1, d1, g1⟩
    split at g1
    · rename_i ds e1
      obtain ⟨d, e2, k⟩ := GR.ok? g1
      exact bf_ok hc e2 r1 (r1.rds d1 e1) k
    · exact g1.elim
  have hs := (hp e List.mem_cons_self).star es X.env
  have hpl := star_any (fun x hx => hp x (List.mem_cons_of_mem _ hx)) p X.env
  obtain ⟨n1, n2⟩ := bf_names b
  have hv := boot_bf b
  unfold Bf.val at key hv
  cases ht : b.isTy with
  | true =>
    rw [ht] at key hv
    exact WE.of (pe_callTy (T := b.nm) bestCall_ok hG hm hv pa_W n1 n2 hs hpl) key
  | false =>
    rw [ht] at key hv
    exact WE.of (pe_callB (id := b.nm) bestCall_ok hG hm hv pa_W n1 n2 hs hpl) key

/-! ### a call whose exceptions are wished for at the slots that stand -/
theorem no_pass {X : Cx} {τ : L2.St} : PassesAt (CX X.prog X.w) X τ (fun _ _ _ => False) := fun _ _ _ _ _ _ c => by
  obtain ⟨_, _, _, _, _, _, _, _, _, _, _, _, z⟩ := c
  exact z.elim
theorem we_call {a : Addr} {fd : FuncData} {prs : List Str} {sp : Sp} {x : Str} {k : Nat} {e : Expr} {es : List Expr} {pn p : Pos} {E : XK} {τ : L2.St} {H : Hp} {Q : VK} (hf : FnOk X.prog X.w X.K X.mg X.base (CX X.prog X.w) k a fd prs sp) (hr : Room k X.A)
    (hG : Gl X x) (hm : X.mg x = some (.ref a)) (hk : PySem.W.keepIn X.K (.ref a) = true) (hb : Binds X.K fd prs []) (hE : PassesAt (CX X.prog X.w) X τ E) (hd : (x == ("__debug__" : Str)) = false)
    (h1 : starEach (e :: es) X.env = (false, eval e X.env) :: starEach es X.env) (h2 : (backTo p (starEach es X.env)).any (·.1) = false) (h : WA X (e :: es) τ H fun vs H1 => sp vs H1 Q E) : WE X (.Call (.Name x pn) (e :: es) [] p) τ H Q := by
  intro ps0 st I0
  apply wpAny_Call_Name_kw
  apply ld_glob I0 hG hm _ hd
  apply PySem.W.callWith_K (h₀ := X.base) I0.ok.mod.kin hk _ h1 h2
  apply thn (h p ps0 st I0)
  intro us st1 hh
  obtain ⟨vs, H1, I1, rv, hs⟩ := hh
  exact ⟨I1.kIn, run_fnS (E := fun _ => E) hf hr hb hE I1 rv hs⟩
theorem we_make {C fI : Addr} {fd : FuncData} {prs : List Str} {sp : Sp} {x : Str} {k : Nat} {e : Expr} {es : List Expr} {ds : List Value} {dvs : List V} {pn p : Pos} {E : XK} {τ : L2.St} {H : Hp} {Q : VK} (M : Mk X.K C fI)
    (hf : FnOk X.prog X.w X.K X.mg X.base (CX X.prog X.w) k fI fd prs sp) (hr : Room (k + 1) X.A)
    (hG : Gl X x) (hm : X.mg x = some (.ref C)) (hb : Binds X.K fd prs ds) (hd0 : Vals dvs ds) (hE : PassesAt (CX X.prog X.w) X τ E) (hd : (x == ("__debug__" : Str)) = false)
    (h1 : starEach (e :: es) X.env = (false, eval e X.env) :: starEach es X.env) (h2 : (backTo p (starEach es X.env)).any (·.1) = false)
    (h : WA X (e :: es) τ H fun vs H1 => ∀ y dy, H1 y = none → H1 dy = none → dy ≠ y → sp (.ref y :: (vs ++ dvs)) (upd (upd H1 dy (.own y)) y (.ins C dy [])) (fun v H2 => v = .non ∧ Q (.ref y) H2) E) : WE X (.Call (.Name x pn) (e :: es) [] p) τ H Q := by
  intro ps0 st I0
  apply wpAny_Call_Name_kw
  apply ld_glob I0 hG hm _ hd
  apply PySem.W.callWith_K (h₀ := X.base) I0.ok.mod.kin M.kp _ h1 h2
  apply thn (h p ps0 st I0)
  intro us st1 hh
  obtain ⟨vs, H1, I1, rv, hs⟩ := hh
  refine ⟨I1.kIn, ?_⟩
  -- the object: its dict lies before it
  have fr1 : H1 st1.heap.objs.size = none := I1.hok.fresh (Nat.le_refl _)
  have fr2 : H1 (st1.heap.objs.size + 1) = none := I1.hok.fresh (Nat.le_succ _)
  have q1 := hs _ _ fr2 fr1 (Nat.ne_of_lt (Nat.lt_succ_self _))
  have J := Inv.made (C := C) I1
  have rw1 : Vals (vs ++ dvs) (us ++ ds) := rv.append hd0
  have rw2 : Vals (V.ref (st1.heap.objs.size + 1) :: (vs ++ dvs)) (Value.ref (st1.heap.objs.size + 1) :: (us ++ ds)) := .cons rfl rw1
  have eln : (Value.ref (st1.heap.objs.size + 1) :: us ++ ds).length = prs.length := (rw2.length.symm.trans (hf.len _ _ _ _ q1))
  apply wpAny_call
  apply make_map (f := fI) I1.kIn M.makes M.init (beq_iff_eq.mp M.fn)
  apply codeAny_mono (hf.run _ X.stack _ _ ⟨.ref (st1.heap.objs.size + 1) :: us, []⟩ (.ref (st1.heap.objs.size + 1) :: (us ++ ds)) _ _ E (hr.make C us []) (J.env0.make C us []) (hb _ (.ref (st1.heap.objs.size + 1) :: us) J.kIn eln) rw2 q1)
  intro res st2 hres
  match res, hres with
  | .error e0, hres => exact hE ps0 _ _ e0 st2 J hres
  | .ok (.ret u0), hres =>
    obtain ⟨v0, H3, J3, rv0, hv0, q3⟩ := J.after hres
    cases hv0
    exact ⟨rv0, V.ref _, H3, J3, rfl, q3⟩
  | .ok .next, hres => exact hres.elim
  | .ok .brk, hres => exact hres.elim
  | .ok .cont, hres => exact hres.elim

/-! ### a call of a def -/
theorem se_call {F : List W → Store → Res W} {e : Expr} {es : List Expr} {f : Env' → Store → Res (List W)} {x : Str} {a : Addr} {fd : FuncData} {prs : List Str} {k : Nat} {pn p : Pos} (hp : ∀ y ∈ e :: es, Plain y) (ha : SA X cl (e :: es) f)
    (hG : Gl X x) (hd : (x == ("__debug__" : Str)) = false) (hm : X.mg x = some (.ref a)) (hk : PySem.W.keepIn X.K (.ref a) = true) (hb : Binds X.K fd prs []) (hf : FnOk X.prog X.w X.K X.mg X.base (CX X.prog X.w) k a fd prs (spF X.K cl F)) (hr : Room k X.A) :
    SE X cl (.Call (.Name x pn) (e :: es) [] p) (fun ρ S => bnd (f ρ S) fun ws S1 => F ws S1) := by
  intro ρ S σ H Sh μ Q r de h
  -- what is wanted of an exception
  have main : ∀ (E : XK) (hE : PassesAt (CX X.prog X.w) X σ E), (∀ ws S1 Sh1 μ1, f ρ S = .ok ws S1 → Step Sh μ Sh1 μ1 → GR X cl σ Sh1 μ1 (DenW X.K cl) Q (F ws S1) → PostF X.K cl Sh1 μ1 Q E (F ws S1)) → WE X (.Call (.Name x pn) (e :: es) [] p) σ H Q := by
    intro E hE hpost
    refine we_call hf hr hG hm hk hb hE hd ((hp e List.mem_cons_self).star es X.env) (star_any (fun x hx => hp x (List.mem_cons_of_mem _ hx)) p X.env) ?_
    refine ha ρ S σ H Sh μ _ r de (GR.imp ?_ (GR.bindE (R := DenWs X.K cl) h))
    rintro vs H1 ⟨Sh1, μ1, ws, S1, s1, r1, d1, e1, g1⟩
    exact ⟨Sh1, μ1, S1, ws, r1, d1, hpost ws S1 Sh1 μ1 e1 s1 g1⟩
  have none : PassesAt (CX X.prog X.w) X σ (fun _ _ _ => False) := no_pass
  dsimp only at h
  cases e1 : f ρ S with
  | ok ws S1 =>
    rw [e1] at h
    cases e2 : F ws S1 with
    | ok w S2 =>
      refine main _ none fun ws' S1' Sh1 μ1 e3 s1 g1 => ?_
      rw [e1] at e3; cases e3
      rw [e2] at g1 ⊢
      exact fun v H' Sh' μ' s r q => g1 v H' Sh' μ' s r q
    | exc c S2 =>
      have h' : GR X cl σ Sh μ (DenW X.K cl) Q (F ws S1) := h
      rw [e2] at h'
      obtain ⟨W, tk, hW⟩ := h'
      refine main (fun c d H => W c d σ H) (passAt tk σ) fun ws' S1' Sh1 μ1 e3 s1 g1 => ?_
      rw [e1] at e3; cases e3
      rw [e2]
      exact fun H' Sh' μ' s r => hW H' Sh' μ' (s1.trans s) r
    | bad =>
      have h' : GR X cl σ Sh μ (DenW X.K cl) Q (F ws S1) := h
      rw [e2] at h'; exact h'.elim
  | exc c S1 => exact main _ none fun ws' S1' Sh1 μ1 e3 s1 g1 => by rw [e1] at e3; cases e3
  | bad => rw [e1] at h; exact h.elim

/-! ### an object is made -/
theorem DenWs.app {Sh : Hp} {μ : List Addr} : ∀ {vs us : List V} {ws zs : List W}, DenWs X.K cl Sh μ vs ws → DenWs X.K cl Sh μ us zs → DenWs X.K cl Sh μ (vs ++ us) (ws ++ zs)
  | _, _, _, _, .nil, s => s
  | _, _, _, _, .cons h r, s => .cons h (r.app s)
theorem denNones {Sh : Hp} {μ : List Addr} : ∀ n : Nat, DenWs X.K cl Sh μ (List.replicate n V.non) (List.replicate n (.t .non))
  | 0 => .nil
  | n + 1 => .cons Den.non (denNones n)
theorem valNones : ∀ n : Nat, Vals (List.replicate n V.non) (List.replicate n Value.none)
  | 0 => .nil
  | n + 1 => .cons rfl (valNones n)
/-- what making an object gives, by what __init__ gives -/
def mkRes (c : Nat) (b : Nat) : Res W → Res W
  | .ok (.t .non) S2 => if S2.length < b then .bad else match get S2 b with
    | some (.ins c' fs) => if c' = c then .ok (.t (.ins c fs)) (S2.take b) else .bad
    | _ => .bad
  | .exc k S2 => .exc k (S2.take b)
  | _ => .bad
theorem se_mk {F : List W → Store → Res W} {c nd : Nat} {e : Expr} {es : List Expr} {f : Env' → Store → Res (List W)} {x : Str} {fI : Addr} {fd : FuncData} {prs : List Str} {k : Nat} {pn p : Pos} (hp : ∀ y ∈ e :: es, Plain y) (ha : SA X cl (e :: es) f)
    (hG : Gl X x) (hd : (x == ("__debug__" : Str)) = false) (hm : X.mg x = some (.ref (cl.cl c))) (M : Mk X.K (cl.cl c) fI) (hb : Binds X.K fd prs (List.replicate nd Value.none)) (hf : FnOk X.prog X.w X.K X.mg X.base (CX X.prog X.w) k fI fd prs (spF X.K cl F)) (hr : Room (k + 1) X.A) :
    SE X cl (.Call (.Name x pn) (e :: es) [] p) (fun ρ S => bnd (f ρ S) fun ws S1 => mkRes c S1.length (F (.loc S1.length :: (ws ++ List.replicate nd (.t .non))) (S1 ++ [some (.ins c [])]))) := by
  intro ρ S σ H Sh μ Q r de h
  have main : ∀ (E : XK) (hE : PassesAt (CX X.prog X.w) X σ E), (∀ ws S1 Sh1 μ1 H1 x dx, f ρ S = .ok ws S1 → Step Sh μ Sh1 μ1 → Rel X.K cl Sh1 H1 μ1 S1 →
      GR X cl σ Sh1 μ1 (DenW X.K cl) Q (mkRes c S1.length (F (.loc S1.length :: (ws ++ List.replicate nd (.t .non))) (S1 ++ [some (.ins c [])]))) →
      H1 x = none → H1 dx = none → dx ≠ x →
      PostF X.K cl Sh1 (μ1 ++ [x]) (fun v H2 => v = .non ∧ Q (.ref x) H2) E (F (.loc S1.length :: (ws ++ List.replicate nd (.t .non))) (S1 ++ [some (.ins c [])]))) → WE X (.Call (.Name x pn) (e :: es) [] p) σ H Q := by
    intro E hE hpost
    refine we_make M hf hr hG hm hb (valNones nd) hE hd ((hp e List.mem_cons_self).star es X.env) (star_any (fun x hx => hp x (List.mem_cons_of_mem _ hx)) p X.env) ?_
    refine ha ρ S σ H Sh μ _ r de (GR.imp ?_ (GR.bindE (R := DenWs X.K cl) h))
    rintro vs H1 ⟨Sh1, μ1, ws, S1, s1, r1, d1, e1, g1⟩
    intro y dy hy hdy hne
    -- the new instance is a location
    have r2 : Rel X.K cl Sh1 (upd H1 dy (.own y)) μ1 S1 := r1.fresh hdy
    have hy2 : upd H1 dy (.own y) y = none := by rw [upd_ne hne.symm]; exact hy
    have r3 : Rel X.K cl Sh1 (upd (upd H1 dy (.own y)) y (.ins (cl.cl c) dy [])) μ1 S1 := r2.fresh hy2
    have hyS : Sh1 y = none := Same.free r2.sub hy2
    obtain ⟨r4, s4⟩ := r3.alloc (p := y) (o := .ins c []) hyS (r2.new_ne hy2) ⟨dy, [], upd_same, .nil⟩
    refine ⟨Sh1, μ1 ++ [y], _, _, r4, .cons (show DenW X.K cl Sh1 (μ1 ++ [y]) (.ref y) (.loc S1.length) from ⟨y, by rw [← r1.len]; simp, rfl⟩) ((DenWs.step s4 d1).app (denNones nd)), hpost ws S1 Sh1 μ1 H1 y dy e1 s1 r1 g1 hy hdy hne⟩
  have none : PassesAt (CX X.prog X.w) X σ (fun _ _ _ => False) := no_pass
  have back : ∀ {Sh1 : Hp} {μ1 : List Addr} {y : Addr} {H1 : Hp} {S1 : Store}, Rel X.K cl Sh1 H1 μ1 S1 → μ1.length = S1.length := fun r => r.len
  dsimp only at h
  cases e1 : f ρ S with
  | ok ws S1 =>
    rw [e1] at h
    have h' : GR X cl σ Sh μ (DenW X.K cl) Q (mkRes c S1.length (F (.loc S1.length :: (ws ++ List.replicate nd (.t .non))) (S1 ++ [some (.ins c [])]))) := h
    cases e2 : F (.loc S1.length :: (ws ++ List.replicate nd (.t .non))) (S1 ++ [some (.ins c [])]) with
    | ok w S2 =>
      refine main _ none fun ws' S1' Sh1 μ1 H1 y dy e3 s1 r1 g1 hy hdy hne => ?_
      rw [e1] at e3; cases e3
      rw [e2] at g1 ⊢
      intro v H' Sh' μ' s rl q
      unfold mkRes at g1
      split at g1
      · rename_i S2' heq
        cases heq
        split at g1
        · exact g1.elim
        · rename_i hlt
          split at g1
          · rename_i c' fs hget
            split at g1
            · rename_i hc
              subst hc
              have hv : v = .non := DenR.sc (Sh := Sh') (H := H') (.inl q) rfl
              refine ⟨hv, ?_⟩
              obtain ⟨a, e4, e5, e6⟩ := rl.obj _ _ hget
              have ea : a = y := by
                have := s.mu S1.length y (by rw [← r1.len]; simp)
                rw [this] at e4; cases e4; rfl
              subst ea
              obtain ⟨dx, es', h5, h6⟩ := e6
              have st : Step Sh1 μ1 Sh' (μ'.take S1.length) := by
                refine Step.take (by rw [r1.len]; exact Nat.le_refl _) ⟨s.sh, fun n a e => s.mu n a ?_⟩
                have : n < μ1.length := by
                  by_cases q : n < μ1.length
                  · exact q
                  · rw [List.getElem?_eq_none (by omega)] at e; cases e
                rw [List.getElem?_append_left this]; exact e
              have eb : μ'[S1.length]? = some a := s.mu _ _ (by rw [← r1.len]; simp)
              have r5 := (rl.take (b := S1.length)).share h5 e5 (fun m ob b hm ha hz => by
                subst hz
                obtain ⟨l1, l2⟩ := get_take hm
                rw [List.getElem?_take_of_lt l1] at ha
                have := rl.inj m S1.length b ob _ ha eb l2 hget
                omega)
              have st2 : Step Sh' (μ'.take S1.length) (upd Sh' a (.ins (cl.cl c') dx es')) (μ'.take S1.length) := ⟨fun b u q => by rw [upd_ne (ne_of_none q e5)]; exact q, fun _ _ z => z⟩
              exact g1 _ H' _ _ (st.trans st2) r5 (Den.ins upd_same (h6.mono st2.sh))
            · exact g1.elim
          · exact g1.elim
      · rename_i heq; cases heq
      · exact g1.elim
    | exc k S2 =>
      rw [e2] at h'
      obtain ⟨W, tk, hW⟩ := (show XW X cl σ Sh μ k (S2.take S1.length) from h')
      refine main (fun c d H => W c d σ H) (passAt tk σ) fun ws' S1' Sh1 μ1 H1 y dy e3 s1 r1 g1 hy hdy hne => ?_
      rw [e1] at e3; cases e3
      rw [e2]
      intro H' Sh' μ' s rl
      have st : Step Sh1 μ1 Sh' (μ'.take S1.length) := by
        refine Step.take (by rw [r1.len]; exact Nat.le_refl _) ⟨s.sh, fun n a e => s.mu n a ?_⟩
        have : n < μ1.length := by
          by_cases q : n < μ1.length
          · exact q
          · rw [List.getElem?_eq_none (by omega)] at e; cases e
        rw [List.getElem?_append_left this]; exact e
      exact hW H' Sh' _ (s1.trans st) rl.take
    | bad => rw [e2] at h'; exact h'.elim
  | exc k S1 => exact main _ none fun ws' S1' Sh1 μ1 H1 y dy e3 s1 r1 g1 hy hdy hne => by rw [e1] at e3; cases e3
  | bad => rw [e1] at h; exact h.elim
end
end Rf

/-! Rf, part K: new objects. -/
namespace Rf
open PySem PySem.Spec PyProof.Rows L2
def Ob.ld : Ob → Bool
  | .lst _ => true
  | .dct _ _ => true
  | .ins _ _ => false
/-- what follows a new object -/
def NxtF (X : Cx) (cl : Nm) (Sh : Hp) (μ : List Addr) (S : Store) (o : Ob) (Q : VK) : Prop :=
  ∀ p H' Sh' μ', Step Sh μ Sh' μ' → Rel X.K cl Sh' H' μ' S → Sh' p = none → (∀ m ob a, get S m = some ob → μ'[m]? = some a → a ≠ p) → ObAt X.K cl Sh' H' p o → Q (.ref p) H'
def GF (X : Cx) (cl : Nm) (σ : L2.St) (Sh : Hp) (μ : List Addr) (Q : VK) : Res W → Prop
  | .ok w S => ∃ o, w = .t (Ob.tree o) ∧ o.ld = true ∧ NxtF X cl Sh μ S o Q
  | .exc c S => XW X cl σ Sh μ c S
  | .bad => False
def SN (X : Cx) (cl : Nm) (e : Expr) (f : Env' → Store → Res W) : Prop :=
  ∀ ρ S σ H Sh μ Q, Rel X.K cl Sh H μ S → DenE X.K cl Sh μ σ ρ → GF X cl σ Sh μ Q (f ρ S) → WE X e σ H Q
section
variable {X : Cx} {cl : Nm}
theorem NxtF.mono {Sh Sh' : Hp} {μ μ' : List Addr} {S : Store} {o : Ob} {Q : VK} (s : Step Sh μ Sh' μ') (h : NxtF X cl Sh μ S o Q) : NxtF X cl Sh' μ' S o Q := fun p H1 Sh1 μ1 s1 r a b c => h p H1 Sh1 μ1 (s.trans s1) r a b c
theorem GF.mono {Sh Sh' : Hp} {μ μ' : List Addr} {Q : VK} {r : Res W} (s : Step Sh μ Sh' μ') (h : GF X cl σ Sh μ Q r) : GF X cl σ Sh' μ' Q r := by
  cases r with
  | ok w S => obtain ⟨o, e, l, k⟩ := h; exact ⟨o, e, l, k.mono s⟩
  | exc c S => exact XW.mono s h
  | bad => exact h
theorem GF.bind {α β : Type} {Sh : Hp} {μ : List Addr} {R : Hp → List Addr → β → α → Prop} {Q : VK} {r : Res α} {f : α → Store → Res W} (h : GF X cl σ Sh μ Q (bnd r f)) :
    GR X cl σ Sh μ R (fun b H1 => ∃ Sh1 μ1 a S1, Step Sh μ Sh1 μ1 ∧ Rel X.K cl Sh1 H1 μ1 S1 ∧ R Sh1 μ1 b a ∧ GF X cl σ Sh1 μ1 Q (f a S1)) r := by
  cases r with
  | ok a S => exact fun b H1 Sh1 μ1 s1 rl q => ⟨Sh1, μ1, a, S, s1, rl, q, GF.mono s1 h⟩
  | exc c S => exact h
  | bad => exact h
theorem GF.ok? {Sh : Hp} {μ : List Addr} {S : Store} {o : Option D} {Q : VK} (h : GF X cl σ Sh μ Q (ok? S o)) : ∃ ob : Ob, o = some ob.tree ∧ ob.ld = true ∧ NxtF X cl Sh μ S ob Q := by
  cases o with
  | none => exact h.elim
  | some d => obtain ⟨ob, e, l, k⟩ := h; cases e; exact ⟨ob, rfl, l, k⟩
theorem NxtF.lst {Sh H : Hp} {μ : List Addr} {S : Store} {ds : List D} {vs : List V} {Q : VK} (k : NxtF X cl Sh μ S (.lst ds) Q) (r : Rel X.K cl Sh H μ S) (h : Dens X.K cl Sh vs ds) : ∀ p, H p = none → Q (.ref p) (upd H p (.lst vs)) := fun p hp =>
  k p _ Sh μ (Step.refl _ _) (r.fresh hp) (Same.free r.sub hp) (r.new_ne hp) ⟨vs, upd_same, h⟩
/-- two operands, then a new object -/
theorem twoF {ea eb : Expr} {fa fb : Env' → Store → Res W} (ha : SE X cl ea fa) (hb : SE X cl eb fb) {ρ : Env'} {S : Store} {σ : L2.St} {H Sh : Hp} {μ : List Addr} {Q : VK} {k : W → W → Store → Res W}
    (r : Rel X.K cl Sh H μ S) (de : DenE X.K cl Sh μ σ ρ) (h : GF X cl σ Sh μ Q (bnd (fa ρ S) fun x S1 => bnd (fb ρ S1) fun y S2 => k x y S2)) {R : V → V → Hp → Prop}
    (hk : ∀ x y a b H2 Sh2 μ2 S2, Step Sh μ Sh2 μ2 → Rel X.K cl Sh2 H2 μ2 S2 → DenW X.K cl Sh2 μ2 x a → DenW X.K cl Sh2 μ2 y b → GF X cl σ Sh2 μ2 Q (k a b S2) → R x y H2) :
    WE X ea σ H (fun x H1 => WE X eb σ H1 (fun y H2 => R x y H2)) := by
  refine ha ρ S σ H Sh μ _ r de ?_
  refine GR.imp ?_ (GF.bind (R := DenW X.K cl) h)
  rintro x H1 ⟨Sh1, μ1, a, S1, s1, r1, d1, g1⟩
  refine hb ρ S1 σ H1 Sh1 μ1 _ r1 (de.step s1) ?_
  refine GR.imp ?_ (GF.bind (R := DenW X.K cl) g1)
  rintro y H2 ⟨Sh2, μ2, b, S2, s2, r2, d2, g2⟩
  exact hk x y a b H2 Sh2 μ2 S2 (s1.trans s2) r2 (d1.step s2) d2 g2
theorem se_new {e : Expr} {f : Env' → Store → Res W} (h : SN X cl e f) : SE X cl e (fun ρ S => bnd (f ρ S) fun x S1 => match x with
    | .t (.lst ds) => .ok (.loc S1.length) (S1 ++ [some (.lst ds)])
    | .t (.dct t ds) => .ok (.loc S1.length) (S1 ++ [some (.dct t ds)])
    | _ => .bad) := by
  intro ρ S σ H Sh μ Q r de g
  dsimp only at g
  refine h ρ S σ H Sh μ Q r de ?_
  have fin : ∀ (o : Ob) (S1 : Store), GR X cl σ Sh μ (DenW X.K cl) Q (.ok (.loc S1.length) (S1 ++ [some o])) → NxtF X cl Sh μ S1 o Q := by
    intro o S1 g p H' Sh' μ' s1 r1 n1 n2 ob
    obtain ⟨r2, s2⟩ := r1.alloc n1 n2 ob
    exact g (.ref p) H' Sh' _ (s1.trans s2) r2 ⟨p, by rw [← r1.len]; simp, rfl⟩
  cases e1 : f ρ S with
  | ok w S1 =>
    rw [e1] at g
    cases w with
    | loc n => exact g.elim
    | t d =>
      cases d with
      | lst ds => exact ⟨.lst ds, rfl, rfl, fin (.lst ds) S1 g⟩
      | dct t ds => exact ⟨.dct t ds, rfl, rfl, fin (.dct t ds) S1 g⟩
      | _ => exact g.elim
  | exc c S1 => rw [e1] at g; exact g
  | bad => rw [e1] at g; exact g.elim
theorem sn_lst {es : List Expr} {f : Env' → Store → Res (List W)} {p : Pos} (ha : SA X cl es f) :
    SN X cl (.List es p) (fun ρ S => bnd (f ρ S) fun ws S1 => match asTs ws with | some ds => if ds.length ≤ sizeLine then .ok (.t (.lst ds)) S1 else .bad | none => .bad) := by
  intro ρ S σ H Sh μ Q r de h
  refine WE.of (pe_lst pa_W) (ha ρ S σ H Sh μ _ r de (GR.imp ?_ (GF.bind (R := DenWs X.K cl) h)))
  rintro vs H1 ⟨Sh1, μ1, ws, S1, s1, r1, d1, g1⟩
  split at g1
  · rename_i ds e
    have dd := d1.asTs e
    split at g1
    · rename_i hl
      obtain ⟨o, e, _, k⟩ := g1
      cases o with
      | lst ds' => cases e; exact ⟨by rw [dd.length]; exact hl, k.lst r1 dd⟩
      | dct _ _ => cases e
      | ins _ _ => cases e
    · exact g1.elim
  · exact g1.elim
theorem sn_bin {o : Op} {ea eb : Expr} {fa fb : Env' → Store → Res W} {p : Pos} (ha : SE X cl ea fa) (hb : SE X cl eb fb) :
    SN X cl (.BinOp ea o.py eb p) (fun ρ S => bnd (fa ρ S) fun x S1 => bnd (fb ρ S1) fun y S2 => match rd S2 x, rd S2 y with
      | some dx, some dy => ok? S2 (bin2 o dx dy)
      | _, _ => .bad) := by
  intro ρ S σ H Sh μ Q r de h
  refine WE.of (pe_op bestOp_ok pe_W pe_W) (twoF ha hb r de h ?_)
  intro x y a b H2 Sh2 μ2 S2 _ r2 d1 d2 g
  split at g
  · rename_i dx dy e1 e2
    obtain ⟨ob, e, l, k⟩ := GF.ok? g
    have ha' := r2.rd e1 d1
    have hb' := r2.rd e2 d2
    have hi : ∀ {v : V} {i : Int}, DenR X.K cl Sh2 H2 v (.int i) → v = .int i := fun h => h.sc rfl
    cases o with
    | add =>
      simp only [bin2] at e
      split at e
      · cases ob <;> cases e
      · split at e
        · cases ob <;> cases e
        · cases e
      · split at e
        · rename_i hl
          cases ob with
          | lst ds =>
            cases e
            obtain ⟨p, vs, rfl, h1, h2⟩ := ha'.lst r2.sub
            obtain ⟨q, us, rfl, h3, h4⟩ := hb'.lst r2.sub
            exact ⟨_, op_catR, p, q, vs, us, rfl, rfl, h1, h3, by rw [h2.length, h4.length]; exact hl, k.lst r2 (h2.append h4)⟩
          | dct _ _ => cases e
          | ins _ _ => cases e
        · cases e
      · cases e
    | mul =>
      simp only [bin2] at e
      split at e
      · split at e
        · cases ob <;> cases e
        · cases e
      · split at e
        · cases ob <;> cases e
        · cases e
      · split at e
        · rename_i hl
          cases ob with
          | lst ds =>
            cases e
            obtain ⟨p, vs, rfl, h1, h2⟩ := ha'.lst r2.sub
            rw [hi hb']
            refine ⟨_, op_repR, p, _, vs, rfl, rfl, h1, by omega, by omega, ?_, k.lst r2 (h2.rep _)⟩
            rw [h2.length]
            exact len1000 hl.2.2 (by omega)
          | dct _ _ => cases e
          | ins _ _ => cases e
        · cases e
      · cases e
    | sub => simp only [bin2] at e; split at e <;> cases ob <;> cases e
    | fdiv => simp only [bin2] at e; split at e <;> (try split at e) <;> cases ob <;> cases e
    | mod => simp only [bin2] at e; split at e <;> (try split at e) <;> cases ob <;> cases e
    | pow => simp only [bin2] at e; split at e <;> (try split at e) <;> cases ob <;> cases e
    | shr => simp only [bin2] at e; split at e <;> (try split at e) <;> cases ob <;> cases e
    | band => simp only [bin2] at e; split at e <;> cases ob <;> cases e
  · exact g.elim
theorem sn_sl {ea : Expr} {lo hi : Option Expr} {fa : Env' → Store → Res W} {fl fh : Env' → Store → Res (Option Int)} {ps p : Pos} (ha : SE X cl ea fa) (hl : SO X cl lo fl) (hh : SO X cl hi fh) :
    SN X cl (.Subscript ea (.Slice lo hi none ps) p) (fun ρ S => bnd (fa ρ S) fun x S1 => bnd (fl ρ S1) fun l S2 => bnd (fh ρ S2) fun h S3 => match rd S3 x with
      | some dx => ok? S3 (slice2 dx l h)
      | none => .bad) := by
  intro ρ S σ H Sh μ Q r de h
  refine WE.of (pe_slice bestSl_ok pe_W po_W po_W) (ha ρ S σ H Sh μ _ r de (GR.imp ?_ (GF.bind (R := DenW X.K cl) h)))
  rintro x H1 ⟨Sh1, μ1, a, S1, s1, r1, d1, g1⟩
  refine hl ρ S1 σ H1 Sh1 μ1 _ r1 (de.step s1) (GR.imp ?_ (GF.bind (R := fun _ _ (b a : Option Int) => b = a) g1))
  rintro l H2 ⟨Sh2, μ2, l', S2, s2, r2, rfl, g2⟩
  refine hh ρ S2 σ H2 Sh2 μ2 _ r2 ((de.step s1).step s2) (GR.imp ?_ (GF.bind (R := fun _ _ (b a : Option Int) => b = a) g2))
  rintro u H3 ⟨Sh3, μ3, u', S3, s3, r3, rfl, g3⟩
  split at g3
  · rename_i dx e
    obtain ⟨ob, e', _, k⟩ := GF.ok? g3
    have hx := r3.rd e ((d1.step s2).step s3)
    unfold slice2 at e'
    split at e'
    · split at e' <;> cases ob <;> cases e'
    · cases ob with
      | lst ds =>
        cases e'
        obtain ⟨p, vs, rfl, h1, h2⟩ := hx.lsts (ds := _) r3.sub rfl
        exact ⟨_, sl_list, p, vs, rfl, h1, k.lst r3 (h2.cut _ _)⟩
      | dct _ _ => cases e'
      | ins _ _ => cases e'
    · cases ob with
      | lst ds =>
        cases e'
        obtain ⟨p, vs, rfl, h1, h2⟩ := hx.lsts (ds := _) r3.sub rfl
        exact ⟨_, sl_list, p, vs, rfl, h1, k.lst r3 (h2.cut _ _)⟩
      | dct _ _ => cases e'
      | ins _ _ => cases e'
    · split at e' <;> cases ob <;> cases e'
    · cases e'
  · exact g3.elim
theorem sn_list {e : Expr} {f : Env' → Store → Res (List W)} {pn p : Pos} (hp : Plain e) (ha : SA X cl [e] f) (hG : Gl X (Str.ofString "list")) (hm : X.mg (Str.ofString "list") = none) :
    SN X cl (.Call (.Name (Str.ofString "list") pn) [e] [] p) (fun ρ S => bnd (f ρ S) fun ws S1 => match rds S1 ws with | some ds => ok? S1 (bf .list ds) | none => .bad) := by
  intro ρ S σ H Sh μ Q r de h
  have hv := boot_bf .list
  obtain ⟨n1, n2⟩ := bf_names .list
  refine WE.of (pe_callTy (T := "list") call_list_of hG hm hv pa_W n1 n2 (hp.star _ _) rfl) ?_
  refine ha ρ S σ H Sh μ _ r de (GR.imp ?_ (GF.bind (R := DenWs X.K cl) h))
  rintro vs H1 ⟨Sh1, μ1, ws, S1, s1, r1, d1, g1⟩
  split at g1
  · rename_i ds e1
    obtain ⟨ob, e2, _, k⟩ := GF.ok? g1
    have hh := r1.rds d1 e1
    unfold bf at e2
    split at e2 <;> first
      | (rename_i heq; cases heq; done)
      | skip
    · rename_i d
      obtain ⟨xs, h1, h2⟩ := Option.map_eq_some_iff.mp e2
      cases ob with
      | lst ds' =>
        cases h2
        cases hh with
        | cons hd hn =>
          cases hn
          obtain ⟨p, us, rfl, h3, h4⟩ := hd.items r1.sub h1
          exact ⟨p, us, rfl, h3, k.lst r1 h4⟩
      | dct _ _ => cases h2
      | ins _ _ => cases h2
    · cases e2
  · exact g1.elim
theorem sn_dct0 {t : Bool} {p : Pos} : SN X cl (.Dict [] [] p) (fun _ S => .ok (.t (.dct t [])) S) := by
  intro ρ S σ H Sh μ Q r de h
  obtain ⟨o, e, _, k⟩ := h
  cases o with
  | dct t' ds =>
    cases e
    cases t with
    | false => exact WE.of pe_dnewK fun p hp => k p _ Sh μ (Step.refl _ _) (r.fresh hp) (Same.free r.sub hp) (r.new_ne hp) ⟨[], upd_same, .nil⟩
    | true => exact WE.of pe_dnewT fun p hp => k p _ Sh μ (Step.refl _ _) (r.fresh hp) (Same.free r.sub hp) (r.new_ne hp) ⟨[], upd_same, .nil⟩
  | lst _ => cases e
  | ins _ _ => cases e
theorem se_dct0 {t : Bool} {p : Pos} : SE X cl (.Dict [] [] p) (fun _ S => .ok (.t (.dct t [])) S) := by
  intro ρ S σ H Sh μ Q r de h
  cases t with
  | false =>
    refine WE.of pe_dnewK fun p hp => ?_
    obtain ⟨r1, s1⟩ := r.put (o := .dK []) hp
    exact h _ _ _ _ s1 r1 (Den.dK upd_same .nil)
  | true =>
    refine WE.of pe_dnewT fun p hp => ?_
    obtain ⟨r1, s1⟩ := r.put (o := .dT []) hp
    exact h _ _ _ _ s1 r1 (Den.dT upd_same .nil)
end
end Rf

/-! Rf, part L: targets, what is walked, comprehensions. -/
namespace Rf
open PySem PySem.Spec PyProof.Rows L2

/-! ### targets -/
/-- the places of a target -/
def Tg.ix : Tg → List Nat
  | .nm i _ => [i]
  | .tp is _ _ => is.map (·.1)
/-- a target whose names are stored in X -/
structure TgOk (X : Cx) (N : List Str) (tg : Tg) : Prop where
  nd : X.N.Nodup
  n : X.N = N
  lt : ∀ i ∈ tg.ix, i < N.length
  loc : ∀ i ∈ tg.ix, Loc X.env.scope (nmOf N i) ∧ (X.fn (nmOf N i) = true ∨ X.env.scope.names.lookup (nmOf N i) = some .local)
  calm : X.calm = true
theorem nmOf_get {N : List Str} {i : Nat} (h : i < N.length) : N[i]? = some (nmOf N i) := by
  unfold nmOf
  rw [List.getElem?_eq_getElem h]
  rfl
def setAll : L2.St → List Nat → List V → L2.St
  | σ, i :: is, v :: vs => setAll (σ.set i (some v)) is vs
  | σ, _, _ => σ
section
variable {X : Cx} {cl : Nm} {N : List Str}
theorem pgs_all : ∀ (is : List (Nat × Pos)), X.N.Nodup → X.N = N → (∀ i ∈ is.map (·.1), i < N.length) → (∀ i ∈ is.map (·.1), Loc X.env.scope (nmOf N i) ∧ (X.fn (nmOf N i) = true ∨ X.env.scope.names.lookup (nmOf N i) = some .local)) →
    PGs X (is.map fun q => .Name (nmOf N q.1) q.2) (fun vs σ H Q => vs.length = is.length ∧ Q (setAll σ (is.map (·.1)) vs) H)
  | [], _, _, _, _ => ⟨fun pins s σ H vs us Q I r h => by
      obtain ⟨e, h⟩ := h
      have : vs = [] := List.eq_nil_of_length_eq_zero e
      subst this
      exact pgs_nil.run pins s σ H [] us Q I r ⟨rfl, h⟩⟩
  | (i, p) :: is, hn, e, hl, hc => by
    have ih := pgs_all is hn e (fun j hj => hl j (List.mem_cons_of_mem _ hj)) (fun j hj => hc j (List.mem_cons_of_mem _ hj))
    have hi : X.N[i]? = some (nmOf N i) := by rw [e]; exact nmOf_get (hl i List.mem_cons_self)
    obtain ⟨h1, h2⟩ := hc i List.mem_cons_self
    refine ⟨fun pins s σ H vs us Q I r h => ?_⟩
    obtain ⟨el, h⟩ := h
    cases vs with
    | nil => cases el
    | cons v vs => exact (pgs_cons (pg_name hn hi h1 h2) ih).run pins s σ H _ us Q I r ⟨v, vs, rfl, by simpa using el, h⟩
theorem findIdx_names (env : Env) : ∀ is : List (Nat × Pos), (assignEach (is.map fun q => Expr.Name (nmOf N q.1) q.2) env).findIdx? (·.1) = none
  | [] => rfl
  | (i, p) :: is => by
    have ih := findIdx_names env is
    show (((false, _) : Bool × _) :: assignEach (is.map fun q => Expr.Name (nmOf N q.1) q.2) env).findIdx? (·.1) = none
    rw [List.findIdx?_cons]
    simp only [Bool.false_eq_true, if_false]
    rw [ih]; rfl
theorem len_names (env : Env) : ∀ is : List (Nat × Pos), (assignEach (is.map fun q => Expr.Name (nmOf N q.1) q.2) env).length = is.length
  | [] => rfl
  | (i, p) :: is => by
    show (assignEach (is.map fun q => Expr.Name (nmOf N q.1) q.2) env).length + 1 = is.length + 1
    rw [len_names env is]
theorem setAll_ok {K : PySem.W.Frag} {Sh : Hp} {μ : List Addr} : ∀ (is : List (Nat × Pos)) {vs : List V} {ds : List D} {σ : L2.St} {ρ ρ2 : Env'}, Dens K cl Sh vs ds → DenE K cl Sh μ σ ρ → Tg.store.go is ds ρ = some ρ2 → DenE K cl Sh μ (setAll σ (is.map (·.1)) vs) ρ2
  | [], _, _, _, _, _, .nil, de, e => by simp [Tg.store.go] at e; subst e; exact de
  | [], _, _, _, _, _, .cons _ _, _, e => by simp [Tg.store.go] at e
  | (i, p) :: is, _, _, _, _, _, .nil, _, e => by simp [Tg.store.go] at e
  | (i, p) :: is, _, _, _, _, _, .cons h r, de, e => by
    simp only [Tg.store.go] at e
    split at e
    · exact setAll_ok is r (de.set (w := .t _) h) e
    · cases e
theorem wipe_get (σ : L2.St) (j : Nat) : ∀ vs : List Nat, (wipe σ vs)[j]? = if j ∈ vs ∧ j < σ.length then some none else σ[j]?
  | [] => by simp [wipe]
  | v :: vs => by
    have ih := wipe_get σ j vs
    unfold wipe
    by_cases hv : v = j
    · subst hv
      by_cases hl : v < σ.length
      · rw [List.getElem?_set_self (by rw [wipe_length]; exact hl)]
        simp [hl]
      · rw [List.getElem?_eq_none (by rw [List.length_set, wipe_length]; omega)]
        simp [hl]
    · rw [List.getElem?_set_ne hv, ih]
      by_cases h2 : j ∈ vs
      · simp [h2]
      · have : ¬ j ∈ v :: vs := by simp only [List.mem_cons, not_or]; exact ⟨fun z => hv z.symm, h2⟩
        simp [h2, this]
theorem wipe_set {σ : L2.St} {i : Nat} {v : Option V} {vs : List Nat} (h : i ∈ vs) : wipe (σ.set i v) vs = wipe σ vs := by
  apply List.ext_getElem?
  intro j
  rw [wipe_get, wipe_get, List.length_set]
  by_cases hj : j ∈ vs ∧ j < σ.length
  · rw [if_pos hj, if_pos hj]
  · rw [if_neg hj, if_neg hj]
    by_cases hi : i = j
    · subst hi
      have : ¬ i < σ.length := fun z => hj ⟨h, z⟩
      rw [List.getElem?_eq_none (by rw [List.length_set]; omega), List.getElem?_eq_none (by omega)]
    · rw [List.getElem?_set_ne hi]
theorem wipe_setAll {own : List Nat} : ∀ (is : List Nat) (σ : L2.St) (vs : List V), (∀ i ∈ is, i ∈ own) → wipe (setAll σ is vs) own = wipe σ own
  | [], _, _, _ => by simp [setAll]
  | _ :: _, _, [], _ => by simp [setAll]
  | i :: is, σ, v :: vs, h => by
    simp only [setAll]
    rw [wipe_setAll is _ vs fun j hj => h j (List.mem_cons_of_mem _ hj), wipe_set (h i List.mem_cons_self)]
theorem wipe_wipe {σ : L2.St} {vs : List Nat} : wipe (wipe σ vs) vs = wipe σ vs := by
  apply List.ext_getElem?
  intro j
  rw [wipe_get, wipe_get, wipe_length]
  by_cases hj : j ∈ vs ∧ j < σ.length
  · rw [if_pos hj, if_pos hj]
  · rw [if_neg hj, if_neg hj]
/-- a value is stored by a target -/
theorem tg_ok {tg : Tg} (ok : TgOk X N tg) {Sh H : Hp} {μ : List Addr} {S : Store} {σ : L2.St} {ρ ρ2 : Env'} {v : V} {d : D} {Q : L2.St → Hp → Prop} (r : Rel X.K cl Sh H μ S) (de : DenE X.K cl Sh μ σ ρ) (h : Den X.K cl Sh v d) (e : tg.store d ρ = some ρ2)
    (k : ∀ σ2, DenE X.K cl Sh μ σ2 ρ2 → (∀ own : List Nat, (∀ i ∈ tg.ix, i ∈ own) → wipe σ2 own = wipe σ own) → Q σ2 H) : WG X (tg.py N) v σ H Q := by
  cases tg with
  | nm i p =>
    simp only [Tg.store] at e
    split at e
    · cases e
      have hi : X.N[i]? = some (nmOf N i) := by rw [ok.n]; exact nmOf_get (ok.lt i (by simp [Tg.ix]))
      obtain ⟨h1, h2⟩ := ok.loc i (by simp [Tg.ix])
      exact WG.of (pg_name ok.nd hi h1 h2) (k _ (de.set (w := .t d) h) fun own ho => wipe_set (ho i (by simp [Tg.ix])))
    · cases e
  | tp is kk p =>
    have h1 : ∀ {xs : List V} {ds : List D}, is.length = ds.length → Tg.store.go is ds ρ = some ρ2 → SqT X.K H (match v with | .ref a => a | _ => 0) xs → v = .ref (match v with | .ref a => a | _ => 0) → Dens X.K cl Sh xs ds → WG X (.Tuple (is.map fun q => .Name (nmOf N q.1) q.2) kk p) v σ H Q := by
      intro xs ds hl hs hq hv dd
      refine WG.of (pg_tup (n := is.length) ok.calm (pgs_all is ok.nd ok.n (fun i hi => ok.lt i hi) (fun i hi => ok.loc i hi)) (len_names X.env is) (findIdx_names X.env is)) ?_
      refine ⟨_, xs, hv, hq, by rw [dd.length]; exact hl.symm, by rw [dd.length]; exact hl.symm, k _ (setAll_ok is dd de hs) fun own ho => wipe_setAll _ _ _ fun i hi => ho i hi⟩
    cases d with
    | tup ds =>
      simp only [Tg.store] at e
      split at e
      · rename_i hl
        cases h with
        | tup ht dd => exact h1 hl e (.inl (.inl (r.sub _ _ ht))) rfl dd
      · cases e
    | _ => simp only [Tg.store] at e; cases e

/-! ### what is walked -/
structure Ylds (K : PySem.W.Frag) (cl : Nm) (J : It) (Sh : Hp) (items : List D) : Prop where
  go : ∀ H (i : Nat) d, Same Sh H → items[i]? = some d → J.go i H
  yl : ∀ H (i : Nat) d x H', Same Sh H → items[i]? = some d → J.yld i H x H' → (H' = H ∧ Den K cl Sh x d) ∨ ∃ p vs ds, x = .ref p ∧ H p = none ∧ H' = upd H p (.tup vs) ∧ d = .tup ds ∧ Dens K cl Sh vs ds
  stop : ∀ H (i : Nat), Same Sh H → items.length ≤ i → J.stop i H
structure YldsL (K : PySem.W.Frag) (cl : Nm) (J : It) (Sh : Hp) (μ : List Addr) (it : Wk) : Prop where
  go : ∀ H Sh' μ' S' (i : Nat) d, Step Sh μ Sh' μ' → Rel K cl Sh' H μ' S' → itAt it S' i = some d → J.go i H
  yl : ∀ H Sh' μ' S' (i : Nat) d x H', Step Sh μ Sh' μ' → Rel K cl Sh' H μ' S' → itAt it S' i = some d → J.yld i H x H' → (H' = H ∧ Den K cl Sh' x d) ∨ ∃ p vs ds, x = .ref p ∧ H p = none ∧ H' = upd H p (.tup vs) ∧ d = .tup ds ∧ Dens K cl Sh' vs ds
  stop : ∀ H Sh' μ' S' (i : Nat), Step Sh μ Sh' μ' → Rel K cl Sh' H μ' S' → itOk it S' = true → it.1.length ≤ i → J.stop i H
theorem Ylds.l {K : PySem.W.Frag} {cl : Nm} {J : It} {Sh : Hp} {μ : List Addr} {items : List D} (h : Ylds K cl J Sh items) : YldsL K cl J Sh μ (items, none) where
  go := fun H Sh' μ' S' i d s r e => h.go H i d (s.sh.trans r.sub) e
  yl := fun H Sh' μ' S' i d x H' s r e y => by
    rcases h.yl H i d x H' (s.sh.trans r.sub) e y with ⟨a, b⟩ | ⟨p, vs, ds, h1, h2, h3, h4, h5⟩
    · exact .inl ⟨a, b.mono s.sh⟩
    · exact .inr ⟨p, vs, ds, h1, h2, h3, h4, h5.mono s.sh⟩
  stop := fun H Sh' μ' S' i s r _ hl => h.stop H i (s.sh.trans r.sub) hl
def SI (X : Cx) (cl : Nm) (tg iter : Expr) (f : Env' → Store → Res Wk) : Prop :=
  ∀ ρ S σ H Sh μ (R : It → Hp → Prop), Rel X.K cl Sh H μ S → DenE X.K cl Sh μ σ ρ → GR X cl σ Sh μ (fun Sh' μ' (J : It) it => YldsL X.K cl J Sh' μ' it) R (f ρ S) → WI X tg iter σ H R
theorem sqL_inj {K : PySem.W.Frag} {cl : Nm} {Sh : Hp} {vs : List V} {ds : List D} (h : Dens K cl Sh vs ds) {i : Nat} {d : D} (e : ds[i]? = some d) : ∃ v, vs[i]? = some v ∧ Den K cl Sh v d := h.get e
theorem ylds_list {K : PySem.W.Frag} {cl : Nm} {Sh : Hp} {a : Addr} {vs : List V} {ds : List D} (h : SqL K Sh a vs) (dd : Dens K cl Sh vs ds) : Ylds K cl (Itl K a) Sh ds where
  go := fun H i d s e => by obtain ⟨v, e1, _⟩ := dd.get e; exact ⟨vs, v, s.seq h, e1⟩
  yl := fun H i d x H' s e ⟨e1, y⟩ => by
    obtain ⟨v, e2, q⟩ := dd.get e
    have := y vs (s.seq h)
    rw [e2] at this; cases this
    exact .inl ⟨e1, q⟩
  stop := fun H i s hl => ⟨vs, s.seq h, by rw [dd.length]; exact hl⟩
theorem ylds_tup {K : PySem.W.Frag} {cl : Nm} {Sh : Hp} {a : Addr} {vs : List V} {ds : List D} (h : SqT K Sh a vs) (dd : Dens K cl Sh vs ds) : Ylds K cl (Itt K a) Sh ds where
  go := fun H i d s e => by obtain ⟨v, e1, _⟩ := dd.get e; exact ⟨vs, v, same_seqT s h, e1⟩
  yl := fun H i d x H' s e ⟨e1, y⟩ => by
    obtain ⟨v, e2, q⟩ := dd.get e
    have := y vs (same_seqT s h)
    rw [e2] at this; cases this
    exact .inl ⟨e1, q⟩
  stop := fun H i s hl => ⟨vs, same_seqT s h, by rw [dd.length]; exact hl⟩
theorem len_rangeD (c : Int) : ∀ (n : Nat) (lo : Int), (rangeD lo c n).length = n
  | 0, _ => rfl
  | n + 1, lo => by simp [rangeD, len_rangeD c n]
theorem get_rangeD (c : Int) : ∀ (n : Nat) (lo : Int) (i : Nat) (d : D), (rangeD lo c n)[i]? = some d → i < n ∧ d = .int (lo + (i : Nat) * c)
  | 0, _, _, _, e => by simp [rangeD] at e
  | n + 1, lo, 0, d, e => by simp [rangeD] at e; subst e; exact ⟨by omega, by simp⟩
  | n + 1, lo, i + 1, d, e => by
    simp only [rangeD, List.getElem?_cons_succ] at e
    obtain ⟨h1, h2⟩ := get_rangeD c n (lo + c) i d e
    refine ⟨by omega, ?_⟩
    rw [h2]
    congr 1
    push_cast
    rw [Int.add_mul]
    omega
theorem ylds_range {K : PySem.W.Frag} {cl : Nm} {Sh : Hp} (lo : Int) (n : Nat) : Ylds K cl (Itr lo n) Sh (rangeD lo 1 n) where
  go := fun H i d s e => (get_rangeD 1 n lo i d e).1
  yl := fun H i d x H' s e ⟨e1, y⟩ => by
    obtain ⟨_, h2⟩ := get_rangeD 1 n lo i d e
    subst y
    refine .inl ⟨e1, ?_⟩
    rw [h2, Int.mul_one]
    exact Den.int _
  stop := fun H i s hl => by rw [len_rangeD] at hl; exact hl
theorem ylds_rangeC {K : PySem.W.Frag} {cl : Nm} {Sh : Hp} (lo c : Int) (n : Nat) : Ylds K cl (Itc lo c n) Sh (rangeD lo c n) where
  go := fun H i d s e => (get_rangeD c n lo i d e).1
  yl := fun H i d x H' s e ⟨e1, y⟩ => by
    obtain ⟨_, h2⟩ := get_rangeD c n lo i d e
    subst y
    refine .inl ⟨e1, ?_⟩
    rw [h2]
    exact Den.int _
  stop := fun H i s hl => by rw [len_rangeD] at hl; exact hl
theorem get_enumD : ∀ (k : Nat) (ds : List D) (i : Nat) (d : D), (enumD k ds)[i]? = some d → ∃ x, ds[i]? = some x ∧ d = .tup [.int ((k + i : Nat) : Int), x]
  | _, [], _, _, e => by simp [enumD] at e
  | k, x :: ds, 0, d, e => by simp [enumD] at e; subst e; exact ⟨x, rfl, rfl⟩
  | k, x :: ds, i + 1, d, e => by
    simp only [enumD, List.getElem?_cons_succ] at e
    obtain ⟨y, h1, h2⟩ := get_enumD (k + 1) ds i d e
    exact ⟨y, by simpa using h1, by rw [h2]; congr 4; omega⟩
theorem len_enumD : ∀ (k : Nat) (ds : List D), (enumD k ds).length = ds.length
  | _, [] => rfl
  | k, _ :: ds => by simp [enumD, len_enumD (k + 1) ds]
theorem ylds_enum {K : PySem.W.Frag} {cl : Nm} {Sh : Hp} {a : Addr} {vs : List V} {ds : List D} (h : SqL K Sh a vs) (dd : Dens K cl Sh vs ds) : Ylds K cl (Ite K a) Sh (enumD 0 ds) where
  go := fun H i d s e => by
    obtain ⟨x, e1, _⟩ := get_enumD 0 ds i d e
    obtain ⟨v, e2, _⟩ := dd.get e1
    exact ⟨vs, v, s.seq h, e2⟩
  yl := fun H i d x H' s e ⟨T, y, ex, hn, eh, hy⟩ => by
    obtain ⟨z, e1, e3⟩ := get_enumD 0 ds i d e
    obtain ⟨v, e2, q⟩ := dd.get e1
    have := hy vs (s.seq h)
    rw [e2] at this; cases this
    refine .inr ⟨T, _, _, ex, hn, eh, e3, .cons ?_ (.cons q .nil)⟩
    rw [Nat.zero_add]
    exact Den.int _
  stop := fun H i s hl => ⟨vs, s.seq h, by rw [dd.length, ← len_enumD 0]; exact hl⟩
theorem get_zipD : ∀ (as bs : List D) (i : Nat) (d : D), (zipD as bs)[i]? = some d → ∃ x y, as[i]? = some x ∧ bs[i]? = some y ∧ d = .tup [x, y]
  | [], _, _, _, e => by simp [zipD] at e
  | _ :: _, [], _, _, e => by simp [zipD] at e
  | a :: as, b :: bs, 0, d, e => by simp [zipD] at e; subst e; exact ⟨a, b, rfl, rfl, rfl⟩
  | a :: as, b :: bs, i + 1, d, e => by
    simp only [zipD, List.getElem?_cons_succ] at e
    obtain ⟨x, y, h1, h2, h3⟩ := get_zipD as bs i d e
    exact ⟨x, y, by simpa using h1, by simpa using h2, h3⟩
theorem len_zipD : ∀ (as bs : List D) (i : Nat), (zipD as bs).length ≤ i → as.length ≤ i ∨ bs.length ≤ i
  | [], _, _, _ => .inl (Nat.zero_le _)
  | _ :: _, [], _, _ => .inr (Nat.zero_le _)
  | a :: as, b :: bs, 0, h => by simp [zipD] at h
  | a :: as, b :: bs, i + 1, h => by
    simp only [zipD, List.length_cons, Nat.add_le_add_iff_right] at h ⊢
    exact len_zipD as bs i h
theorem ylds_zip {K : PySem.W.Frag} {cl : Nm} {Sh : Hp} {a b : Addr} {vs us : List V} {ds es : List D} (h : SqL K Sh a vs) (dd : Dens K cl Sh vs ds) (h' : SqL K Sh b us) (dd' : Dens K cl Sh us es) : Ylds K cl (Itz K a b) Sh (zipD ds es) where
  go := fun H i d s e => by
    obtain ⟨x, y, e1, e2, _⟩ := get_zipD ds es i d e
    obtain ⟨v, e3, _⟩ := dd.get e1
    obtain ⟨u, e4, _⟩ := dd'.get e2
    exact ⟨vs, us, v, u, s.seq h, s.seq h', e3, e4⟩
  yl := fun H i d x H' s e ⟨T, y, z, ex, hn, eh, hy, hz⟩ => by
    obtain ⟨p, q, e1, e2, e5⟩ := get_zipD ds es i d e
    obtain ⟨v, e3, q1⟩ := dd.get e1
    obtain ⟨u, e4, q2⟩ := dd'.get e2
    have t1 := hy vs (s.seq h)
    rw [e3] at t1; cases t1
    have t2 := hz us (s.seq h')
    rw [e4] at t2; cases t2
    exact .inr ⟨T, _, _, ex, hn, eh, e5, .cons q1 (.cons q2 .nil)⟩
  stop := fun H i s hl => by
    refine ⟨vs, us, s.seq h, s.seq h', ?_⟩
    rw [dd.length, dd'.length]
    exact len_zipD ds es i hl
theorem ylds_str {K : PySem.W.Frag} {cl : Nm} {Sh : Hp} (z : Str) : Ylds K cl (Its z) Sh (z.cps.toList.map fun c => .str ⟨#[c]⟩) where
  go := fun H i d s e => by
    rw [List.getElem?_map] at e
    obtain ⟨c, e1, _⟩ := Option.map_eq_some_iff.mp e
    have := (List.getElem?_eq_some_iff.mp e1).1
    show i < z.cps.size
    simpa using this
  yl := fun H i d x H' s e ⟨e1, c, e2, e3⟩ => by
    rw [List.getElem?_map] at e
    obtain ⟨c', e4, e5⟩ := Option.map_eq_some_iff.mp e
    have e6 : z.cps[i]? = some c' := by simpa using e4
    rw [e2] at e6; cases e6
    subst e3; subst e5
    exact .inl ⟨e1, Den.str _⟩
  stop := fun H i s hl => by show z.cps.size ≤ i; simpa using hl
theorem ylds_rev {K : PySem.W.Frag} {cl : Nm} {Sh : Hp} {a : Addr} {vs : List V} {ds : List D} (h : SqL K Sh a vs) (dd : Dens K cl Sh vs ds) : Ylds K cl (Itv K a vs.length) Sh ds.reverse := by
  refine ⟨fun H i d s e => ?_, fun H i d x H' s e ⟨e1, y⟩ => ?_, fun H i s hl => ?_⟩
  · have hi : i < ds.length := by
      have := (List.getElem?_eq_some_iff.mp e).1
      simpa using this
    rw [List.getElem?_reverse hi] at e
    obtain ⟨v, e1, _⟩ := dd.get e
    rw [← dd.length] at e1 hi
    exact ⟨hi, vs, v, s.seq h, e1⟩
  · have hi : i < ds.length := by
      have := (List.getElem?_eq_some_iff.mp e).1
      simpa using this
    rw [List.getElem?_reverse hi] at e
    obtain ⟨v, e2, q⟩ := dd.get e
    have := y vs (s.seq h)
    rw [dd.length, e2] at this; cases this
    exact .inl ⟨e1, q⟩
  · show vs.length ≤ i
    rw [dd.length]; simpa using hl

/-! ### sources -/
theorem GR.im {α β : Type} {Sh : Hp} {μ : List Addr} {R R' : Hp → List Addr → β → α → Prop} {Q : β → Hp → Prop} {r : Res α} (k : ∀ Sh' μ' b a, R' Sh' μ' b a → R Sh' μ' b a) (h : GR X cl σ Sh μ R Q r) : GR X cl σ Sh μ R' Q r := by
  cases r with
  | ok a S => exact fun b H1 Sh1 μ1 s1 rl q => h b H1 Sh1 μ1 s1 rl (k _ _ _ _ q)
  | exc c S => exact h
  | bad => exact h
theorem at_loc {K : PySem.W.Frag} {Sh' H : Hp} {μ' : List Addr} {S' : Store} {n i : Nat} {a : Addr} {xs : List D} {d : D} (r : Rel K cl Sh' H μ' S') (ea : μ'[n]? = some a) (e : itAt (xs, some n) S' i = some d) :
    ∃ vs v, SqL K H a vs ∧ vs[i]? = some v ∧ Den K cl Sh' v d := by
  unfold itAt at e
  dsimp only at e
  split at e
  · rename_i ys hg
    split at e
    · obtain ⟨b, e2, _, vs, e4, e5⟩ := r.obj n _ hg
      rw [ea] at e2; cases e2
      obtain ⟨v, h1, h2⟩ := e5.get e
      exact ⟨vs, v, .inl (.inl e4), h1, h2⟩
    · cases e
  · cases e
theorem ylds_loc {K : PySem.W.Frag} {Sh : Hp} {μ : List Addr} {n : Nat} {a : Addr} {xs : List D} (ea : μ[n]? = some a) : YldsL K cl (Itl K a) Sh μ (xs, some n) where
  go := fun H Sh' μ' S' i d s r e => by
    obtain ⟨vs, v, h1, h2, _⟩ := at_loc r (s.mu _ _ ea) e
    exact ⟨vs, v, h1, h2⟩
  yl := fun H Sh' μ' S' i d x H' s r e ⟨e1, y⟩ => by
    obtain ⟨vs, v, h1, h2, h3⟩ := at_loc r (s.mu _ _ ea) e
    have := y vs h1
    rw [h2] at this; cases this
    exact .inl ⟨e1, h3⟩
  stop := fun H Sh' μ' S' i s r e hl => by
    unfold itOk at e
    dsimp only at e
    split at e
    · rename_i ys hg
      obtain ⟨b, e2, _, vs, e4, e5⟩ := r.obj n _ hg
      rw [s.mu _ _ ea] at e2; cases e2
      exact ⟨vs, .inl (.inl e4), by rw [e5.length, of_decide_eq_true e]; exact hl⟩
    · cases e
theorem si_seq {tg e : Expr} {f : Env' → Store → Res W} (he : SE X cl e f) : SI X cl tg e (fun ρ S => bnd (f ρ S) fun x S1 => match x with
    | .t (.str z) => .ok (z.cps.toList.map (fun c => .str ⟨#[c]⟩), none) S1
    | .t d => match d.items with | some xs => .ok (xs, none) S1 | none => .bad
    | .loc n => match get S1 n with | some (.lst xs) => .ok (xs, some n) S1 | _ => .bad) := by
  intro ρ S σ H Sh μ R r de h
  dsimp only at h
  -- the rule is taken by what the value is
  cases e1 : f ρ S with
  | bad => rw [e1] at h; exact h.elim
  | exc c S1 =>
    rw [e1] at h
    exact WI.of (pi_list pe_W) (he ρ S σ H Sh μ _ r de (by rw [e1]; exact h))
  | ok w S1 =>
    rw [e1] at h
    have h' : GR X cl σ Sh μ (fun Sh' μ' (J : It) it => YldsL X.K cl J Sh' μ' it) R (match (generalizing := false) w with
      | .t (.str z) => .ok (z.cps.toList.map (fun c => .str ⟨#[c]⟩), none) S1
      | .t d => match d.items with | some xs => .ok (xs, none) S1 | none => .bad
      | .loc n => match get S1 n with | some (.lst xs) => .ok (xs, some n) S1 | _ => .bad) := h
    split at h'
    · rename_i z
      refine WI.of (pi_str pe_W) (he ρ S σ H Sh μ _ r de ?_)
      rw [e1]
      intro v H1 Sh1 μ1 s1 r1 d1
      exact ⟨z, den_str d1, h' _ H1 Sh1 μ1 s1 r1 (Ylds.l (ylds_str z))⟩
    · rename_i d _
      split at h'
      · rename_i xs hx
        have sq : ∀ {v : V} {H1 Sh1 : Hp} {μ1 : List Addr}, Rel X.K cl Sh1 H1 μ1 S1 → Den X.K cl Sh1 v d → (∃ a vs, v = .ref a ∧ SqL X.K Sh1 a vs ∧ Dens X.K cl Sh1 vs xs ∧ d.lsts = some xs) ∨ (∃ a vs, v = .ref a ∧ SqT X.K Sh1 a vs ∧ Dens X.K cl Sh1 vs xs ∧ d.lsts = none) := by
          intro v H1 Sh1 μ1 r1 d1
          cases d1 with
          | lst h1 h2 => cases hx; exact .inl ⟨_, _, rfl, .inl h1, h2, rfl⟩
          | ro h1 h2 => cases hx; exact .inl ⟨_, _, rfl, h1, h2, rfl⟩
          | tup h1 h2 => cases hx; exact .inr ⟨_, _, rfl, .inl (.inl h1), h2, rfl⟩
          | rt h1 h2 => cases hx; exact .inr ⟨_, _, rfl, h1, h2, rfl⟩
          | _ => cases hx
        cases hl : d.lsts with
        | some ys =>
          refine WI.of (pi_list pe_W) (he ρ S σ H Sh μ _ r de ?_)
          rw [e1]
          intro v H1 Sh1 μ1 s1 r1 d1
          rcases sq r1 d1 with ⟨a, vs, rfl, h1, h2, _⟩ | ⟨_, _, _, _, _, h3⟩
          · exact ⟨a, rfl, ⟨vs, r1.sub.seq h1⟩, h' _ H1 Sh1 μ1 s1 r1 (Ylds.l (ylds_list h1 h2))⟩
          · rw [hl] at h3; cases h3
        | none =>
          refine WI.of (pi_tup pe_W) (he ρ S σ H Sh μ _ r de ?_)
          rw [e1]
          intro v H1 Sh1 μ1 s1 r1 d1
          rcases sq r1 d1 with ⟨_, _, _, _, _, h3⟩ | ⟨a, vs, rfl, h1, h2, _⟩
          · rw [hl] at h3; cases h3
          · exact ⟨a, rfl, ⟨vs, same_seqT r1.sub h1⟩, h' _ H1 Sh1 μ1 s1 r1 (Ylds.l (ylds_tup h1 h2))⟩
      · exact h'.elim
    · rename_i n
      refine WI.of (pi_list pe_W) (he ρ S σ H Sh μ _ r de ?_)
      rw [e1]
      intro v H1 Sh1 μ1 s1 r1 d1
      cases hg : get S1 n with
      | none => rw [hg] at h'; exact h'.elim
      | some o =>
        rw [hg] at h'
        cases o with
        | dct _ _ => exact h'.elim
        | ins _ _ => exact h'.elim
        | lst xs =>
          obtain ⟨a, ea, rfl⟩ := d1
          obtain ⟨b, e2, e3, vs, e4, e5⟩ := r1.obj n _ hg
          rw [ea] at e2; cases e2
          exact ⟨a, rfl, ⟨vs, .inl (.inl e4)⟩, h' _ H1 Sh1 μ1 s1 r1 (ylds_loc ea)⟩
/-- range(..) -/
theorem si_rng {tg : Expr} {es : List Expr} {f : Env' → Store → Res (List W)} {pn p : Pos} (hp : ∀ e ∈ es, Plain e) (hl : es.length = 1 ∨ es.length = 2 ∨ es.length = 3) (ha : SA X cl es f) (hf : ∀ ρ S ws S1, f ρ S = .ok ws S1 → ws.length = es.length) (hG : Gl X "range") (hm : X.mg "range" = none) :
    SI X cl tg (.Call (.Name (Str.ofString "range") pn) es [] p) (fun ρ S => bnd (f ρ S) fun ws S1 => match asTs ws with
      | some ds => match rngItems ds with | some xs => .ok (xs, none) S1 | none => .bad
      | none => .bad) := by
  intro ρ S σ H Sh μ R r de h
  have body : ∀ vs H1 Sh1 μ1 ws S1, Rel X.K cl Sh1 H1 μ1 S1 → DenWs X.K cl Sh1 μ1 vs ws → f ρ S = .ok ws S1 → GR X cl σ Sh1 μ1 (fun Sh' μ' (J : It) it => YldsL X.K cl J Sh' μ' it) R (match asTs ws with
      | some ds => match rngItems ds with | some xs => .ok (xs, none) S1 | none => .bad
      | none => .bad) → vs.length = es.length ∧ (
      (∃ j : Int, vs = [.int j] ∧ -(2 ^ 62) ≤ j ∧ j < 2 ^ 62 ∧ R (Itr 0 j.toNat) H1) ∨ (∃ i j : Int, vs = [.int i, .int j] ∧ (-(2 ^ 62) ≤ i ∧ i < 2 ^ 62 ∧ -(2 ^ 62) ≤ j ∧ j < 2 ^ 62) ∧ R (Itr i (j - i).toNat) H1) ∨
      (∃ (i j c : Int) (n : Nat), vs = [.int i, .int j, .int c] ∧ RgC i j c n ∧ R (Itc i c n) H1)) := by
    intro vs H1 Sh1 μ1 ws S1 r1 d1 ef g
    have len : ∀ {vs : List V} {ws : List W}, DenWs X.K cl Sh1 μ1 vs ws → vs.length = ws.length := by
      intro vs ws h
      induction h with
      | nil => rfl
      | cons _ _ ih => simp [ih]
    refine ⟨by rw [len d1, hf _ _ _ _ ef], ?_⟩
    split at g
    · rename_i ds e
      have dd := d1.asTs e
      split at g
      · rename_i xs hx
        unfold rngItems at hx
        split at hx
        · split at hx
          · rename_i hb
            cases hx
            cases dd with
            | cons h1 h2 =>
              cases h2
              exact .inl ⟨_, by rw [den_int h1], hb.1, hb.2, GR.get g r1 (Ylds.l (ylds_range 0 _))⟩
          · cases hx
        · split at hx
          · rename_i hb
            cases hx
            cases dd with
            | cons h1 h2 =>
              cases h2 with
              | cons h2 h3 =>
                cases h3
                exact .inr (.inl ⟨_, _, by rw [den_int h1, den_int h2], hb, GR.get g r1 (Ylds.l (ylds_range _ _))⟩)
          · cases hx
        · split at hx
          · rename_i hb
            cases hx
            cases dd with
            | cons h1 h2 =>
              cases h2 with
              | cons h2 h3 =>
                cases h3 with
                | cons h3 h4 =>
                  cases h4
                  exact .inr (.inr ⟨_, _, _, _, by rw [den_int h1, den_int h2, den_int h3], ⟨hb.1, hb.2.1, hb.2.2.1, (Int.toNat_of_nonneg hb.2.2.2).symm⟩, GR.get g r1 (Ylds.l (ylds_rangeC _ _ _))⟩)
          · cases hx
        · cases hx
      · exact g.elim
    · exact g.elim
  have k : WA X es σ H (fun vs H1 => vs.length = es.length ∧ (
      (∃ j : Int, vs = [.int j] ∧ -(2 ^ 62) ≤ j ∧ j < 2 ^ 62 ∧ R (Itr 0 j.toNat) H1) ∨ (∃ i j : Int, vs = [.int i, .int j] ∧ (-(2 ^ 62) ≤ i ∧ i < 2 ^ 62 ∧ -(2 ^ 62) ≤ j ∧ j < 2 ^ 62) ∧ R (Itr i (j - i).toNat) H1) ∨
      (∃ (i j c : Int) (n : Nat), vs = [.int i, .int j, .int c] ∧ RgC i j c n ∧ R (Itc i c n) H1))) := by
    refine ha ρ S σ H Sh μ _ r de (GR.imp ?_ (GR.bindE (R := DenWs X.K cl) h))
    rintro vs H1 ⟨Sh1, μ1, ws, S1, s1, r1, d1, e1, g1⟩
    exact body vs H1 Sh1 μ1 ws S1 r1 d1 e1 g1
  have kk : ∀ (Q : List V → Hp → Prop), (∀ vs H1, (vs.length = es.length ∧ (
      (∃ j : Int, vs = [.int j] ∧ -(2 ^ 62) ≤ j ∧ j < 2 ^ 62 ∧ R (Itr 0 j.toNat) H1) ∨ (∃ i j : Int, vs = [.int i, .int j] ∧ (-(2 ^ 62) ≤ i ∧ i < 2 ^ 62 ∧ -(2 ^ 62) ≤ j ∧ j < 2 ^ 62) ∧ R (Itr i (j - i).toNat) H1) ∨
      (∃ (i j c : Int) (n : Nat), vs = [.int i, .int j, .int c] ∧ RgC i j c n ∧ R (Itc i c n) H1))) → Q vs H1) → WA X es σ H Q := fun Q hq pos pins s I => wpAny_mono (k pos pins s I) (fun us s' ⟨vs, H', I', rv, q⟩ => ⟨vs, H', I', rv, hq vs H' q⟩) fun _ _ z => z
  rcases hl with hl | hl | hl
  · obtain ⟨e, rfl⟩ := List.length_eq_one_iff.mp hl
    refine WI.of (pi_range1 hG hm pa_W ((hp e (by simp)).star [] X.env)) (kk _ ?_)
    rintro vs H1 ⟨l, h1 | h1 | h1⟩
    · exact h1
    · obtain ⟨i, j, rfl, _⟩ := h1; simp at l
    · obtain ⟨i, j, c, n, rfl, _⟩ := h1; simp at l
  · obtain ⟨e, e2, rfl⟩ : ∃ a b, es = [a, b] := by
      match es, hl with
      | [a, b], _ => exact ⟨a, b, rfl⟩
    refine WI.of (pi_range2 hG hm pa_W (by rw [(hp e (by simp)).star, (hp e2 (by simp)).star]; rfl) ((hp e2 (by simp)).star [] X.env)) (kk _ ?_)
    rintro vs H1 ⟨l, h1 | h1 | h1⟩
    · obtain ⟨i, rfl, _⟩ := h1; simp at l
    · exact h1
    · obtain ⟨i, j, c, n, rfl, _⟩ := h1; simp at l
  · obtain ⟨e, e2, e3, rfl⟩ : ∃ a b c, es = [a, b, c] := by
      match es, hl with
      | [a, b, c], _ => exact ⟨a, b, c, rfl⟩
    refine WI.of (pi_range3 hG hm pa_W ((hp e (by simp)).star _ _) (star_any (fun x hx => hp x (List.mem_cons_of_mem _ hx)) p X.env)) (kk _ ?_)
    rintro vs H1 ⟨l, h1 | h1 | h1⟩
    · obtain ⟨i, rfl, _⟩ := h1; simp at l
    · obtain ⟨i, j, rfl, _⟩ := h1; simp at l
    · exact h1
theorem si_enum {is : List (Nat × Pos)} {kk : Nat} {tp : Pos} {e : Expr} {f : Env' → Store → Res W} {pn p : Pos} (hp : Plain e) (he : SE X cl e f) (hG : Gl X "enumerate") (hm : X.mg "enumerate" = none) :
    SI X cl ((Tg.tp is kk tp).py N) (.Call (.Name (Str.ofString "enumerate") pn) [e] [] p) (fun ρ S => bnd (f ρ S) fun x S1 => match x with
      | .t d => match d.lsts with | some xs => .ok (enumD 0 xs, none) S1 | none => .bad
      | _ => .bad) := by
  intro ρ S σ H Sh μ R r de h
  refine WI.of (pi_enum hG hm (pa_cons pe_W pa_nil (hp.star _ _)) (hp.star _ _)) (he ρ S σ H Sh μ _ r de (GR.imp ?_ (GR.bind (R := DenW X.K cl) h)))
  rintro v H1 ⟨Sh1, μ1, a, S1, s1, r1, d1, g1⟩
  split at g1
  · split at g1
    · rename_i d _ xs hx
      obtain ⟨b, vs, rfl, h1, h2⟩ := DenR.lsts (Sh := Sh1) (H := Sh1) (Same.refl _) hx (.inl d1)
      exact ⟨b, vs, rfl, r1.sub.seq h1, GR.get g1 r1 (Ylds.l (ylds_enum h1 h2))⟩
    · exact g1.elim
  · exact g1.elim
theorem si_zip {is : List (Nat × Pos)} {kk : Nat} {tp : Pos} {e e2 : Expr} {f f2 : Env' → Store → Res W} {pn p : Pos} (hp : Plain e) (hp2 : Plain e2) (he : SE X cl e f) (he2 : SE X cl e2 f2) (hG : Gl X "zip") (hm : X.mg "zip" = none) :
    SI X cl ((Tg.tp is kk tp).py N) (.Call (.Name (Str.ofString "zip") pn) [e, e2] [] p) (fun ρ S => bnd (f ρ S) fun x S1 => bnd (f2 ρ S1) fun y S2 => match x, y with
      | .t d, .t u => match d.lsts, u.lsts with | some xs, some ys => .ok (zipD xs ys, none) S2 | _, _ => .bad
      | _, _ => .bad) := by
  intro ρ S σ H Sh μ R r de h
  refine WI.of (pi_zip hG hm (pa_cons pe_W (pa_cons pe_W pa_nil (hp2.star _ _)) (hp.star _ _)) (hp.star _ _) (by rw [hp2.star]; rfl)) (he ρ S σ H Sh μ _ r de (GR.imp ?_ (GR.bind (R := DenW X.K cl) h)))
  rintro v H1 ⟨Sh1, μ1, a, S1, s1, r1, d1, g1⟩
  refine he2 ρ S1 σ H1 Sh1 μ1 _ r1 (de.step s1) (GR.imp ?_ (GR.bind (R := DenW X.K cl) g1))
  rintro u H2 ⟨Sh2, μ2, b, S2, s2, r2, d2, g2⟩
  have d1' := d1.step s2
  split at g2
  · split at g2
    · rename_i d u' _ _ xs ys hx hy
      obtain ⟨b1, vs, rfl, h1, h2⟩ := DenR.lsts (Sh := Sh2) (H := Sh2) (Same.refl _) hx (.inl d1')
      obtain ⟨b2, us, rfl, h3, h4⟩ := DenR.lsts (Sh := Sh2) (H := Sh2) (Same.refl _) hy (.inl d2)
      exact ⟨b1, b2, vs, us, rfl, r2.sub.seq h1, r2.sub.seq h3, GR.get g2 r2 (Ylds.l (ylds_zip h1 h2 h3 h4))⟩
    · exact g2.elim
  · exact g2.elim
theorem si_rev {tg e : Expr} {f : Env' → Store → Res W} {pn p : Pos} (hp : Plain e) (he : SE X cl e f) (hG : Gl X "reversed") (hm : X.mg "reversed" = none) :
    SI X cl tg (.Call (.Name (Str.ofString "reversed") pn) [e] [] p) (fun ρ S => bnd (f ρ S) fun x S1 => match x with
      | .t d => match d.lsts with | some xs => .ok (xs.reverse, none) S1 | none => .bad
      | _ => .bad) := by
  intro ρ S σ H Sh μ R r de h
  refine WI.of (pi_reversed hG hm (pa_cons pe_W pa_nil (hp.star _ _)) (hp.star _ _)) (he ρ S σ H Sh μ _ r de (GR.imp ?_ (GR.bind (R := DenW X.K cl) h)))
  rintro v H1 ⟨Sh1, μ1, a, S1, s1, r1, d1, g1⟩
  split at g1
  · split at g1
    · rename_i d _ xs hx
      obtain ⟨b, vs, rfl, h1, h2⟩ := DenR.lsts (Sh := Sh1) (H := Sh1) (Same.refl _) hx (.inl d1)
      exact ⟨b, vs, rfl, r1.sub.seq h1, GR.get g1 r1 (Ylds.l (ylds_rev h1 h2))⟩
    · exact g1.elim
  · exact g1.elim
end
end Rf

/-! Rf, part Y: methods that change nothing. -/
namespace Rf
open PySem PySem.Spec PyProof.Rows L2
section
variable {X : Cx} {cl : Nm}
theorem mth_slot {b : Bool} {m : Mt} {id : String} (h : mtId b m = some id) : Slot (if b then "str" else "list") (Str.ofString m.nm) id ∧ typeOf (.builtin id) = pure (.type "method_descriptor") := by
  cases b <;> cases m <;> simp only [mtId, reduceCtorEq, Option.some.injEq] at h <;> subst h
  · exact ⟨PySem.F.slot_list_count, PySem.F.type_list_count⟩
  · exact ⟨PySem.F.slot_str_join, PySem.F.type_str_join⟩
  · exact ⟨PySem.F.slot_str_strip, PySem.F.type_str_strip⟩
  · exact ⟨PySem.F.slot_str_startswith, PySem.F.type_str_startswith⟩
  · exact ⟨PySem.F.slot_str_endswith, PySem.F.type_str_endswith⟩
  · exact ⟨PySem.F.slot_str_count, PySem.F.type_str_count⟩
  · exact ⟨PySem.F.slot_str_split, PySem.F.type_str_split⟩
  · exact ⟨PySem.F.slot_str_islower, PySem.F.type_str_islower⟩
def mthT (b : Bool) : String := if b then "str" else "list"
theorem mth_plain (b : Bool) : PlainAttrs (if b then "str" else "list") := by cases b; exact PySem.F.plainAttrs_list; exact PySem.F.plainAttrs_str
theorem mTy_ok {b : Bool} {w : W} {v : V} {S : Store} {Sh H : Hp} {μ : List Addr} (r : Rel X.K cl Sh H μ S) (d : DenW X.K cl Sh μ v w) (h : mTy S w = some b) : L2.tyV X.K (if b then "str" else "list") v H := by
  cases w with
  | loc n =>
    simp only [mTy] at h
    split at h
    · rename_i xs hg
      cases h
      obtain ⟨a, ea, rfl⟩ := d
      obtain ⟨c, e1, e2, us, h1, h2⟩ := r.obj n _ hg
      rw [ea] at e1; cases e1
      exact .inl ⟨rfl, us, .inl (.inl h1)⟩
    · cases h
  | t d0 =>
    have d' : Den X.K cl Sh v d0 := d
    cases d0 with
    | str x => cases h; cases d'; rfl
    | lst xs => cases h; cases d' with | lst h1 h2 => exact .inl ⟨rfl, _, .inl (same_rd r.sub h1)⟩
    | ro xs => cases h; cases d' with | ro h1 h2 => exact .inl ⟨rfl, _, r.sub.seq h1⟩
    | _ => cases h
theorem count_eq {y : V} : ∀ {xs : List V} {us : List Value}, Vals xs us → xs.all flatV = true → us.countP (eqU y) = xs.countP fun z => eqV z y
  | _, _, .nil, _ => rfl
  | _, _, .cons h r, f => by
    rw [List.all_cons] at f
    obtain ⟨f1, f2⟩ := Bool.and_eq_true_iff.mp f
    rw [List.countP_cons, List.countP_cons, count_eq r f2, eqU_of h f1]
def rCntF (K : PySem.W.Frag) : V → List V → Hp → VK → Prop := fun x xs H Q => ∃ (p : Addr) (ys : List V) (y : V), x = .ref p ∧ xs = [y] ∧ SqL K H p ys ∧ flatV y = true ∧ ys.all flatV = true ∧ Q (.int (ys.countP fun z => eqV z y : Nat)) H
theorem mt_countF : MtR X "list.count" (rCntF X.K) := by
  intro pins s σ H x xs v us Q I rx rxs h
  obtain ⟨p, ys, y, hx, hxs, hs, fy, fys, q⟩ := h
  subst hx hxs
  cases rx
  obtain ⟨u, eu, ru⟩ := rxs.one
  subst eu
  obtain ⟨its, rv, ⟨⟨cls, dd, data, sl⟩, n, ho, hc, hdn, hd⟩, hlen⟩ := I.list hs
  dsimp only at hc hd
  subst hc hd
  refine call_meets PySem.F.slot_list_count ⟨_, ho, rfl⟩ PySem.F.entry_list_count (PySem.F.args_list_count_2 _ _)
    (SeqAt.list_countAt p its.toArray n dd sl u (eqU y)) ⟨ho, fun u' hu' => mem_eqAt ru fy rv fys u' (by simpa using hu'), .int _, H, I.tok _, ⟨s.toks, ?_⟩, q⟩
  show Value.int ((its.toArray.toList.countP (eqU y) : Nat) : Int) s.toks = Value.int _ s.toks
  rw [show its.toArray.toList = its from rfl, count_eq rv fys]
def D.isStr : D → Bool
  | .str _ => true
  | _ => false
theorem mt_ok {b : Bool} {m : Mt} {id : String} {Sh H : Hp} {μ : List Addr} {S : Store} {x : V} {vs : List V} {d e : D} {ds : List D} {Q : VK} (hid : mtId b m = some id) (h : mt m d ds = some e) (hb : b = d.isStr) (r : Rel X.K cl Sh H μ S) (dx : DenR X.K cl Sh H x d) (dv : DenRs X.K cl Sh H vs ds) (k : Nxt X.K cl Sh μ S e Q) :
    ∃ rr, MtR X id rr ∧ rr x vs H Q := by
  have hs : ∀ {v : V} {z : Str}, DenR X.K cl Sh H v (.str z) → v = .str z := fun h => h.sc rfl
  have cnt : ∀ {xs : List D} {y : D} {us : List V} {u : V}, d.lsts = some xs → ds = [y] → scs xs = some us → y.sc = some u → e = .int (us.countP fun z => eqV z u : Nat) → id = "list.count" → ∃ rr, MtR X id rr ∧ rr x vs H Q := by
    intro xs y us u h1 h2 h3 h4 h5 h6
    subst h2 h5 h6
    obtain ⟨a, zs, rfl, hq, hd⟩ := dx.lsts r.sub h1
    cases hd.scs h3
    cases dv with
    | cons dy dn =>
      cases dn
      cases dy.sc h4
      exact ⟨_, mt_countF, a, _, _, rfl, rfl, hq, sc_flat h4, scs_flat h3, k.here r (.int _)⟩
  cases m with
  | join =>
    cases d with
    | str s =>
      have hb' : b = true := hb
      subst hb'
      cases hid
      match ds, h, dv with
      | [d1], h, .cons dy .nil =>
        simp only [mt] at h
        split at h
        · rename_i xs hx
          split at h
          · rename_i ys hy
            split at h
            · rename_i hl
              cases h
              obtain ⟨p, zs, rfl, hq, hd⟩ := dy.items r.sub hx
              have ez := hd.strs hy
              subst ez
              exact ⟨_, mt_join, s, p, ys, hs dx, rfl, hq, hl, k.here r (.str _)⟩
            · cases h
          · cases h
        · cases h
      | [], h, _ => simp [mt] at h
      | _ :: _ :: _, h, _ => simp [mt] at h
    | _ => simp [mt] at h
  | strip =>
    cases d with
    | str a =>
      have hb' : b = true := hb
      subst hb'
      cases hid
      match ds, h, dv with
      | [.str c], h, .cons dy .nil =>
        simp only [mt] at h
        split at h
        · rename_i hl; cases h; exact ⟨_, mt_stripChars, a, c, hs dx, by rw [hs dy], hl, k.here r (.str _)⟩
        · cases h
    | _ => simp [mt] at h
  | startswith =>
    cases d with
    | str a =>
      have hb' : b = true := hb
      subst hb'
      cases hid
      match ds, h, dv with
      | [.str c], h, .cons dy .nil => cases h; exact ⟨_, mt_startswith, a, c, hs dx, by rw [hs dy], k.here r (.bl _)⟩
    | _ => simp [mt] at h
  | endswith =>
    cases d with
    | str a =>
      have hb' : b = true := hb
      subst hb'
      cases hid
      match ds, h, dv with
      | [.str c], h, .cons dy .nil => cases h; exact ⟨_, mt_endswith, a, c, hs dx, by rw [hs dy], k.here r (.bl _)⟩
    | _ => simp [mt] at h
  | islower =>
    cases d with
    | str a =>
      have hb' : b = true := hb
      subst hb'
      cases hid
      match ds, h, dv with
      | [], h, .nil => cases h; exact ⟨_, mt_islower, a, hs dx, rfl, trivial, k.here r (.bl _)⟩
    | _ => simp [mt] at h
  | split =>
    cases d with
    | str a =>
      have hb' : b = true := hb
      subst hb'
      cases hid
      match ds, h, dv with
      | [.str c], h, .cons dy .nil =>
        simp only [mt] at h
        split at h
        · rename_i hl
          cases h
          have dd : ∀ ys : List Str, Dens X.K cl Sh (ys.map V.str) (ys.map .str) := fun ys => by
            induction ys with
            | nil => exact .nil
            | cons y ys ih => exact .cons (.str y) ih
          exact ⟨_, mt_split, a, c, hs dx, by rw [hs dy], hl.1, hl.2, k.lst r (dd _)⟩
        · cases h
    | _ => simp [mt] at h
  | count =>
    cases d with
    | str a =>
      have hb' : b = true := hb
      subst hb'
      cases hid
      match ds, h, dv with
      | [.str c], h, .cons dy .nil => cases h; exact ⟨_, mt_count, a, c, hs dx, by rw [hs dy], k.here r (.int _)⟩
    | lst xs =>
      have hb' : b = false := hb
      subst hb'
      cases hid
      match ds, h with
      | [y], h =>
        simp only [mt] at h
        split at h
        · rename_i us u h1 h2; cases h; exact cnt rfl rfl h1 h2 rfl rfl
        · cases h
      | [], h => simp [mt] at h
      | _ :: _ :: _, h => simp [mt] at h
    | ro xs =>
      have hb' : b = false := hb
      subst hb'
      cases hid
      match ds, h with
      | [y], h =>
        simp only [mt] at h
        split at h
        · rename_i us u h1 h2; cases h; exact cnt rfl rfl h1 h2 rfl rfl
        · cases h
      | [], h => simp [mt] at h
      | _ :: _ :: _, h => simp [mt] at h
    | _ => simp [mt] at h
  | _ => cases b <;> cases hid
def bestM (X : Cx) (id : String) : V → List V → Hp → VK → Prop := fun x vs H Q => ∃ r, MtR X id r ∧ r x vs H Q
theorem bestM_ok {id : String} : MtR X id (bestM X id) := fun pins s σ H x xs v us Q I rx rv ⟨_, hm, h⟩ => hm pins s σ H x xs v us Q I rx rv h
/-- what follows a method's value -/
theorem mth_end {m : Mt} {b : Bool} {id : String} {Sh H : Hp} {μ : List Addr} {S : Store} {x : V} {w : W} {vs : List V} {ws : List W} {Q : VK} {σ : L2.St} (hid : mtId b m = some id) (hb : mTy S w = some b) (r : Rel X.K cl Sh H μ S) (dx : DenW X.K cl Sh μ x w) (dws : DenWs X.K cl Sh μ vs ws)
    (g : GR X cl σ Sh μ (DenW X.K cl) Q (match rd S w, rds S ws with | some d, some ds => ok? S (mt m d ds) | _, _ => .bad)) : bestM X id x vs H Q := by
  split at g
  · rename_i d ds e1 e2
    obtain ⟨e, e3, k⟩ := GR.ok? g
    refine mt_ok hid e3 ?_ r (r.rd e1 dx) (r.rds dws e2) k
    cases w with
    | t d0 =>
      cases e1
      cases d <;> simp only [mTy, Option.some.injEq, reduceCtorEq] at hb <;> subst hb <;> rfl
    | loc n =>
      obtain ⟨o, hg, rfl⟩ := Option.map_eq_some_iff.mp (show (get S n).map Ob.tree = some d from e1)
      simp only [mTy, hg] at hb
      cases o with
      | lst xs => cases hb; rfl
      | dct _ _ => cases hb
      | ins _ _ => cases hb
  · exact g.elim
theorem se_mth {m : Mt} {eo : Expr} {es : List Expr} {fo : Env' → Store → Res W} {fa : Env' → Store → Res (List W)} {pa pc : Pos} (hp : Plain eo) (hps : ∀ y ∈ es, Plain y) (hl : es.length < 20) (hline : (pa.endLine == pc.line) = true) (hw : ((mtId true m).isSome || (mtId false m).isSome) = true)
    (ho : SE X cl eo fo) (ha : SA X cl es fa) (hn : es = [] → ∀ ρ S, fa ρ S = .ok [] S) :
    SE X cl (.Call (.Attribute eo (Str.ofString m.nm) pa) es [] pc) (fun ρ S => bnd (fo ρ S) fun x S1 => if mTyOk m (mTy S1 x) = true then bnd (fa ρ S1) fun ws S2 => if mTy S2 x = mTy S1 x then match rd S2 x, rds S2 ws with | some d, some ds => ok? S2 (mt m d ds) | _, _ => .bad else .bad else .bad) := by
  intro ρ S σ H Sh μ Q r de h
  dsimp only at h
  have any : ∀ (b : Bool) (id : String), mtId b m = some id → (WE X eo σ H (fun x H1 => L2.tyV X.K (if b then "str" else "list") x H1 ∧ ((es = [] → bestM X id x [] H1 Q) ∧ (es ≠ [] → WA X es σ H1 fun xs H2 => bestM X id x xs H2 Q)))) →
      WE X (.Call (.Attribute eo (Str.ofString m.nm) pa) es [] pc) σ H Q := by
    intro b id hid q
    obtain ⟨s1, s2⟩ := mth_slot hid
    cases es with
    | nil =>
      refine WE.of (pe_bm0 (mth_plain b) s1 s2 bestM_ok pe_W (hp.attr _ _) hline) fun ps0 st I0 => thn (q ps0 st I0) ?_
      rintro u st1 ⟨v, H1, I1, rv, q1, q2, _⟩
      exact ⟨v, H1, I1, rv, q1, q2 rfl⟩
    | cons e es =>
      have hfew : ((backTo pc (starEach (e :: es) X.env)).all (fun x => !x.1) && (backToKw pc (keywordEach [] X.env)).all (fun x => x.1.isSome)
        && decide ((e :: es).length + ([] : List Keyword).length + (if ([] : List Keyword).isEmpty then 0 else 1) < 30)) = true := by
        rw [star_all hps]
        have : decide ((e :: es).length + ([] : List Keyword).length + (if ([] : List Keyword).isEmpty then 0 else 1) < 30) = true := decide_eq_true (by simp only [List.length_cons, List.length_nil, List.isEmpty_nil, if_true] at hl ⊢; omega)
        rw [this]; rfl
      refine WE.of (pe_bm (mth_plain b) s1 s2 bestM_ok pe_W pa_W (hp.attr _ _) hfew hline ((hps e List.mem_cons_self).star es X.env) (star_any (fun x hx => hps x (List.mem_cons_of_mem _ hx)) pc X.env)) fun ps0 st I0 => thn (q ps0 st I0) ?_
      rintro u st1 ⟨v, H1, I1, rv, q1, _, q3⟩
      exact ⟨v, H1, I1, rv, q1, q3 (by simp)⟩
  cases e1 : fo ρ S with
  | bad => rw [e1] at h; exact h.elim
  | exc c S1 =>
    rw [e1] at h
    -- any rule will do: the object's expression raises
    have key : ∀ Q' : VK, WE X eo σ H Q' := fun Q' => ho ρ S σ H Sh μ _ r de (by rw [e1]; exact h)
    cases h1 : mtId true m with
    | some id => exact any true id h1 (key _)
    | none =>
      cases h2 : mtId false m with
      | some id => exact any false id h2 (key _)
      | none => rw [h1, h2] at hw; cases hw
  | ok w S1 =>
    rw [e1] at h
    have h' : GR X cl σ Sh μ (DenW X.K cl) Q (if mTyOk m (mTy S1 w) = true then bnd (fa ρ S1) fun ws S2 => if mTy S2 w = mTy S1 w then match rd S2 w, rds S2 ws with | some d, some ds => ok? S2 (mt m d ds) | _, _ => .bad else .bad else .bad) := h
    split at h'
    · rename_i hok
      cases hb : mTy S1 w with
      | none => rw [hb] at hok; cases hok
      | some b =>
        rw [hb] at hok h'
        obtain ⟨id, hid⟩ := Option.isSome_iff_exists.mp (show (mtId b m).isSome = true from hok)
        refine any b id hid (ho ρ S σ H Sh μ _ r de ?_)
        rw [e1]
        intro x H1 Sh1 μ1 s1 r1 d1
        refine ⟨mTy_ok r1 d1 hb, fun z => ?_, fun z => ?_⟩
        · rw [hn z] at h'
          have g2 : GR X cl σ Sh1 μ1 (DenW X.K cl) Q (if mTy S1 w = some b then match rd S1 w, rds S1 [] with | some d, some ds => ok? S1 (mt m d ds) | _, _ => .bad else .bad) := GR.mono s1 h'
          rw [if_pos hb] at g2
          exact mth_end (σ := σ) hid hb r1 d1 .nil g2
        · refine ha ρ S1 σ H1 Sh1 μ1 _ r1 (de.step s1) (GR.imp ?_ (GR.bind (R := DenWs X.K cl) (GR.mono s1 h')))
          rintro vs H2 ⟨Sh2, μ2, ws, S2, s2, r2, d2, g2⟩
          split at g2
          · rename_i hb2
            exact mth_end (σ := σ) hid hb2 r2 (d1.step s2) d2 g2
          · exact g2.elim
    · exact h'.elim
end
end Rf

/-! Rf, part M: comprehensions. -/
namespace Rf
open PySem PySem.Spec PyProof.Rows L2
section
variable {X : Cx} {cl : Nm} {N : List Str}
/-- tests of a comprehension: none or one -/
def SPs (X : Cx) (cl : Nm) (ifs : List Expr) (f : Env' → Store → Res Bool) : Prop :=
  ∀ ρ S σ H Sh μ (Q : Bool → Hp → Prop), Rel X.K cl Sh H μ S → DenE X.K cl Sh μ σ ρ → (∀ b S', f ρ S = .ok b S' → ∀ H' Sh' μ', Step Sh μ Sh' μ' → Rel X.K cl Sh' H' μ' S' → Q b H') → (∃ b S', f ρ S = .ok b S') → WTs' X ifs σ H Q
where WTs' (X : Cx) (ifs : List Expr) : TT := fun σ H Q => ∀ (pins : List (Addr × Obj)) (s : Shared), Inv X pins σ H s →
    wpAny (model X.prog X.w) X.A (forIn ifs true fun c r => if r = true then do let ok ← isTrue c X.env (eval c X.env); pure (ForInStep.yield ok) else pure (ForInStep.yield r)) (TP X pins σ Q) X.xe s
theorem pts_W {ifs : List Expr} : PTs X ifs (SPs.WTs' X ifs) := ⟨fun pins s σ H Q I h => h pins s I⟩
theorem SPs.WTs'.of {ifs : List Expr} {t : TT} (p : PTs X ifs t) {σ : L2.St} {H : Hp} {Q : Bool → Hp → Prop} (h : t σ H Q) : SPs.WTs' X ifs σ H Q := fun pins s I => p.run pins s σ H Q I h
theorem sps_nil : SPs X cl [] (fun _ S => .ok true S) := fun ρ S σ H Sh μ Q r de k _ => SPs.WTs'.of pts_nil (k true S rfl H Sh μ (Step.refl _ _) r)
theorem sps_one {e : Expr} {f : Env' → Store → Res W} {fr : Env' → Store → Res Bool} (h : ST X cl e f) (hr : ∀ ρ S, fr ρ S = match f ρ S with
    | .ok (.t (.bl true)) S1 => .ok true S1
    | .ok (.t (.bl false)) S1 => .ok false S1
    | _ => .bad) : SPs X cl [e] fr := by
  intro ρ S σ H Sh μ Q r de k ⟨b, S', e1⟩
  refine SPs.WTs'.of (pts_one pt_W) (h ρ S σ H Sh μ Q r de ?_)
  rw [hr] at e1 k
  cases q : f ρ S with
  | ok w S1 =>
    rw [q] at e1 k
    cases w with
    | loc n => cases e1
    | t d =>
      cases d with
      | bl c =>
        intro v H1 Sh1 μ1 s1 r1 d1
        refine ⟨c, den_bl d1, ?_⟩
        cases c with
        | true => exact k true S1 rfl H1 Sh1 μ1 s1 r1
        | false => exact k false S1 rfl H1 Sh1 μ1 s1 r1
      | _ => cases e1
  | exc c S1 => rw [q] at e1; cases e1
  | bad => rw [q] at e1; cases e1
theorem wipe_den {Sh : Hp} {μ : List Addr} {σ : L2.St} {ρ : Env'} (h : DenE X.K cl Sh μ σ ρ) : ∀ vs : List Nat, DenE X.K cl Sh μ (wipe σ vs) (wipeE ρ vs)
  | [] => h
  | v :: vs => by
    have ih := wipe_den h vs
    refine ⟨by simp [wipe, wipeE, ih.len], fun i w e => ?_⟩
    by_cases z : v = i
    · subst z
      simp only [wipeE] at e
      by_cases hl : v < (wipeE ρ vs).length
      · rw [List.getElem?_set_self hl] at e; cases e
      · rw [List.getElem?_eq_none (by simpa using hl)] at e; cases e
    · simp only [wipeE] at e
      rw [List.getElem?_set_ne z] at e
      obtain ⟨v', e1, e2⟩ := ih.get i w e
      exact ⟨v', by simp only [wipe]; rw [List.getElem?_set_ne z]; exact e1, e2⟩
/-- the comprehension's list -/
theorem lc_read {elt tg iter : Expr} {ifs : List Expr} {scope : Scope} {own : List (Str × Nat)} {tgE : Tg} {fs : Env' → Store → Res Wk} {fi : Env' → Store → Res Bool} {fe : Env' → Store → Res W}
    (htg : tg = tgE.py N) (hown : ∀ i ∈ tgE.ix, i ∈ own.map (·.2)) (hi : SI X cl tg iter fs)
    (ht : ∀ (s : Shared) (H : Hp) (C : Addr) (cl0 : List (Str × Addr)) (fp : List Addr), TgOk (X.blk s H scope (compEnvC scope cl0 C X.env) fp) N tgE)
    (hc : ∀ (s : Shared) (H : Hp) (C : Addr) (cl0 : List (Str × Addr)) (fp : List Addr), SPs (X.blk s H scope (compEnvC scope cl0 C X.env) fp) cl ifs fi)
    (he : ∀ (s : Shared) (H : Hp) (C : Addr) (cl0 : List (Str × Addr)) (fp : List Addr), SE (X.blk s H scope (compEnvC scope cl0 C X.env) fp) cl elt fe)
    {ρ : Env'} {S : Store} {σ : L2.St} {H Sh : Hp} {μ : List Addr} {Q : VK} (r : Rel X.K cl Sh H μ S) (de : DenE X.K cl Sh μ σ ρ)
    (h : GF X cl σ Sh μ Q (bnd (fs ρ S) fun items S1 => compRes S1.length (turnsL (turn1 (fun x => tgE.store x (wipeE ρ (own.map (·.2)))) fi fe) S1.length items items.1.length 0 (S1 ++ [some (.lst [])])))) :
    tLc (WI X tg iter) (fun v σ H Q => ∀ (s : Shared) (H0 : Hp) (C : Addr) (cl0 : List (Str × Addr)) (fp : List Addr), WG (X.blk s H0 scope (compEnvC scope cl0 C X.env) fp) tg v σ H Q)
      (fun σ H Q => ∀ (s : Shared) (H0 : Hp) (C : Addr) (cl0 : List (Str × Addr)) (fp : List Addr), SPs.WTs' (X.blk s H0 scope (compEnvC scope cl0 C X.env) fp) ifs σ H Q)
      (fun σ H Q => ∀ (s : Shared) (H0 : Hp) (C : Addr) (cl0 : List (Str × Addr)) (fp : List Addr), WE (X.blk s H0 scope (compEnvC scope cl0 C X.env) fp) elt σ H Q) (own.map (·.2)) σ H Q := by
  refine hi ρ S σ H Sh μ _ r de (GR.imp ?_ (GF.bind (R := fun Sh' μ' (J : It) it => YldsL X.K cl J Sh' μ' it) h))
  rintro J H1 ⟨Sh1, μ1, items, S1, s1, r1, y1, g1⟩
  intro D0 hD0
  have de1 := de.step s1
  generalize hf : turn1 (fun x => tgE.store x (wipeE ρ (own.map (·.2)))) fi fe = f at g1
  cases ht0 : turnsL f S1.length items items.1.length 0 (S1 ++ [some (.lst [])]) with
  | bad => rw [ht0] at g1; exact g1.elim
  | exc c S' => rw [ht0] at g1; exact g1.elim
  | ok u S5 =>
    rw [ht0] at g1
    -- the new list is a location
    have rr : Rel X.K cl Sh1 (upd H1 D0 (.lst [])) μ1 S1 := r1.fresh hD0
    obtain ⟨r2, s2⟩ := rr.alloc (p := D0) (o := .lst []) (Same.free r1.sub hD0) (r1.new_ne hD0) ⟨[], upd_same, .nil⟩
    have hD : (μ1 ++ [D0])[S1.length]? = some D0 := by rw [← r1.len]; simp
    refine ⟨fun i m H => m = items.1.length - i ∧ i ≤ items.1.length ∧ ∃ Sh2 μ2 S2, Step Sh1 (μ1 ++ [D0]) Sh2 μ2 ∧ Rel X.K cl Sh2 H μ2 S2 ∧ turnsL f S1.length items (items.1.length - i) i S2 = .ok u S5, ⟨items.1.length, by simp, Nat.zero_le _, Sh1, _, _, Step.refl _ _, r2, by simpa using ht0⟩, ?_⟩
    rintro i m H2 ⟨rfl, hil, Sh2, μ2, S2, s3, r3, et⟩
    have hD2 : μ2[S1.length]? = some D0 := s3.mu _ _ hD
    by_cases hlt : i < items.1.length
    · -- one more turn
      right
      rw [show items.1.length - i = (items.1.length - (i + 1)) + 1 from by omega] at et
      simp only [turnsL] at et
      cases hx : itAt items S2 i with
      | none => rw [hx] at et; cases et
      | some d =>
      rw [hx] at et
      refine ⟨y1.go H2 Sh2 μ2 S2 i _ (s2.trans s3) r3 hx, fun H => i + 1 ≤ items.1.length ∧ ∃ Sh2 μ2 S2, Step Sh1 (μ1 ++ [D0]) Sh2 μ2 ∧ Rel X.K cl Sh2 H μ2 S2 ∧ turnsL f S1.length items (items.1.length - (i + 1)) (i + 1) S2 = .ok u S5, ?_, ?_⟩
      · rintro H' ⟨h1, h2⟩
        exact ⟨items.1.length - (i + 1), by omega, rfl, h1, h2⟩
      · intro x H3 hy
        -- what the iterator yields
        have key : ∃ Sh3, Step Sh2 μ2 Sh3 μ2 ∧ Rel X.K cl Sh3 H3 μ2 S2 ∧ Den X.K cl Sh3 x d := by
          rcases y1.yl H2 Sh2 μ2 S2 i d x H3 (s2.trans s3) r3 hx hy with ⟨rfl, q⟩ | ⟨p, vs, ds, rfl, hn, rfl, rfl, dd⟩
          · exact ⟨Sh2, Step.refl _ _, r3, q⟩
          · obtain ⟨r4, s4⟩ := r3.put (o := .tup vs) hn
            exact ⟨_, s4, r4, .tup upd_same (dd.mono s4.sh)⟩
        obtain ⟨Sh3, s4, r4, dx⟩ := key
        have de3 : DenE X.K cl Sh3 μ2 (wipe σ (own.map (·.2))) (wipeE ρ (own.map (·.2))) := wipe_den ((de1.step (s2.trans s3)).step s4) _
        -- the turn's result
        have hturn := et
        dsimp only at hturn
        have hfd : f d S2 = turn1 (fun x => tgE.store x (wipeE ρ (own.map (·.2)))) fi fe d S2 := by rw [hf]
        unfold turn1 at hfd
        rw [hfd] at hturn
        dsimp only at hturn
        intro s0 H0 C cl0 fp
        cases es : tgE.store d (wipeE ρ (own.map (·.2))) with
        | none => rw [es] at hturn; simp at hturn
        | some ρ2 =>
          rw [es] at hturn
          dsimp only at hturn
          have okT := ht s0 H0 C cl0 fp
          rw [htg]
          refine tg_ok okT r4 de3 dx es fun σ2 de4 hw => ⟨by rw [hw _ hown, wipe_wipe], ?_⟩
          intro s1' H1' C' cl1 fp'
          cases ei : fi ρ2 S2 with
          | bad => rw [ei] at hturn; simp at hturn
          | exc c S' => rw [ei] at hturn; simp at hturn
          | ok b S3 =>
            rw [ei] at hturn
            refine hc s1' H1' C' cl1 fp' ρ2 S2 σ2 H3 Sh3 μ2 _ r4 de4 ?_ ⟨b, S3, ei⟩
            intro b' S3' e3 H4 Sh4 μ4 s5 r5
            rw [ei] at e3; cases e3
            have hD4 : μ4[S1.length]? = some D0 := s5.mu _ _ hD2
            cases b with
            | false =>
              rw [if_neg Bool.false_ne_true]
              dsimp only at hturn
              exact ⟨hlt, Sh4, μ4, S3, (s3.trans s4).trans s5, r5, hturn⟩
            | true =>
              rw [if_pos rfl]
              dsimp only at hturn
              intro s2' H2' C2 cl2 fp2
              refine he s2' H2' C2 cl2 fp2 ρ2 S3 σ2 H4 Sh4 μ4 _ r5 (de4.step s5) ?_
              cases ee : fe ρ2 S3 with
              | bad => rw [ee] at hturn; simp at hturn
              | exc c S' => rw [ee] at hturn; simp at hturn
              | ok w S4 =>
                rw [ee] at hturn
                cases w with
                | loc n => simp at hturn
                | t dy =>
                  dsimp only at hturn
                  intro y H5 Sh5 μ5 s6 r6 dy5
                  cases eg : get S4 S1.length with
                  | none => rw [eg] at hturn; simp at hturn
                  | some ob =>
                    rw [eg] at hturn
                    cases ob with
                    | lst acc =>
                      dsimp only at hturn
                      split at hturn
                      · rename_i hsz
                        obtain ⟨a, e1, _, vs, e3, e4⟩ := r6.obj _ _ eg
                        have hD5 : μ5[S1.length]? = some D0 := s6.mu _ _ hD4
                        rw [hD5] at e1; cases e1
                        refine ⟨vs, e3, by rw [e4.length]; exact hsz, hlt, Sh5, μ5, _, ((s3.trans s4).trans s5).trans s6, r6.write eg hD5 (u := .lst (vs ++ [y])) (o' := .lst (acc ++ [dy])) ⟨_, upd_same, e4.append (.cons dy5 .nil)⟩, ?_⟩
                        exact hturn
                      · cases hturn
                    | dct _ _ => simp at hturn
                    | ins _ _ => simp at hturn
    · -- the end
      left
      have hi' : i = items.1.length := by omega
      subst hi'
      rw [Nat.sub_self] at et
      simp only [turnsL] at et
      split at et
      rotate_left
      · cases et
      rename_i hok
      cases et
      refine ⟨y1.stop H2 Sh2 μ2 _ _ (s2.trans s3) r3 hok (Nat.le_refl _), ?_⟩
      unfold compRes at g1
      dsimp only at g1
      cases eg : get S5 S1.length with
      | none => rw [eg] at g1; exact g1.elim
      | some ob =>
        rw [eg] at g1
        cases ob with
        | lst ds =>
          obtain ⟨o, e, _, k⟩ := g1
          cases o with
          | lst ds' =>
            cases e
            obtain ⟨a, e1, e2, e3⟩ := r3.obj _ _ eg
            rw [hD2] at e1; cases e1
            refine k D0 H2 Sh2 (μ2.take S1.length) ?_ r3.take e2 (fun m ob a hm ha hz => ?_) e3
            · refine Step.take (by rw [r1.len]; exact Nat.le_refl _) ⟨s3.sh, fun n a e => s3.mu n a ?_⟩
              have : n < μ1.length := by
                by_cases q : n < μ1.length
                · exact q
                · rw [List.getElem?_eq_none (by omega)] at e; cases e
              rw [List.getElem?_append_left this]; exact e
            · subst hz
              obtain ⟨l1, l2⟩ := get_take hm
              rw [List.getElem?_take_of_lt l1] at ha
              have := r3.inj m S1.length a ob _ ha hD2 l2 eg
              omega
          | dct _ _ => cases e
          | ins _ _ => cases e
        | dct _ _ => exact g1.elim
        | ins _ _ => exact g1.elim
end
end Rf

/-! Rf: an item taken out of a list as a value. -/
namespace Rf
open PySem PySem.Spec PyProof.Rows L2
section
variable {X : Cx} {cl : Nm}
theorem isLstE_ok {w : W} {v : V} {S : Store} {Sh H : Hp} {μ : List Addr} (r : Rel X.K cl Sh H μ S) (dx : DenW X.K cl Sh μ v w) (h : isLstE S w = true) : L2.tyV X.K "list" v H := by
  cases w with
  | t _ => cases h
  | loc n =>
    unfold isLstE at h
    dsimp only at h
    split at h
    · rename_i xs hg
      obtain ⟨a, ea, rfl⟩ := dx
      obtain ⟨b, e1, e2, us, h1, h2⟩ := r.obj n _ hg
      rw [ea] at e1; cases e1
      exact .inl ⟨rfl, us, .inl (.inl h1)⟩
    · cases h
theorem Dens.erase {K : PySem.W.Frag} {cl : Nm} {Sh : Hp} {vs : List V} {ds : List D} (h : Dens K cl Sh vs ds) (k : Nat) : Dens K cl Sh (vs.eraseIdx k) (ds.eraseIdx k) := by
  rw [List.eraseIdx_eq_take_drop_succ, List.eraseIdx_eq_take_drop_succ]
  exact (h.take _).append (h.drop _)
theorem se_popx {eo ei : Expr} {fo fi : Env' → Store → Res W} {pa pc : Pos} (hp : Plain eo) (hpi : Plain ei) (hline : (pa.endLine == pc.line) = true) (ho : SE X cl eo fo) (hi : SE X cl ei fi) :
    SE X cl (.Call (.Attribute eo (Str.ofString "pop") pa) [ei] [] pc) (fun ρ S => bnd (fo ρ S) fun x S1 => if isLstE S1 x then bnd (fi ρ S1) fun y S2 => popW S2 x y else .bad) := by
  have hps : ∀ y ∈ [ei], Plain y := fun y hy => by rw [List.mem_singleton.mp hy]; exact hpi
  have hfew : ((backTo pc (starEach [ei] X.env)).all (fun x => !x.1) && (backToKw pc (keywordEach [] X.env)).all (fun x => x.1.isSome)
    && decide ([ei].length + ([] : List Keyword).length + (if ([] : List Keyword).isEmpty then 0 else 1) < 30)) = true := by
    rw [star_all hps]
    rfl
  have ha := sa_cons hpi hi (sa_nil (X := X) (cl := cl))
  have e : ∀ ρ S1 w, bnd (fi ρ S1) (fun y S2 => popW S2 w y) = bnd (bnd (fi ρ S1) fun x S2 => bnd (Res.ok [] S2) fun xs S3 => Res.ok (x :: xs) S3) fun ws S2 => (match ws with | [y] => popW S2 w y | _ => .bad : Res W) := by
    intro ρ S1 w
    cases fi ρ S1 <;> rfl
  intro ρ S σ H Sh μ Q r de h
  refine WE.of (pe_bm PySem.F.plainAttrs_list PySem.F.slot_list_pop PySem.F.type_list_pop mt_popAt pe_W pa_W (hp.attr _ _) hfew hline (hpi.star [] X.env) (star_any (es := []) (fun x hx => absurd hx List.not_mem_nil) pc X.env)) (ho ρ S σ H Sh μ _ r de (GR.imp ?_ (GR.bind (R := DenW X.K cl) h)))
  rintro x H1 ⟨Sh1, μ1, w, S1, s1, r1, d1, g1⟩
  split at g1
  · rename_i hl
    rw [e] at g1
    refine ⟨isLstE_ok r1 d1 hl, ha ρ S1 σ H1 Sh1 μ1 _ r1 (de.step s1) (GR.imp ?_ (GR.bind (R := DenWs X.K cl) g1))⟩
    rintro vs H2 ⟨Sh2, μ2, ws, S2, s2, r2, d2, g2⟩
    match ws, d2 with
    | [y], .cons dy .nil =>
      cases w with
      | t _ => cases hl
      | loc n =>
        match y, dy, g2 with
        | .t (.int i), dy, g2 =>
          simp only [popW] at g2
          cases hg : get S2 n with
          | none => rw [hg] at g2; exact g2.elim
          | some o =>
            rw [hg] at g2
            cases o with
            | dct _ _ => exact g2.elim
            | ins _ _ => exact g2.elim
            | lst ds =>
              dsimp only at g2
              cases hq : popD ds i with
              | none => rw [hq] at g2; exact g2.elim
              | some q =>
                rw [hq] at g2
                have d1' := d1.step s2
                obtain ⟨a, ea, rfl⟩ := d1'
                obtain ⟨b, e1, e2, us, h1, h2⟩ := r2.obj n _ hg
                rw [ea] at e1; cases e1
                unfold popD at hq
                split at hq
                · rename_i hb
                  split at hq
                  · rename_i k hk
                    obtain ⟨d, hd, rfl⟩ := Option.map_eq_some_iff.mp hq
                    obtain ⟨u, hu, du⟩ := h2.get hd
                    have hv := den_int dy
                    subst hv
                    refine ⟨a, us, i, k, u, rfl, rfl, h1, hb.1, hb.2, by rw [h2.length]; exact hk, hu, ?_⟩
                    exact GR.get g2 (r2.write hg ea ⟨_, upd_same, h2.erase k⟩) du
                  · cases hq
                · cases hq
        | .loc _, _, g2 => exact g2.elim
        | .t .non, _, g2 => exact g2.elim
        | .t (.bl _), _, g2 => exact g2.elim
        | .t (.str _), _, g2 => exact g2.elim
        | .t (.lst _), _, g2 => exact g2.elim
        | .t (.tup _), _, g2 => exact g2.elim
        | .t (.dct _ _), _, g2 => exact g2.elim
        | .t (.ins _ _), _, g2 => exact g2.elim
        | .t (.exc _), _, g2 => exact g2.elim
        | .t (.ro _), _, g2 => exact g2.elim
        | .t (.rt _), _, g2 => exact g2.elim
    | [], .nil => exact g2.elim
    | _ :: _ :: _, _ => exact g2.elim
  · exact g1.elim
end
end Rf

/-! Rf, part N: the check of the text, and: the readings of all expressions are right. -/
namespace Rf
open PySem PySem.Spec PyProof.Rows L2

def visB (sc : Scope) (x : Str) : Bool := (match sc.names.lookup x with | some .local => true | some .cell => true | some .free => true | _ => false) && !(x == ("__debug__" : Str)) && !(x == ("__classdict__" : Str))
def glB (sc : Scope) (x : Str) : Bool := (match sc.names.lookup x with | some .globalImplicit => true | _ => false) && !(x == ("__debug__" : Str))
def tyTab : List (Str × String) := [("int", "int"), ("bool", "bool"), ("str", "str"), ("list", "list"), ("dict", "dict"), ("tuple", "tuple"), ("ValueError", "ValueError")]
theorem tyTab_ok : ∀ q ∈ tyTab, bootBuiltins q.1 = some (.type q.2) ∧ q.1 ≠ "__name__" := by
  intro q hq
  simp only [tyTab, List.mem_cons, List.not_mem_nil, or_false] at hq
  rcases hq with rfl | rfl | rfl | rfl | rfl | rfl | rfl <;> exact ⟨by decide +kernel, by decide +kernel⟩
section
variable (g : Sig) (N : List Str)
def biB (sc : Scope) (x : Str) : Bool := glB sc x && g.bi.contains x
def Cl.wf (sc : Scope) : Cl → Bool
  | .own c => match g.cnm[c]? with | some x => glB sc x | none => false
  | .ty x n => biB g sc x && tyTab.contains (x, n)
/-- a target: fn tells which captured names are the block's own -/
def Tg.wf (sc : Scope) (fn : Str → Bool) (tg : Tg) : Bool := tg.ix.all fun i => decide (i < N.length) && (match sc.names.lookup (nmOf N i) with | some .local => true | some .cell => fn (nmOf N i) | _ => false)
def Es.isNil : Es → Bool
  | .nil => true
  | _ => false
def Es.len : Es → Nat
  | .nil => 0
  | .cons _ r => r.len + 1
mutual
def E.wf : E → Scope → Bool
  | .var i _, sc => decide (i < N.length) && visB sc (nmOf N i)
  | .int _ _ _, _ => true
  | .str _ _ _, _ => true
  | .bl _ _ _, _ => true
  | .non _ _, _ => true
  | .glo i _, sc => match g.cst[i]? with | some q => glB sc q.1 | none => false
  | .bin _ a b _, sc => a.wf sc && b.wf sc
  | .neg a _, sc => a.wf sc
  | .cmp _ a b _, sc => a.wf sc && b.wf sc
  | .ch2 _ _ a b c _, sc => a.wf sc && b.wf sc && c.wf sc
  | .ch3 _ _ _ _ _ _ _ _, _ => false
  | .bop _ es _, sc => !es.isNil && es.wf sc
  | .not a _, sc => a.wf sc
  | .ife c a b _, sc => c.wfT sc && a.wf sc && b.wf sc
  | .lst es _, sc => es.wf sc
  | .tup es _ _, sc => es.wf sc
  | .dct0 _ _, _ => true
  | .call f es _ _, sc => !es.isNil && es.wf sc && (match g.fnm[f]? with | some x => glB sc x && decide (x ≠ Str.empty) | none => false)
  | .mk c es nd _ _, sc => !es.isNil && es.wf sc && g.mkn.contains (c, nd) && (match g.cnm[c]? with | some x => glB sc x | none => false)
  | .bfn b es _ _, sc => !es.isNil && es.wf sc && biB g sc (Str.ofString b.nm)
  | .mth m o es pa p, sc => o.wf sc && es.wf sc && decide (es.len < 20) && (pa.endLine == p.line) && ((mtId true m).isSome || (mtId false m).isSome)
  | .ix a b _, sc => a.wf sc && b.wf sc
  | .sl a lo hi _ _, sc => a.wf sc && lo.wf sc && hi.wf sc
  | .fld o f _, sc => o.wf sc && decide (f < g.fld.length)
  | .isi e c _ _ _, sc => e.wf sc && biB g sc "isinstance" && c.wf g sc
  | .isis e cs _ _ _ _, sc => e.wf sc && biB g sc "isinstance" && cs.all (fun c => c.1.wf g sc) && !cs.isEmpty && decide (cs.length ≤ 1000)
  | .comp elt tg src ifs scope own _, sc => src.wf tg sc && blkC N sc scope own && tg.wf N (relS scope sc) (fun x => scope.names.lookup x == some .cell) && tg.ix.all (fun i => (own.map (·.2)).contains i) &&
      elt.wf (relS scope sc) && ifs.wfT (relS scope sc) && decide (ifs.len ≤ 1)
  | .orl a b _, sc => a.wf sc && b.wf sc
  | .lens a _ _ _ _, sc => a.wf sc && biB g sc "len" && biB g sc "set"
  | .fmt e _, sc => e.wf sc
  | .fstr es _, sc => es.wf sc && decide (2 ≤ es.len)
  | .popx o i pa pc, sc => o.wf sc && i.wf sc && (pa.endLine == pc.line)
  | .new e, sc => e.wf sc && e.fresh
  | .frz e, sc => e.wf sc
/-- as a test -/
def E.wfT : E → Scope → Bool
  | .cmp _ a b _, sc => a.wf sc && b.wf sc
  | .ch2 _ _ a b c _, sc => a.wf sc && b.wf sc && c.wf sc
  | .ch3 _ _ _ a b c d _, sc => a.wf sc && b.wf sc && c.wf sc && d.wf sc
  | .bop _ es _, sc => !es.isNil && es.wfT sc
  | .not a _, sc => a.wfT sc
  | .ife _ _ _ _, _ => false
  | .new _, _ => false
  | .frz _, _ => false
  | .var i _, sc => decide (i < N.length) && visB sc (nmOf N i)
  | .call f es _ _, sc => !es.isNil && es.wf sc && (match g.fnm[f]? with | some x => glB sc x && decide (x ≠ Str.empty) | none => false)
  | .bfn b es _ _, sc => !es.isNil && es.wf sc && biB g sc (Str.ofString b.nm)
  | .isi e c _ _ _, sc => e.wf sc && biB g sc "isinstance" && c.wf g sc
  | .isis e cs _ _ _ _, sc => e.wf sc && biB g sc "isinstance" && cs.all (fun c => c.1.wf g sc) && !cs.isEmpty && decide (cs.length ≤ 1000)
  | .mth m o es pa p, sc => o.wf sc && es.wf sc && decide (es.len < 20) && (pa.endLine == p.line) && ((mtId true m).isSome || (mtId false m).isSome)
  | .ix a b _, sc => a.wf sc && b.wf sc
  | .fld o f _, sc => o.wf sc && decide (f < g.fld.length)
  | _, _ => false
def E.fresh : E → Bool
  | .lst _ _ => true
  | .bin _ _ _ _ => true
  | .sl _ _ _ _ _ => true
  | .bfn .list es _ _ => decide (es.len = 1)
  | .dct0 _ _ => true
  | .comp _ _ _ _ _ _ _ => true
  | _ => false
def Es.wf : Es → Scope → Bool
  | .nil, _ => true
  | .cons e r, sc => e.wf sc && r.wf sc
def Es.wfT : Es → Scope → Bool
  | .nil, _ => true
  | .cons e r, sc => e.wfT sc && r.wfT sc
def Eo.wf : Eo → Scope → Bool
  | .no, _ => true
  | .so e, sc => e.wf sc
def Sr.wf : Sr → Tg → Scope → Bool
  | .seq e, _, sc => e.wf sc
  | .rng es _ _, _, sc => es.wf sc && (decide (es.len = 1) || decide (es.len = 2) || decide (es.len = 3)) && biB g sc "range"
  | .enum e _ _, tg, sc => e.wf sc && biB g sc "enumerate" && (match tg with | .tp _ _ _ => true | _ => false)
  | .zip a b _ _, tg, sc => a.wf sc && b.wf sc && biB g sc "zip" && (match tg with | .tp _ _ _ => true | _ => false)
  | .rev e _ _, _, sc => e.wf sc && biB g sc "reversed"
end
end
structure CxOk (g : Sig) (N : List Str) (cl : Nm) (T : Nat → List W → Store → Res W) (k : Nat) (sc : Scope) (X : Cx) : Prop where
  n : X.N = N
  nd : N.Nodup
  sc : X.env.scope = sc
  calm : X.calm = true
  room : Room (k + 1) X.A
  g : GOk g cl T k X.prog X.w X.K X.mg X.base
section
variable {g : Sig} {N : List Str} {cl : Nm} {T : Nat → List W → Store → Res W} {k : Nat} {sc : Scope} {X : Cx}
theorem and2 {a b : Bool} (h : (a && b) = true) : a = true ∧ b = true := Bool.and_eq_true_iff.mp h
theorem not1 {a : Bool} (h : (!a) = true) : a = false := by cases a; rfl; cases h
theorem CxOk.blk (c : CxOk g N cl T k sc X) {scope : Scope} (s : Shared) (H : Hp) (C : Addr) (cl0 : List (Str × Addr)) (fp : List Addr) : CxOk g N cl T k (relS scope sc) (X.blk s H scope (compEnvC scope cl0 C X.env) fp) :=
  ⟨c.n, c.nd, by rw [← c.sc]; rfl, c.calm, c.room, c.g⟩
theorem CxOk.hu (c : CxOk g N cl T k sc X) : X.A.units + 64 < cLine := c.room.units
theorem visB_ok (h : visB sc x = true) : Vis sc x ∧ (x == ("__debug__" : Str)) = false ∧ (x == ("__classdict__" : Str)) = false := by
  unfold visB at h
  obtain ⟨h, h3⟩ := and2 h
  obtain ⟨h1, h2⟩ := and2 h
  refine ⟨?_, not1 h2, not1 h3⟩
  unfold L2.Vis
  split at h1
  · rename_i e; exact .inl e
  · rename_i e; exact .inr (.inl e)
  · rename_i e; exact .inr (.inr e)
  · cases h1
theorem CxOk.gl (c : CxOk g N cl T k sc X) {x : Str} (h : glB sc x = true) : Gl X x ∧ (x == ("__debug__" : Str)) = false := by
  unfold glB at h
  obtain ⟨h1, h2⟩ := and2 h
  refine ⟨?_, not1 h2⟩
  show X.env.scope.names.lookup x = some .globalImplicit
  rw [c.sc]
  split at h1
  · assumption
  · cases h1
theorem CxOk.bi (c : CxOk g N cl T k sc X) {x : Str} (h : biB g sc x = true) : Gl X x ∧ (x == ("__debug__" : Str)) = false ∧ X.mg x = none := by
  obtain ⟨h1, h2⟩ := and2 h
  obtain ⟨a, b⟩ := c.gl h1
  exact ⟨a, b, c.g.bi x (by simpa using h2)⟩
theorem CxOk.cls (c : CxOk g N cl T k sc X) {u : Cl} (p : Pos) (h : u.wf g sc = true) : ∃ x, u.py g p = .Name x p ∧ Gl X x ∧ (x == ("__debug__" : Str)) = false ∧ clN g X.mg cl u x := by
  cases u with
  | own i =>
    simp only [Cl.wf] at h
    split at h
    · rename_i x e
      obtain ⟨a, b⟩ := c.gl h
      refine ⟨x, ?_, a, b, c.g.cn i x e⟩
      show Expr.Name (nmOf g.cnm i) p = _
      unfold nmOf
      rw [e]; rfl
    · cases h
  | ty x n =>
    obtain ⟨h1, h2⟩ := and2 (show (biB g sc x && tyTab.contains (x, n)) = true from h)
    obtain ⟨a, b, d⟩ := c.bi h1
    obtain ⟨e1, e2⟩ := tyTab_ok (x, n) (by simpa using h2)
    exact ⟨x, rfl, a, b, d, e1, e2⟩
theorem CxOk.tg (c : CxOk g N cl T k sc X) {tg : Tg} {fn : Str → Bool} (hf : ∀ x, fn x = true → X.fn x = true) (h : tg.wf N sc fn = true) : TgOk X N tg := by
  have h' : ∀ i ∈ tg.ix, i < N.length ∧ (match sc.names.lookup (nmOf N i) with | some .local => true | some .cell => fn (nmOf N i) | _ => false) = true := by
    unfold Tg.wf at h
    rw [List.all_eq_true] at h
    intro i hi
    have := and2 (h i hi)
    exact ⟨of_decide_eq_true this.1, this.2⟩
  refine ⟨by rw [c.n]; exact c.nd, c.n, fun i hi => (h' i hi).1, fun i hi => ?_, c.calm⟩
  have q := (h' i hi).2
  unfold L2.Loc
  rw [c.sc]
  split at q
  · rename_i e; exact ⟨.inl e, .inr e⟩
  · rename_i e; exact ⟨.inr e, .inl (hf _ q)⟩
  · cases q
theorem Es.py_cons {es : Es} (h : es.isNil = false) : ∃ e r, es = .cons e r := by
  cases es with
  | nil => cases h
  | cons e r => exact ⟨e, r, rfl⟩
theorem Es.len_py : ∀ es : Es, (es.py g N).length = es.len
  | .nil => rfl
  | .cons e r => by show (r.py g N).length + 1 = r.len + 1; rw [Es.len_py r]
theorem plain_py : ∀ (m : E), m.wf g N sc = true → Plain (m.py g N)
  | .var _ _, _ => ⟨fun _ _ => rfl, fun _ => rfl, fun _ _ => rfl, fun _ _ => rfl, fun _ _ => rfl⟩
  | .int _ _ _, _ => ⟨fun _ _ => rfl, fun _ => rfl, fun _ _ => rfl, fun _ _ => rfl, fun _ _ => rfl⟩
  | .str _ _ _, _ => ⟨fun _ _ => rfl, fun _ => rfl, fun _ _ => rfl, fun _ _ => rfl, fun _ _ => rfl⟩
  | .bl _ _ _, _ => ⟨fun _ _ => rfl, fun _ => rfl, fun _ _ => rfl, fun _ _ => rfl, fun _ _ => rfl⟩
  | .non _ _, _ => ⟨fun _ _ => rfl, fun _ => rfl, fun _ _ => rfl, fun _ _ => rfl, fun _ _ => rfl⟩
  | .glo _ _, _ => ⟨fun _ _ => rfl, fun _ => rfl, fun _ _ => rfl, fun _ _ => rfl, fun _ _ => rfl⟩
  | .bin _ _ _ _, _ => ⟨fun _ _ => rfl, fun _ => rfl, fun _ _ => rfl, fun _ _ => rfl, fun _ _ => rfl⟩
  | .neg _ _, _ => ⟨fun _ _ => rfl, fun _ => rfl, fun _ _ => rfl, fun _ _ => rfl, fun _ _ => rfl⟩
  | .cmp _ _ _ _, _ => ⟨fun _ _ => rfl, fun _ => rfl, fun _ _ => rfl, fun _ _ => rfl, fun _ _ => rfl⟩
  | .ch2 _ _ _ _ _ _, _ => ⟨fun _ _ => rfl, fun _ => rfl, fun _ _ => rfl, fun _ _ => rfl, fun _ _ => rfl⟩
  | .ch3 _ _ _ _ _ _ _ _, h => by cases h
  | .bop _ _ _, _ => ⟨fun _ _ => rfl, fun _ => rfl, fun _ _ => rfl, fun _ _ => rfl, fun _ _ => rfl⟩
  | .not _ _, _ => ⟨fun _ _ => rfl, fun _ => rfl, fun _ _ => rfl, fun _ _ => rfl, fun _ _ => rfl⟩
  | .ife _ _ _ _, _ => ⟨fun _ _ => rfl, fun _ => rfl, fun _ _ => rfl, fun _ _ => rfl, fun _ _ => rfl⟩
  | .lst _ _, _ => ⟨fun _ _ => rfl, fun _ => rfl, fun _ _ => rfl, fun _ _ => rfl, fun _ _ => rfl⟩
  | .tup _ _ _, _ => ⟨fun _ _ => rfl, fun _ => rfl, fun _ _ => rfl, fun _ _ => rfl, fun _ _ => rfl⟩
  | .dct0 _ _, _ => ⟨fun _ _ => rfl, fun _ => rfl, fun _ _ => rfl, fun _ _ => rfl, fun _ _ => rfl⟩
  | .call f es pn p, h => by
    obtain ⟨e, r, rfl⟩ := Es.py_cons (not1 (and2 (and2 h).1).1)
    exact ⟨fun _ _ => rfl, fun _ => rfl, fun _ _ => rfl, fun _ _ => rfl, fun _ _ => rfl⟩
  | .mk c es nd pn p, h => by
    obtain ⟨e, r, rfl⟩ := Es.py_cons (not1 (and2 (and2 (and2 h).1).1).1)
    exact ⟨fun _ _ => rfl, fun _ => rfl, fun _ _ => rfl, fun _ _ => rfl, fun _ _ => rfl⟩
  | .bfn b es pn p, h => by
    obtain ⟨e, r, rfl⟩ := Es.py_cons (not1 (and2 (and2 h).1).1)
    exact ⟨fun _ _ => rfl, fun _ => rfl, fun _ _ => rfl, fun _ _ => rfl, fun _ _ => rfl⟩
  | .mth _ _ es _ _, _ => ⟨fun _ _ => rfl, fun _ => rfl, fun _ _ => rfl, fun _ _ => rfl, fun _ _ => rfl⟩
  | .ix _ _ _, _ => ⟨fun _ _ => rfl, fun _ => rfl, fun _ _ => rfl, fun _ _ => rfl, fun _ _ => rfl⟩
  | .sl _ _ _ _ _, _ => ⟨fun _ _ => rfl, fun _ => rfl, fun _ _ => rfl, fun _ _ => rfl, fun _ _ => rfl⟩
  | .fld _ _ _, _ => ⟨fun _ _ => rfl, fun _ => rfl, fun _ _ => rfl, fun _ _ => rfl, fun _ _ => rfl⟩
  | .isi _ _ _ _ _, _ => ⟨fun _ _ => rfl, fun _ => rfl, fun _ _ => rfl, fun _ _ => rfl, fun _ _ => rfl⟩
  | .isis _ _ _ _ _ _, _ => ⟨fun _ _ => rfl, fun _ => rfl, fun _ _ => rfl, fun _ _ => rfl, fun _ _ => rfl⟩
  | .comp _ _ _ _ _ _ _, _ => ⟨fun _ _ => rfl, fun _ => rfl, fun _ _ => rfl, fun _ _ => rfl, fun _ _ => rfl⟩
  | .orl _ _ _, _ => ⟨fun _ _ => rfl, fun _ => rfl, fun _ _ => rfl, fun _ _ => rfl, fun _ _ => rfl⟩
  | .lens _ _ _ _ _, _ => ⟨fun _ _ => rfl, fun _ => rfl, fun _ _ => rfl, fun _ _ => rfl, fun _ _ => rfl⟩
  | .fmt _ _, _ => ⟨fun _ _ => rfl, fun _ => rfl, fun _ _ => rfl, fun _ _ => rfl, fun _ _ => rfl⟩
  | .fstr _ _, _ => ⟨fun _ _ => rfl, fun _ => rfl, fun _ _ => rfl, fun _ _ => rfl, fun _ _ => rfl⟩
  | .popx _ _ _ _, _ => ⟨fun _ _ => rfl, fun _ => rfl, fun _ _ => rfl, fun _ _ => rfl, fun _ _ => rfl⟩
  | .new e, h => plain_py e (and2 h).1
  | .frz e, h => plain_py e h
theorem plains : ∀ (es : Es), es.wf g N sc = true → ∀ x ∈ es.py g N, Plain x
  | .nil, _, _, hx => nomatch hx
  | .cons e r, h, x, hx => by
    rcases List.mem_cons.mp hx with rfl | hx
    · exact plain_py e (and2 h).1
    · exact plains r (and2 h).2 x hx
theorem Es.ev_len : ∀ (es : Es) (ρ : Env') (S : Store) (ws : List W) (S1 : Store), es.ev T g ρ S = .ok ws S1 → ws.length = es.len
  | .nil, _, _, _, _, e => by simp only [Es.ev] at e; cases e; rfl
  | .cons m r, ρ, S, ws, S1, e => by
    simp only [Es.ev] at e
    cases q : m.ev T g ρ S with
    | ok x S2 =>
      rw [q] at e
      have e' : bnd (r.ev T g ρ S2) (fun xs S2 => Res.ok (x :: xs) S2) = .ok ws S1 := e
      cases q2 : r.ev T g ρ S2 with
      | ok xs S3 =>
        rw [q2] at e'
        simp only [bnd] at e'
        cases e'
        exact congrArg (· + 1) (Es.ev_len r ρ S2 xs _ q2)
      | exc c S3 => rw [q2] at e'; cases e'
      | bad => rw [q2] at e'; cases e'
    | exc c S2 => rw [q] at e; cases e
    | bad => rw [q] at e; cases e

theorem nm_ok {i : Nat} (h : i < N.length) (c : CxOk g N cl T k sc X) : X.N[i]? = some (nmOf N i) := by rw [c.n]; exact nmOf_get h
theorem bopPy_eq (isAnd : Bool) : (if isAnd = true then BoolOp.And else BoolOp.Or) = bopPy isAnd := by cases isAnd <;> rfl
theorem st_imp {e : Expr} {f f' : Env' → Store → Res W} (h : ST X cl e f) (q : ∀ ρ S, f ρ S = f' ρ S) : ST X cl e f' := by
  have : f = f' := by funext ρ S; exact q ρ S
  rw [← this]; exact h
theorem se_imp {e : Expr} {f f' : Env' → Store → Res W} (h : SE X cl e f) (q : ∀ ρ S, f ρ S = f' ρ S) : SE X cl e f' := by
  have : f = f' := by funext ρ S; exact q ρ S
  rw [← this]; exact h
theorem ob_den {K : PySem.W.Frag} {Sh H : Hp} {μ : List Addr} {S : Store} {n : Nat} {o : Ob} {a : Addr} (r : Rel K cl Sh H μ S) (hg : get S n = some o) (ea : μ[n]? = some a) :
    ∃ u, H a = some u ∧ Sh a = none ∧ Rel K cl (upd Sh a u) H (μ.take n) (S.take n) ∧ Den K cl (upd Sh a u) (.ref a) o.tree ∧ Same Sh (upd Sh a u) := by
  obtain ⟨b, e1, e2, e3⟩ := r.obj n o hg
  rw [ea] at e1; cases e1
  have other : ∀ m ob c, get (S.take n) m = some ob → (μ.take n)[m]? = some c → c ≠ a := fun m ob c hm hc hz => by
    subst hz
    obtain ⟨l1, l2⟩ := get_take hm
    rw [List.getElem?_take_of_lt l1] at hc
    have := r.inj m n c ob o hc ea l2 hg
    omega
  have fin : ∀ u, H a = some u → (Same Sh (upd Sh a u) → Den K cl (upd Sh a u) (.ref a) o.tree) → ∃ u, H a = some u ∧ Sh a = none ∧ Rel K cl (upd Sh a u) H (μ.take n) (S.take n) ∧ Den K cl (upd Sh a u) (.ref a) o.tree ∧ Same Sh (upd Sh a u) := fun u hu hd => by
    have sm : Same Sh (upd Sh a u) := fun b v q => by rw [upd_ne (ne_of_none q e2)]; exact q
    exact ⟨u, hu, e2, (r.take (b := n)).share hu e2 other, hd sm, sm⟩
  cases o with
  | lst ds => obtain ⟨vs, h1, h2⟩ := e3; exact fin _ h1 fun sm => .lst (.inl upd_same) (h2.mono sm)
  | dct t ds =>
    cases t with
    | false => obtain ⟨es, h1, h2⟩ := e3; exact fin _ h1 fun sm => .dK upd_same (h2.mono sm)
    | true => obtain ⟨es, h1, h2⟩ := e3; exact fin _ h1 fun sm => .dT upd_same (h2.mono sm)
  | ins c ds => obtain ⟨dx, es, h1, h2⟩ := e3; exact fin _ h1 fun sm => .ins upd_same (h2.mono sm)
theorem se_frz {e : Expr} {f : Env' → Store → Res W} (h : SE X cl e f) : SE X cl e (fun ρ S => bnd (f ρ S) fun x S1 => frzW S.length x S1) := by
  intro ρ S σ H Sh μ Q r de hq
  dsimp only at hq
  refine h ρ S σ H Sh μ Q r de ?_
  cases e1 : f ρ S with
  | bad => rw [e1] at hq; exact hq.elim
  | exc c S1 => rw [e1] at hq; exact hq
  | ok w S1 =>
    rw [e1] at hq
    have g1 : GR X cl σ Sh μ (DenW X.K cl) Q (frzW S.length w S1) := hq
    intro v H1 Sh1 μ1 s1 r1 d1
    cases w with
    | t d => exact g1 v H1 Sh1 μ1 s1 r1 d1
    | loc n =>
      obtain ⟨a, ea, rfl⟩ := d1
      unfold frzW at g1
      dsimp only at g1
      split at g1
      · rename_i hn
        cases hg : get S1 n with
        | none => rw [hg] at g1; exact g1.elim
        | some o =>
          rw [hg] at g1
          obtain ⟨u, h1, h2, h3, h4, h5⟩ := ob_den r1 hg ea
          exact g1 _ _ _ _ ((Step.take (by rw [r.len]; exact hn.1) s1).trans ⟨h5, fun _ _ q => q⟩) h3 h4
      · exact g1.elim
theorem Es.ev_nil {es : Es} (h : es.py g N = []) (ρ : Env') (S : Store) : es.ev T g ρ S = .ok [] S := by
  cases es with
  | nil => simp only [Es.ev]
  | cons e r => cases h
/-- a comprehension, new -/
theorem sn_comp {elt : E} {tg : Tg} {src : Sr} {ifs : Es} {scope : Scope} {own : List (Str × Nat)} {p : Pos} (c : CxOk g N cl T k sc X) (hw : (E.comp elt tg src ifs scope own p).wf g N sc = true)
    (hi : SI X cl (tg.py N) (src.py g N) (src.ev T g)) (hc : ∀ X', CxOk g N cl T k (relS scope sc) X' → SPs X' cl (ifs.py g N) (ifs.all T g)) (he : ∀ X', CxOk g N cl T k (relS scope sc) X' → SE X' cl (elt.py g N) (elt.ev T g)) :
    (∀ {ρ : Env'} {S : Store} {σ : L2.St} {H Sh : Hp} {μ : List Addr} {Q : VK}, Rel X.K cl Sh H μ S → DenE X.K cl Sh μ σ ρ → GF X cl σ Sh μ Q ((E.comp elt tg src ifs scope own p).ev T g ρ S) →
      ∃ (wi : TI) (gg : TG) (tt : TT) (te : TE), PI X (tg.py N) (src.py g N) wi ∧ BlkOk X.N X.env.scope scope own ∧
        (∀ (s : Shared) (H : Hp) (C : Addr) (cl : List (Str × Addr)) (fp : List Addr), PG (X.blk s H scope (compEnvC scope cl C X.env) fp) (tg.py N) gg) ∧
        (∀ (s : Shared) (H : Hp) (C : Addr) (cl : List (Str × Addr)) (fp : List Addr), PTs (X.blk s H scope (compEnvC scope cl C X.env) fp) (ifs.py g N) tt) ∧
        (∀ (s : Shared) (H : Hp) (C : Addr) (cl : List (Str × Addr)) (fp : List Addr), PE (X.blk s H scope (compEnvC scope cl C X.env) fp) (elt.py g N) te) ∧ (∀ x, foldedSetIterable (src.py g N) X.env x = pure x) ∧
        tLc wi gg tt te (own.map (·.2)) σ H Q) := by
  intro ρ S σ H Sh μ Q r de h
  obtain ⟨hw, h7⟩ := and2 (show (src.wf g N tg sc && blkC N sc scope own && tg.wf N (relS scope sc) (fun x => scope.names.lookup x == some .cell) && tg.ix.all (fun i => (own.map (·.2)).contains i) &&
      elt.wf g N (relS scope sc) && ifs.wfT g N (relS scope sc) && decide (ifs.len ≤ 1)) = true from hw)
  obtain ⟨hw, h6⟩ := and2 hw
  obtain ⟨hw, h5⟩ := and2 hw
  obtain ⟨hw, h4⟩ := and2 hw
  obtain ⟨hw, h3⟩ := and2 hw
  obtain ⟨h1, h2⟩ := and2 hw
  have hfold : ∀ x, foldedSetIterable (src.py g N) X.env x = pure x := by
    intro x
    cases src with
    | seq e => exact (plain_py e h1).fold _ _
    | rng es _ _ => rfl
    | enum e _ _ => rfl
    | zip a b _ _ => rfl
    | rev e _ _ => rfl
  have hok : BlkOk X.N X.env.scope scope own := by rw [c.n, c.sc]; exact blkOk_by h2
  refine ⟨WI X (tg.py N) (src.py g N), (fun v σ H Q => ∀ (s : Shared) (H0 : Hp) (C : Addr) (cl0 : List (Str × Addr)) (fp : List Addr), WG (X.blk s H0 scope (compEnvC scope cl0 C X.env) fp) (tg.py N) v σ H Q),
    (fun σ H Q => ∀ (s : Shared) (H0 : Hp) (C : Addr) (cl0 : List (Str × Addr)) (fp : List Addr), SPs.WTs' (X.blk s H0 scope (compEnvC scope cl0 C X.env) fp) (ifs.py g N) σ H Q),
    (fun σ H Q => ∀ (s : Shared) (H0 : Hp) (C : Addr) (cl0 : List (Str × Addr)) (fp : List Addr), WE (X.blk s H0 scope (compEnvC scope cl0 C X.env) fp) (elt.py g N) σ H Q), pi_W, hok, fun s0 H0 C cl0 fp => ⟨fun pins s σ H v u Q I r h => h s0 H0 C cl0 fp pins s u I r⟩, fun s0 H0 C cl0 fp => ⟨fun pins s σ H Q I h => h s0 H0 C cl0 fp pins s I⟩, fun s0 H0 C cl0 fp => ⟨fun pins s σ H Q I h => h s0 H0 C cl0 fp pins s I⟩, hfold, ?_⟩
  refine lc_read (N := N) rfl (fun i hi' => ?_) hi (fun s0 H0 C cl0 fp => ?_) (fun s0 H0 C cl0 fp => hc _ (c.blk s0 H0 C cl0 fp)) (fun s0 H0 C cl0 fp => he _ (c.blk s0 H0 C cl0 fp)) r de h
  · rw [List.all_eq_true] at h4
    simpa using h4 i hi'
  · exact (c.blk s0 H0 C cl0 fp).tg (fun x hx => hx) h3
end
end Rf

/-! Rf, part O: all expressions. -/
namespace Rf
open PySem PySem.Spec PyProof.Rows L2
section
variable {g : Sig} {N : List Str} {cl : Nm} {T : Nat → List W → Store → Res W} {k : Nat}
theorem comp_all : ∀ (ifs : Es) (ρ : Env') (S : Store), ifs.len ≤ 1 → True := fun _ _ _ _ => trivial
/-- a new object's reading, as a tree -/
theorem sn_se {X : Cx} {e : Expr} {f : Env' → Store → Res W} (h : SN X cl e f) (hf : ∀ ρ S w S1, f ρ S = .ok w S1 → ∃ o : Ob, w = .t o.tree ∧ o.ld = true) : SE X cl e f := by
  intro ρ S σ H Sh μ Q r de q
  refine h ρ S σ H Sh μ Q r de ?_
  cases e1 : f ρ S with
  | ok w S1 =>
    obtain ⟨o, rfl, hl⟩ := hf _ _ _ _ e1
    rw [e1] at q
    refine ⟨o, rfl, hl, fun p H' Sh' μ' s1 r1 n1 n2 ob => ?_⟩
    obtain ⟨u, hu⟩ := ob.some
    have r2 := r1.share hu n1 n2
    have s2 : Step Sh' μ' (upd Sh' p u) μ' := ⟨fun b v q => by rw [upd_ne (ne_of_none q n1)]; exact q, fun _ _ z => z⟩
    refine q _ H' _ _ (s1.trans s2) r2 ?_
    cases o with
    | lst ds => obtain ⟨vs, h1, h2⟩ := ob; rw [hu] at h1; cases h1; exact Den.lst (.inl upd_same) (h2.mono s2.sh)
    | dct t ds =>
      cases t with
      | false => obtain ⟨vs, h1, h2⟩ := ob; rw [hu] at h1; cases h1; exact Den.dK upd_same (h2.mono s2.sh)
      | true => obtain ⟨vs, h1, h2⟩ := ob; rw [hu] at h1; cases h1; exact Den.dT upd_same (h2.mono s2.sh)
    | ins _ _ => cases hl
  | exc c S1 => rw [e1] at q; exact q
  | bad => rw [e1] at q; exact q.elim
theorem sn_imp {X : Cx} {e : Expr} {f f' : Env' → Store → Res W} (h : SN X cl e f) (q : ∀ ρ S, f ρ S = f' ρ S) : SN X cl e f' := by
  have : f = f' := by funext ρ S; exact q ρ S
  rw [← this]; exact h
theorem sw_imp {X : Cx} {e : Expr} {f f' : Env' → Store → Res W} (h : SW X cl e f) (q : ∀ ρ S, f ρ S = f' ρ S) : SW X cl e f' := by
  have : f = f' := by funext ρ S; exact q ρ S
  rw [← this]; exact h
theorem bnd_ok {α β : Type} {r : Res α} {f : α → Store → Res β} {b : β} {S : Store} (h : bnd r f = .ok b S) : ∃ a S1, r = .ok a S1 ∧ f a S1 = .ok b S := by
  cases r with
  | ok a S1 => exact ⟨a, S1, rfl, h⟩
  | exc c S1 => cases h
  | bad => cases h
mutual
theorem sE : ∀ (m : E) {sc : Scope} {X : Cx}, CxOk g N cl T k sc X → m.wf g N sc = true → SE X cl (m.py g N) (m.ev T g)
  | .var i p, sc, X, c, h => by
    obtain ⟨h1, h2⟩ := and2 h
    obtain ⟨v, d1, d2⟩ := visB_ok h2
    exact se_imp (se_var (nm_ok (of_decide_eq_true h1) c) (by rw [c.sc]; exact v) d1 d2) fun ρ S => by first | (simp only [E.ev]; done) | (simp only [E.ev]; rfl)
  | .int _ _ _, _, _, _, _ => se_imp se_int fun ρ S => by first | (simp only [E.ev]; done) | (simp only [E.ev]; rfl)
  | .str _ _ _, _, _, _, _ => se_imp se_str fun ρ S => by first | (simp only [E.ev]; done) | (simp only [E.ev]; rfl)
  | .bl _ _ _, _, _, _, _ => se_imp se_bl fun ρ S => by first | (simp only [E.ev]; done) | (simp only [E.ev]; rfl)
  | .non _ _, _, _, _, _ => se_imp se_non fun ρ S => by first | (simp only [E.ev]; done) | (simp only [E.ev]; rfl)
  | .glo i p, sc, X, c, h => by
    have h' : (match g.cst[i]? with | some q => glB sc q.1 | none => false) = true := h
    split at h'
    · rename_i q e
      obtain ⟨x, d⟩ := q
      obtain ⟨hg, hd⟩ := c.gl h'
      obtain ⟨v, u, e1, e2, e3⟩ := c.g.cst i x d e
      have en : (((g.cst[i]?).map (·.1)).getD Str.empty) = x := by rw [e]; rfl
      have := se_glo (X := X) (cl := cl) (p := p) hg e1 e2 hd e3
      rw [show (E.glo i p).py g N = .Name x p from by show Expr.Name _ p = _; rw [en]]
      exact se_imp this fun ρ S => by simp only [E.ev, e] <;> rfl
    · cases h'
  | .bin o a b p, _, _, c, h => by
    obtain ⟨h1, h2⟩ := and2 h
    exact se_imp (se_bin (sE a c h1) (sE b c h2)) fun ρ S => by first | (simp only [E.ev]; done) | (simp only [E.ev]; rfl)
  | .neg a p, _, _, c, h => se_imp (se_neg (sE a c h)) fun ρ S => by first | (simp only [E.ev]; done) | (simp only [E.ev]; rfl)
  | .cmp o a b p, _, _, c, h => by
    obtain ⟨h1, h2⟩ := and2 h
    exact se_imp (se_cmp c.hu ((plain_py b h2).mark _) (sE a c h1) (sE b c h2)) fun ρ S => by first | (simp only [E.ev]; done) | (simp only [E.ev]; rfl)
  | .ch2 o q a b d p, _, _, c, h => by
    obtain ⟨h, h3⟩ := and2 h
    obtain ⟨h1, h2⟩ := and2 h
    exact se_imp (se_ch2 c.hu ((plain_py d h3).mark _) (sE a c h1) (sE b c h2) (sE d c h3)) fun ρ S => by first | (simp only [E.ev]; done) | (simp only [E.ev]; rfl)
  | .ch3 _ _ _ _ _ _ _ _, _, _, _, h => by cases h
  | .bop isAnd es p, _, _, c, h => by
    obtain ⟨h1, h2⟩ := and2 h
    have := sB isAnd p es c (not1 h1) h2
    rw [show (E.bop isAnd es p).py g N = .BoolOp (bopPy isAnd) (es.py g N) p from by show Expr.BoolOp _ _ p = _; rw [bopPy_eq]]
    exact se_imp this fun ρ S => by first | (simp only [E.ev]; done) | (simp only [E.ev]; rfl)
  | .orl a b p, _, _, c, h => by
    obtain ⟨h1, h2⟩ := and2 h
    exact se_imp (se_orl (sE a c h1) (sE b c h2)) fun ρ S => by first | (simp only [E.ev]; done) | (simp only [E.ev]; rfl)
  | .lens a p1 p2 q p, sc, X, c, h => by
    obtain ⟨h', h3⟩ := and2 (show (a.wf g N sc && biB g sc "len" && biB g sc "set") = true from h)
    obtain ⟨h1, h2⟩ := and2 h'
    obtain ⟨hg, hd, hm⟩ := c.bi h2
    obtain ⟨hg2, hd2, hm2⟩ := c.bi h3
    exact se_imp (se_lens c.calm (plain_py a h1) (sE a c h1) hg hm hg2 hm2) fun ρ S => by first | (simp only [E.ev]; done) | (simp only [E.ev]; rfl)
  | .not a p, _, _, c, h => se_imp (se_not (sE a c h)) fun ρ S => by first | (simp only [E.ev]; done) | (simp only [E.ev]; rfl)
  | .ife q a b p, _, _, c, h => by
    obtain ⟨h, h3⟩ := and2 h
    obtain ⟨h1, h2⟩ := and2 h
    exact se_imp (se_ife (sT q c h1) (sE a c h2) (sE b c h3)) fun ρ S => by first | (simp only [E.ev]; done) | (simp only [E.ev]; rfl)
  | .lst es p, _, _, c, h => se_imp (se_lst (sA es c h)) fun ρ S => by first | (simp only [E.ev]; done) | (simp only [E.ev]; rfl)
  | .tup es kk p, _, _, c, h => se_imp (se_tup (sA es c h)) fun ρ S => by first | (simp only [E.ev]; done) | (simp only [E.ev]; rfl)
  | .dct0 t p, _, _, c, h => se_imp (se_dct0 (t := t)) fun ρ S => by first | (simp only [E.ev]; done) | (simp only [E.ev]; rfl)
  | .call f es pn p, sc, X, c, h => by
    obtain ⟨h', h3⟩ := and2 h
    obtain ⟨h1, h2⟩ := and2 h'
    split at h3
    · rename_i x e
      obtain ⟨h4, h5⟩ := and2 h3
      obtain ⟨hg, hd⟩ := c.gl h4
      obtain ⟨a, fd, ps, e1, e2, e3, e4⟩ := c.g.fn f x e (of_decide_eq_true h5)
      have ha := sA es c h2
      have hp := plains es h2
      rw [show (E.call f es pn p).py g N = .Call (.Name x pn) (es.py g N) [] p from by show Expr.Call (.Name (nmOf g.fnm f) pn) _ [] p = _; rw [show nmOf g.fnm f = x from by unfold nmOf; rw [e]; rfl]]
      obtain ⟨q, r, rfl⟩ := Es.py_cons (not1 h1)
      exact se_imp (se_call hp ha hg hd e1 e2 e3 e4 (c.room.mono (Nat.le_succ _))) fun ρ S => by first | (simp only [E.ev]; done) | (simp only [E.ev]; rfl)
    · cases h3
  | .mk c0 es nd pn p, sc, X, c, h => by
    obtain ⟨h', h4⟩ := and2 h
    obtain ⟨h', h3⟩ := and2 h'
    obtain ⟨h1, h2⟩ := and2 h'
    obtain ⟨x, fI, fd, ps, e0, e1, e2, e3, e4⟩ := c.g.mkc c0 nd (by simpa using h3)
    rw [e0] at h4
    obtain ⟨hg, hd⟩ := c.gl (show glB sc x = true from h4)
    have ha := sA es c h2
    have hp := plains es h2
    rw [show (E.mk c0 es nd pn p).py g N = .Call (.Name x pn) (es.py g N) [] p from by show Expr.Call (.Name (nmOf g.cnm c0) pn) _ [] p = _; rw [show nmOf g.cnm c0 = x from by unfold nmOf; rw [e0]; rfl]]
    obtain ⟨q, r, rfl⟩ := Es.py_cons (not1 h1)
    refine se_imp (se_mk (c := c0) (nd := nd) hp ha hg hd e1 e2 e3 e4 c.room) fun ρ S => ?_
    simp only [E.ev]
    congr 1
  | .bfn b es pn p, sc, X, c, h => by
    obtain ⟨h', h3⟩ := and2 h
    obtain ⟨h1, h2⟩ := and2 h'
    obtain ⟨hg, hd, hm⟩ := c.bi h3
    have ha := sA es c h2
    have hp := plains es h2
    obtain ⟨q, r, rfl⟩ := Es.py_cons (not1 h1)
    exact se_imp (se_bfn hp ha hg hm c.calm) fun ρ S => by first | (simp only [E.ev]; done) | (simp only [E.ev]; rfl)
  | .mth m o es pa pc, sc, X, c, h => by
    obtain ⟨h, h5⟩ := and2 (show (o.wf g N sc && es.wf g N sc && decide (es.len < 20) && (pa.endLine == pc.line) && ((mtId true m).isSome || (mtId false m).isSome)) = true from h)
    obtain ⟨h, h4⟩ := and2 h
    obtain ⟨h, h3⟩ := and2 h
    obtain ⟨h1, h2⟩ := and2 h
    exact se_imp (se_mth (plain_py o h1) (plains es h2) (by rw [Es.len_py]; exact of_decide_eq_true h3) h4 h5 (sE o c h1) (sA es c h2) (fun z ρ S => Es.ev_nil z ρ S)) fun ρ S => by first | (simp only [E.ev]; done) | (simp only [E.ev]; rfl)
  | .ix a b p, _, _, c, h => by
    obtain ⟨h1, h2⟩ := and2 h
    exact se_imp (se_ix (plain_py b h2) (sE a c h1) (sE b c h2) c.hu) fun ρ S => by first | (simp only [E.ev]; done) | (simp only [E.ev]; rfl)
  | .sl a lo hi ps p, _, _, c, h => by
    obtain ⟨h', h3⟩ := and2 h
    obtain ⟨h1, h2⟩ := and2 h'
    exact se_imp (se_sl (sE a c h1) (sO lo c h2) (sO hi c h3)) fun ρ S => by first | (simp only [E.ev]; done) | (simp only [E.ev]; rfl)
  | .fld o f p, _, _, c, h => by
    obtain ⟨h1, h2⟩ := and2 h
    have hl := of_decide_eq_true h2
    exact se_imp (se_fld (na := g.na) (plain_py o h1) (sE o c h1) (c.g.fld f (nmOf g.fld f) (nmOf_get hl)) fun i hi => c.g.na i f hi) fun ρ S => by first | (simp only [E.ev]; done) | (simp only [E.ev]; rfl)
  | .isi e u pn pc p, sc, X, c, h => by
    obtain ⟨h', h3⟩ := and2 h
    obtain ⟨h1, h2⟩ := and2 h'
    obtain ⟨hg, hd, hm⟩ := c.bi h2
    obtain ⟨x, e1, e2, e3, e4⟩ := c.cls pc h3
    rw [show (E.isi e u pn pc p).py g N = .Call (.Name (Str.ofString "isinstance") pn) [e.py g N, .Name x pc] [] p from by show Expr.Call _ [_, u.py g pc] [] p = _; rw [e1]]
    exact se_imp (se_isi (g := g) (plain_py e h1) (sE e c h1) hg hm e2 e3 e4 (fun t c' b => c.g.kit t c' b) c.g.ins c.g.exc) fun ρ S => by first | (simp only [E.ev]; done) | (simp only [E.ev]; rfl)
  | .isis e cs kk pn pt p, sc, X, c, h => by
    obtain ⟨h', h5⟩ := and2 h
    obtain ⟨h', h4⟩ := and2 h'
    obtain ⟨h', h3⟩ := and2 h'
    obtain ⟨h1, h2⟩ := and2 h'
    obtain ⟨hg, hd, hm⟩ := c.bi h2
    rw [List.all_eq_true] at h3
    refine se_imp (se_isis (g := g) (plain_py e h1) (sE e c h1) hg hm (of_decide_eq_true h5) (fun u hu => c.cls u.2 (h3 u hu)) (fun t c' b => c.g.kit t c' b) c.g.ins c.g.exc ?_) fun ρ S => by first | (simp only [E.ev]; done) | (simp only [E.ev]; rfl)
    intro z
    subst z
    cases h4
  | .comp elt tg src ifs scope own p, sc, X, c, h => by
    have hw := h
    obtain ⟨h', h7⟩ := and2 (show (src.wf g N tg sc && blkC N sc scope own && tg.wf N (relS scope sc) (fun x => scope.names.lookup x == some .cell) && tg.ix.all (fun i => (own.map (·.2)).contains i) &&
      elt.wf g N (relS scope sc) && ifs.wfT g N (relS scope sc) && decide (ifs.len ≤ 1)) = true from h)
    obtain ⟨h', h6⟩ := and2 h'
    obtain ⟨h', h5⟩ := and2 h'
    obtain ⟨h', h4⟩ := and2 h'
    obtain ⟨h', h3⟩ := and2 h'
    obtain ⟨h1, h2⟩ := and2 h'
    have hi := sI src tg c h1
    have hc : ∀ X', CxOk g N cl T k (relS scope sc) X' → SPs X' cl (ifs.py g N) (ifs.all T g) := fun X' c' => sP ifs c' h6 (of_decide_eq_true h7)
    have he : ∀ X', CxOk g N cl T k (relS scope sc) X' → SE X' cl (elt.py g N) (elt.ev T g) := fun X' c' => sE elt c' h5
    have key : SN X cl ((E.comp elt tg src ifs scope own p).py g N) ((E.comp elt tg src ifs scope own p).ev T g) := by
      intro ρ S σ H Sh μ Q r de q
      obtain ⟨wi, gg, tt, te, a1, a2, a3, a4, a5, a6, a7⟩ := sn_comp c hw hi hc he r de q
      exact WE.of (pe_lc c.calm (by rw [c.n]; exact c.nd) a1 a2 a3 a4 a5 a6) a7
    refine sn_se key fun ρ S w S1 q => ?_
    simp only [E.ev] at q
    obtain ⟨items, S2, _, q2⟩ := bnd_ok q
    unfold compRes at q2
    split at q2
    · split at q2
      · cases q2; exact ⟨.lst _, rfl, rfl⟩
      · cases q2
    · cases q2
  | .fmt e p, _, _, c, h => se_imp (se_fmt (sE e c h)) fun ρ S => by first | (simp only [E.ev]; done) | (simp only [E.ev]; rfl)
  | .fstr .nil p, _, _, c, h => by cases (and2 h).2
  | .fstr (.cons _ .nil) p, _, _, c, h => by cases (and2 h).2
  | .fstr (.cons e1 (.cons e2 r)) p, _, _, c, h => by
    have h1 := (and2 h).1
    exact se_imp (se_fstr (p := p) (sJ (.cons e1 (.cons e2 r)) c h1)) fun ρ S => by first | (simp only [E.ev]; done) | (simp only [E.ev]; rfl)
  | .popx o i pa pc, sc, X, c, h => by
    obtain ⟨h, h3⟩ := and2 (show (o.wf g N sc && i.wf g N sc && (pa.endLine == pc.line)) = true from h)
    obtain ⟨h1, h2⟩ := and2 h
    exact se_imp (se_popx (plain_py o h1) (plain_py i h2) h3 (sE o c h1) (sE i c h2)) fun ρ S => by first | (simp only [E.ev]; done) | (simp only [E.ev]; rfl)
  | .new e, sc, X, c, h => by
    obtain ⟨h1, h2⟩ := and2 h
    exact se_imp (se_new (sN e c h1 h2)) fun ρ S => by first | (simp only [E.ev]; done) | (simp only [E.ev]; rfl)
  | .frz e, sc, X, c, h => se_imp (se_frz (sE e c h)) fun ρ S => by first | (simp only [E.ev]; done) | (simp only [E.ev]; rfl)
termination_by m => 2 * sizeOf m
decreasing_by all_goals (simp <;> omega)
theorem sN : ∀ (m : E) {sc : Scope} {X : Cx}, CxOk g N cl T k sc X → m.wf g N sc = true → m.fresh g N = true → SN X cl (m.py g N) (m.ev T g)
  | .lst es p, _, _, c, h, _ => sn_imp (sn_lst (sA es c h)) fun ρ S => by first | (simp only [E.ev]; done) | (simp only [E.ev]; rfl)
  | .bin o a b p, _, _, c, h, _ => by
    obtain ⟨h1, h2⟩ := and2 h
    exact sn_imp (sn_bin (sE a c h1) (sE b c h2)) fun ρ S => by first | (simp only [E.ev]; done) | (simp only [E.ev]; rfl)
  | .sl a lo hi ps p, _, _, c, h, _ => by
    obtain ⟨h', h3⟩ := and2 h
    obtain ⟨h1, h2⟩ := and2 h'
    exact sn_imp (sn_sl (sE a c h1) (sO lo c h2) (sO hi c h3)) fun ρ S => by first | (simp only [E.ev]; done) | (simp only [E.ev]; rfl)
  | .bfn b es pn p, sc, X, c, h, hf => by
    obtain ⟨h', h3⟩ := and2 h
    obtain ⟨h1, h2⟩ := and2 h'
    obtain ⟨hg, hd, hm⟩ := c.bi h3
    have ha := sA es c h2
    have hp := plains es h2
    cases b with
    | list =>
      have hl : es.len = 1 := of_decide_eq_true hf
      match es, hl, ha, hp with
      | .cons e .nil, _, ha, hp => exact sn_imp (sn_list (hp _ List.mem_cons_self) ha hg hm) fun ρ S => by first | (simp only [E.ev]; done) | (simp only [E.ev]; rfl)
      | .nil, hl, _, _ => cases hl
      | .cons _ (.cons _ _), hl, _, _ => simp [Es.len] at hl
    | _ => cases hf
  | .dct0 t p, _, _, c, h, _ => sn_imp (sn_dct0 (t := t)) fun ρ S => by first | (simp only [E.ev]; done) | (simp only [E.ev]; rfl)
  | .comp elt tg src ifs scope own p, sc, X, c, h, _ => by
    have hw := h
    obtain ⟨h', h7⟩ := and2 (show (src.wf g N tg sc && blkC N sc scope own && tg.wf N (relS scope sc) (fun x => scope.names.lookup x == some .cell) && tg.ix.all (fun i => (own.map (·.2)).contains i) &&
      elt.wf g N (relS scope sc) && ifs.wfT g N (relS scope sc) && decide (ifs.len ≤ 1)) = true from h)
    obtain ⟨h', h6⟩ := and2 h'
    obtain ⟨h', h5⟩ := and2 h'
    obtain ⟨h', h4⟩ := and2 h'
    obtain ⟨h', h3⟩ := and2 h'
    obtain ⟨h1, h2⟩ := and2 h'
    have hi := sI src tg c h1
    have hc : ∀ X', CxOk g N cl T k (relS scope sc) X' → SPs X' cl (ifs.py g N) (ifs.all T g) := fun X' c' => sP ifs c' h6 (of_decide_eq_true h7)
    have he : ∀ X', CxOk g N cl T k (relS scope sc) X' → SE X' cl (elt.py g N) (elt.ev T g) := fun X' c' => sE elt c' h5
    intro ρ S σ H Sh μ Q r de q
    obtain ⟨wi, gg, tt, te, a1, a2, a3, a4, a5, a6, a7⟩ := sn_comp c hw hi hc he r de q
    exact WE.of (pe_lc c.calm (by rw [c.n]; exact c.nd) a1 a2 a3 a4 a5 a6) a7
  | .var _ _, _, _, _, _, h => by cases h
  | .int _ _ _, _, _, _, _, h => by cases h
  | .str _ _ _, _, _, _, _, h => by cases h
  | .bl _ _ _, _, _, _, _, h => by cases h
  | .non _ _, _, _, _, _, h => by cases h
  | .glo _ _, _, _, _, _, h => by cases h
  | .neg _ _, _, _, _, _, h => by cases h
  | .cmp _ _ _ _, _, _, _, _, h => by cases h
  | .ch2 _ _ _ _ _ _, _, _, _, _, h => by cases h
  | .ch3 _ _ _ _ _ _ _ _, _, _, _, _, h => by cases h
  | .bop _ _ _, _, _, _, _, h => by cases h
  | .not _ _, _, _, _, _, h => by cases h
  | .ife _ _ _ _, _, _, _, _, h => by cases h
  | .tup _ _ _, _, _, _, _, h => by cases h
  | .call _ _ _ _, _, _, _, _, h => by cases h
  | .mk _ _ _ _ _, _, _, _, _, h => by cases h
  | .mth _ _ _ _ _, _, _, _, _, h => by cases h
  | .ix _ _ _, _, _, _, _, h => by cases h
  | .fld _ _ _, _, _, _, _, h => by cases h
  | .isi _ _ _ _ _, _, _, _, _, h => by cases h
  | .isis _ _ _ _ _ _, _, _, _, _, h => by cases h
  | .orl _ _ _, _, _, _, _, h => by cases h
  | .lens _ _ _ _ _, _, _, _, _, h => by cases h
  | .fmt _ _, _, _, _, _, h => by cases h
  | .fstr _ _, _, _, _, _, h => by cases h
  | .popx _ _ _ _, _, _, _, _, h => by cases h
  | .new _, _, _, _, _, h => by cases h
  | .frz _, _, _, _, _, h => by cases h
termination_by m => 2 * sizeOf m
decreasing_by all_goals (simp <;> omega)
theorem sT : ∀ (m : E) {sc : Scope} {X : Cx}, CxOk g N cl T k sc X → m.wfT g N sc = true → ST X cl (m.py g N) (m.ev T g)
  | .cmp o a b p, _, _, c, h => by
    obtain ⟨h1, h2⟩ := and2 h
    exact st_imp (st_cmp c.hu ((plain_py b h2).mark _) (sE a c h1) (sE b c h2)) fun ρ S => by first | (simp only [E.ev]; done) | (simp only [E.ev]; rfl)
  | .ch2 o q a b d p, _, _, c, h => by
    obtain ⟨h, h3⟩ := and2 h
    obtain ⟨h1, h2⟩ := and2 h
    exact st_imp (st_ch2 c.hu ((plain_py d h3).mark _) (sE a c h1) (sE b c h2) (sE d c h3)) fun ρ S => by first | (simp only [E.ev]; done) | (simp only [E.ev]; rfl)
  | .ch3 o q u a b d e p, _, _, c, h => by
    obtain ⟨h, h4⟩ := and2 h
    obtain ⟨h, h3⟩ := and2 h
    obtain ⟨h1, h2⟩ := and2 h
    exact st_imp (st_ch3 c.hu ((plain_py e h4).mark _) (sE a c h1) (sE b c h2) (sE d c h3) (sE e c h4)) fun ρ S => by first | (simp only [E.ev]; done) | (simp only [E.ev]; rfl)
  | .bop isAnd es p, _, _, c, h => by
    obtain ⟨h1, h2⟩ := and2 h
    have := (sBT isAnd p es c (not1 h1) h2).st
    rw [show (E.bop isAnd es p).py g N = .BoolOp (bopPy isAnd) (es.py g N) p from by show Expr.BoolOp _ _ p = _; rw [bopPy_eq]]
    exact st_imp this fun ρ S => by first | (simp only [E.ev]; done) | (simp only [E.ev]; rfl)
  | .not a p, _, _, c, h => st_imp (st_not (sT a c h)) fun ρ S => by first | (simp only [E.ev]; done) | (simp only [E.ev]; rfl)
  | .var i p, _, _, c, h => st_val (sE (.var i p) c h) fun _ => rfl
  | .call f es pn p, _, _, c, h => st_val (sE (.call f es pn p) c h) fun _ => rfl
  | .bfn b es pn p, _, _, c, h => st_val (sE (.bfn b es pn p) c h) fun _ => rfl
  | .isi e u pn pc p, _, _, c, h => st_val (sE (.isi e u pn pc p) c h) fun _ => rfl
  | .isis e cs kk pn pt p, _, _, c, h => st_val (sE (.isis e cs kk pn pt p) c h) fun _ => rfl
  | .int _ _ _, _, _, _, h => by cases h
  | .str _ _ _, _, _, _, h => by cases h
  | .bl _ _ _, _, _, _, h => by cases h
  | .non _ _, _, _, _, h => by cases h
  | .glo _ _, _, _, _, h => by cases h
  | .bin _ _ _ _, _, _, _, h => by cases h
  | .neg _ _, _, _, _, h => by cases h
  | .ife _ _ _ _, _, _, _, h => by cases h
  | .lst _ _, _, _, _, h => by cases h
  | .tup _ _ _, _, _, _, h => by cases h
  | .dct0 _ _, _, _, _, h => by cases h
  | .mk _ _ _ _ _, _, _, _, h => by cases h
  | .mth m o es pa pc, sc, X, c, h => st_val (sE (.mth m o es pa pc) c h) (fun _ => rfl)
  | .ix a b p, sc, X, c, h => st_val (sE (.ix a b p) c h) (fun _ => rfl)
  | .sl _ _ _ _ _, _, _, _, h => by cases h
  | .fld o f p, sc, X, c, h => st_val (sE (.fld o f p) c h) (fun _ => rfl)
  | .comp _ _ _ _ _ _ _, _, _, _, h => by cases h
  | .orl _ _ _, _, _, _, h => by cases h
  | .lens _ _ _ _ _, _, _, _, h => by cases h
  | .fmt _ _, _, _, _, h => by cases h
  | .fstr _ _, _, _, _, h => by cases h
  | .popx _ _ _ _, _, _, _, h => by cases h
  | .new _, _, _, _, h => by cases h
  | .frz _, _, _, _, h => by cases h
termination_by m => 2 * sizeOf m + 1
decreasing_by all_goals (simp <;> omega)
theorem sA : ∀ (m : Es) {sc : Scope} {X : Cx}, CxOk g N cl T k sc X → m.wf g N sc = true → SA X cl (m.py g N) (m.ev T g)
  | .nil, _, _, c, _ => fun ρ S σ H Sh μ Q r de h => sa_nil ρ S σ H Sh μ Q r de (by simp only [Es.ev] at h; exact h)
  | .cons e r, _, _, c, h => by
    obtain ⟨h1, h2⟩ := and2 h
    intro ρ S σ H Sh μ Q rl de q
    exact sa_cons (plain_py e h1) (sE e c h1) (sA r c h2) ρ S σ H Sh μ Q rl de (by simp only [Es.ev] at q; exact q)
termination_by m => 2 * sizeOf m
decreasing_by all_goals (simp <;> omega)
theorem sJ : ∀ (m : Es) {sc : Scope} {X : Cx}, CxOk g N cl T k sc X → m.wf g N sc = true → SJ X cl (m.py g N) (fun acc ρ S => m.js T g acc ρ S)
  | .nil, _, _, c, _ => fun acc ρ S σ H Sh μ Q r de h => sj_nil acc ρ S σ H Sh μ Q r de (by simp only [Es.js] at h; exact h)
  | .cons e r, _, _, c, h => by
    obtain ⟨h1, h2⟩ := and2 h
    intro acc ρ S σ H Sh μ Q rl de q
    exact sj_cons (sE e c h1) (sJ r c h2) acc ρ S σ H Sh μ Q rl de (by simp only [Es.js] at q; exact q)
termination_by m => 2 * sizeOf m
decreasing_by all_goals (simp <;> omega)
theorem sB : ∀ (isAnd : Bool) (p : Pos) (m : Es) {sc : Scope} {X : Cx}, CxOk g N cl T k sc X → m.isNil = false → m.wf g N sc = true → SE X cl (.BoolOp (bopPy isAnd) (m.py g N) p) (fun ρ S => m.bop T g isAnd ρ S)
  | _, _, .nil, _, _, _, h, _ => by cases h
  | isAnd, p, .cons e .nil, _, _, c, _, h => by
    obtain ⟨h1, h2⟩ := and2 h
    exact se_imp (se_bop1 (isAnd := isAnd) (p := p) (sE e c h1)) fun ρ S => by first | (simp only [Es.bop, bop1]; done) | (simp only [Es.bop, bop1]; rfl)
  | isAnd, p, .cons e (.cons e2 r), _, _, c, _, h => by
    obtain ⟨h1, h2⟩ := and2 h
    exact se_imp (se_bopc (isAnd := isAnd) (p := p) (sE e c h1) (sB isAnd p (.cons e2 r) c rfl h2)) fun ρ S => by
      conv => rhs; rw [Es.bop]
      rfl
termination_by _ _ m => 2 * sizeOf m
decreasing_by all_goals (simp <;> omega)
theorem sBT : ∀ (isAnd : Bool) (p : Pos) (m : Es) {sc : Scope} {X : Cx}, CxOk g N cl T k sc X → m.isNil = false → m.wfT g N sc = true → SW X cl (.BoolOp (bopPy isAnd) (m.py g N) p) (fun ρ S => m.bop T g isAnd ρ S)
  | _, _, .nil, _, _, _, h, _ => by cases h
  | isAnd, p, .cons e .nil, _, _, c, _, h => by
    obtain ⟨h1, h2⟩ := and2 h
    exact sw_imp (sw_bop1 (isAnd := isAnd) (p := p) (sT e c h1)) fun ρ S => by first | (simp only [Es.bop, bop1]; done) | (simp only [Es.bop, bop1]; rfl)
  | isAnd, p, .cons e (.cons e2 r), _, _, c, _, h => by
    obtain ⟨h1, h2⟩ := and2 h
    exact sw_imp (sw_bopc (isAnd := isAnd) (p := p) (sT e c h1) (sBT isAnd p (.cons e2 r) c rfl h2)) fun ρ S => by
      conv => rhs; rw [Es.bop]
      rfl
termination_by _ _ m => 2 * sizeOf m
decreasing_by all_goals (simp <;> omega)
theorem sO : ∀ (m : Eo) {sc : Scope} {X : Cx}, CxOk g N cl T k sc X → m.wf g N sc = true → SO X cl (m.py g N) (m.ev T g)
  | .no, _, _, _, _ => fun ρ S σ H Sh μ Q r de h => so_no ρ S σ H Sh μ Q r de (by simp only [Eo.ev] at h; exact h)
  | .so e, _, _, c, h => fun ρ S σ H Sh μ Q r de q => so_so (sE e c h) ρ S σ H Sh μ Q r de (by simp only [Eo.ev] at q; exact q)
termination_by m => 2 * sizeOf m
decreasing_by all_goals (simp <;> omega)
theorem sI : ∀ (m : Sr) (tg : Tg) {sc : Scope} {X : Cx}, CxOk g N cl T k sc X → m.wf g N tg sc = true → SI X cl (tg.py N) (m.py g N) (m.ev T g)
  | .seq e, tg, _, _, c, h => fun ρ S σ H Sh μ Q r de q => si_seq (sE e c h) ρ S σ H Sh μ Q r de (by simp only [Sr.ev] at q; exact q)
  | .rng es pn p, tg, sc, X, c, h => by
    obtain ⟨h', h3⟩ := and2 h
    obtain ⟨h1, h2⟩ := and2 h'
    obtain ⟨hg, hd, hm⟩ := c.bi h3
    have hl : (es.py g N).length = 1 ∨ (es.py g N).length = 2 ∨ (es.py g N).length = 3 := by
      rw [Es.len_py]
      rw [Bool.or_eq_true, Bool.or_eq_true] at h2
      rcases h2 with (h2 | h2) | h2
      · exact .inl (of_decide_eq_true h2)
      · exact .inr (.inl (of_decide_eq_true h2))
      · exact .inr (.inr (of_decide_eq_true h2))
    exact fun ρ S σ H Sh μ Q r de q => si_rng (plains es h1) hl (sA es c h1) (fun ρ S ws S1 e => by rw [Es.len_py]; exact Es.ev_len es ρ S ws S1 e) hg hm ρ S σ H Sh μ Q r de (by simp only [Sr.ev] at q; exact q)
  | .enum e pn p, tg, sc, X, c, h => by
    obtain ⟨h', h3⟩ := and2 h
    obtain ⟨h1, h2⟩ := and2 h'
    obtain ⟨hg, hd, hm⟩ := c.bi h2
    cases tg with
    | nm _ _ => cases h3
    | tp is kk tp => exact fun ρ S σ H Sh μ Q r de q => si_enum (plain_py e h1) (sE e c h1) hg hm ρ S σ H Sh μ Q r de (by simp only [Sr.ev] at q; exact q)
  | .zip a b pn p, tg, sc, X, c, h => by
    obtain ⟨h', h4⟩ := and2 h
    obtain ⟨h', h3⟩ := and2 h'
    obtain ⟨h1, h2⟩ := and2 h'
    obtain ⟨hg, hd, hm⟩ := c.bi h3
    cases tg with
    | nm _ _ => cases h4
    | tp is kk tp => exact fun ρ S σ H Sh μ Q r de q => si_zip (plain_py a h1) (plain_py b h2) (sE a c h1) (sE b c h2) hg hm ρ S σ H Sh μ Q r de (by simp only [Sr.ev] at q; exact q)
  | .rev e pn p, tg, sc, X, c, h => by
    obtain ⟨h1, h2⟩ := and2 h
    obtain ⟨hg, hd, hm⟩ := c.bi h2
    exact fun ρ S σ H Sh μ Q r de q => si_rev (plain_py e h1) (sE e c h1) hg hm ρ S σ H Sh μ Q r de (by simp only [Sr.ev] at q; exact q)
termination_by m => 2 * sizeOf m
decreasing_by all_goals (simp <;> omega)
theorem sP : ∀ (m : Es) {sc : Scope} {X : Cx}, CxOk g N cl T k sc X → m.wfT g N sc = true → m.len ≤ 1 → SPs X cl (m.py g N) (m.all T g)
  | .nil, _, _, _, _, _ => fun ρ S σ H Sh μ Q r de h h' => sps_nil ρ S σ H Sh μ Q r de (fun b S' e => h b S' (by simp only [Es.all]; exact e)) ⟨true, S, rfl⟩
  | .cons e .nil, _, _, c, h, _ => sps_one (sT e c (and2 h).1) fun ρ S => by
      simp only [Es.all]
      try rfl
  | .cons _ (.cons _ _), _, _, _, _, h => by simp [Es.len] at h
termination_by m => 2 * sizeOf m
decreasing_by all_goals (simp <;> omega)
end
end
end Rf

/-! Rf, part P: statements: their text, their reading. -/
namespace Rf
open PySem PySem.Spec PyProof.Rows L2

mutual
inductive St where
  | set (i : Nat) (e : E) (px p : Pos)
  /-- a, b = e: a tuple, a list -/
  | unp (l : Bool) (tg : Tg) (e : E) (p : Pos)
  | aug (i : Nat) (o : Op) (e : E) (px p : Pos)
  | sfl (o : E) (f : Nat) (e : E) (pa p : Pos)
  | ist (o k e : E) (ps p : Pos)
  /-- o.m(..), its value dropped; x = o.m(..) -/
  | mut (m : Mu) (o : E) (es : Es) (pa pc p : Pos)
  | smu (i : Nat) (m : Mu) (o : E) (es : Es) (pa pc px p : Pos)
  | expr (e : E) (p : Pos)
  | doc (s : Str) (k : Nat) (p p' : Pos)
  | ret (e : E) (p : Pos)
  | retN (p : Pos)
  | ite (c : E) (a b : Ss) (p : Pos)
  | forr (tg : Tg) (src : Sr) (body : Ss) (p : Pos)
  | whl (fuel : Nat) (c : E) (body : Ss) (p : Pos)
  | brk (p : Pos)
  | cont (p : Pos)
  | pass (p : Pos)
  | rai (c : Nat) (m : Str) (k : Nat) (pn p2 pc p : Pos)
  /-- try: body / except C as n: y = n -/
  | tri (body : Ss) (c : Nat) (n y : Nat) (pc py pn pa ph p : Pos)
inductive Ss where
  | nil | cons (s : St) (r : Ss)
  /-- no text: what slot i holds is only read from now on -/
  | frz (i : Nat) (r : Ss)
end

section
variable (g : Sig) (N : List Str)
mutual
def St.py : St → Stmt
  | .set i e px p => .Assign [.Name (nmOf N i) px] (e.py g N) p
  | .unp _ tg e p => .Assign [tg.py N] (e.py g N) p
  | .aug i o e px p => .AugAssign (.Name (nmOf N i) px) o.py (e.py g N) p
  | .sfl o f e pa p => .Assign [.Attribute (o.py g N) (nmOf g.fld f) pa] (e.py g N) p
  | .ist o k e ps p => .Assign [.Subscript (o.py g N) (k.py g N) ps] (e.py g N) p
  | .mut m o es pa pc p => .Expr (.Call (.Attribute (o.py g N) (Str.ofString m.nm) pa) (es.py g N) [] pc) p
  | .smu i m o es pa pc px p => .Assign [.Name (nmOf N i) px] (.Call (.Attribute (o.py g N) (Str.ofString m.nm) pa) (es.py g N) [] pc) p
  | .expr e p => .Expr (e.py g N) p
  | .doc s k p p' => .Expr (.Constant (.str s) k p) p'
  | .ret e p => .Return (some (e.py g N)) p
  | .retN p => .Return none p
  | .ite c a b p => .If (c.py g N) a.py b.py p
  | .forr tg src body p => .For (tg.py N) (src.py g N) body.py [] p
  | .whl _ c body p => .While (c.py g N) body.py [] p
  | .brk p => .Break p
  | .cont p => .Continue p
  | .pass p => .Pass p
  | .rai c m k pn p2 pc p => .Raise (some (.Call (.Name (nmOf g.cnm c) pn) [.Constant (.str m) k p2] [] pc)) none p
  | .tri body c n y pc py pn pa ph p => .Try body.py [.ExceptHandler (some (.Name (nmOf g.cnm c) pc)) (some (nmOf N n)) [.Assign [.Name (nmOf N y) py] (.Name (nmOf N n) pn) pa] ph] [] [] p
def Ss.py : Ss → List Stmt
  | .nil => []
  | .cons s r => s.py :: r.py
  | .frz _ r => r.py
end
end

/-- how a statement ends -/
inductive FR where
  | next (ρ : Env') (S : Store) | ret (w : W) (S : Store) | brk (ρ : Env') (S : Store) | cont (ρ : Env') (S : Store)
  | exc (c : Nat) (ρ : Env') (S : Store) | bad
def lift {α : Type} (ρ : Env') (r : Res α) (f : α → Store → FR) : FR := match r with
  | .ok a S => f a S
  | .exc c S => .exc c ρ S
  | .bad => .bad
def setE (ρ : Env') (i : Nat) (w : W) (S : Store) : FR := if i < ρ.length then .next (ρ.set i (some w)) S else .bad
def augR (o : Op) (x : D) (w : W) (ρ : Env') (i : Nat) (S1 : Store) : FR := match o, x, w with
  | .add, .int a, .t (.int b) => setE ρ i (.t (.int (a + b))) S1
  | .sub, .int a, .t (.int b) => setE ρ i (.t (.int (a - b))) S1
  | _, _, _ => .bad
/-- a dict's entry is written -/
def sameKey (t : Bool) (x k : D) : Bool := if t then decide (x.tkey? = k.tkey?) else decide (x.key? = k.key?)
def putD (t : Bool) (k d : D) (kvs : List (D × D)) : List (D × D) := if kvs.any (fun q => sameKey t q.1 k) then kvs.map (fun q => if sameKey t q.1 k then (q.1, d) else q) else kvs ++ [(k, d)]
def hasKey (t : Bool) (k : D) : Bool := if t then k.tkey?.isSome else k.key?.isSome
/-- an item is stored -/
def istO (o : Ob) (k d : D) : Option Ob := match o, k with
  | .lst ds, .int i => (ixN ds.length i).map fun j => .lst (ds.set j d)
  | .dct t kvs, k => if hasKey t k && decide (kvs.length < sizeLine) then some (.dct t (putD t k d kvs)) else none
  | _, _ => none
/-- a method that changes its object: its value, the object behind it -/
def mutO (m : Mu) (o : Ob) (as : List D) : Option (D × Ob) := match m, o, as with
  | .append, .lst ds, [d] => if ds.length < sizeLine then some (.non, .lst (ds ++ [d])) else none
  | .extend, .lst ds, [d] => match d with
    | .lst zs => if ds.length + zs.length ≤ sizeLine then some (.non, .lst (ds ++ zs)) else none
    | _ => none
  | .pop, .lst ds, [] => (ds[ds.length - 1]?).map fun y => (y, .lst ds.dropLast)
  | .insert, .lst ds, [.int i, d] => if ds.length < sizeLine ∧ 0 ≤ i ∧ i < 2 ^ 63 then some (.non, .lst (ds.take i.toNat ++ [d] ++ ds.drop i.toNat)) else none
  | .reverse, .lst ds, [] => some (.non, .lst ds.reverse)
  | .clear, .lst _, [] => some (.non, .lst [])
  | _, _, _ => none
/-- the arguments of such a method: an extension is read where it lies -/
def mArgs (m : Mu) (S : Store) (ws : List W) : Option (List D) := match m with
  | .extend => rds S ws
  | _ => asTs ws
def isLst (S : Store) : W → Bool
  | .loc n => match get S n with | some (.lst _) => true | _ => false
  | .t _ => false
def mutR (m : Mu) (x : W) (ws : List W) (S : Store) (f : D → Store → FR) : FR := match x with
  | .loc n => match get S n, mArgs m S ws with
    | some o, some ds => match mutO m o ds with
      | some (d, o') => f d (S.set n (some o'))
      | none => .bad
    | _, _ => .bad
  | .t _ => .bad
/-- a tuple's, a list's items -/
def unpD (l : Bool) : D → Option (List D)
  | .tup ds => if l then none else some ds
  | .rt ds => if l then none else some ds
  | .lst ds => if l then some ds else none
  | .ro ds => if l then some ds else none
  | _ => none
def Tg.unp (tg : Tg) (ds : List D) (ρ : Env') : Option Env' := match tg with
  | .tp is _ _ => if is.length = ds.length then Tg.store.go is ds ρ else none
  | .nm _ _ => none
def fors (st : D → Env' → Option Env') (body : Env' → Store → FR) : List D → Env' → Store → FR
  | [], ρ, S => .next ρ S
  | x :: r, ρ, S => match st x ρ with
    | none => .bad
    | some ρ1 => match body ρ1 S with
      | .next ρ2 S2 => fors st body r ρ2 S2
      | .cont ρ2 S2 => fors st body r ρ2 S2
      | .brk ρ2 S2 => .next ρ2 S2
      | .ret w S2 => .ret w S2
      | .exc c ρ2 S2 => .exc c ρ2 S2
      | .bad => .bad
/-- the end of a loop's body -/
def loopR (r : FR) (k : Env' → Store → FR) : FR := match r with
  | .next ρ2 S2 => k ρ2 S2
  | .cont ρ2 S2 => k ρ2 S2
  | .brk ρ2 S2 => .next ρ2 S2
  | .ret w S2 => .ret w S2
  | .exc c ρ2 S2 => .exc c ρ2 S2
  | .bad => .bad
def forsL (st : D → Env' → Option Env') (body : Env' → Store → FR) (it : Wk) : Nat → Nat → Env' → Store → FR
  | 0, _, ρ, S => if itOk it S = true then .next ρ S else .bad
  | k + 1, i, ρ, S => match itAt it S i with
    | none => .bad
    | some x => match st x ρ with
      | none => .bad
      | some ρ1 => loopR (body ρ1 S) (forsL st body it k (i + 1))
def whiles (c : Env' → Store → Res W) (body : Env' → Store → FR) : Nat → Env' → Store → FR
  | 0, _, _ => .bad
  | n + 1, ρ, S => match c ρ S with
    | .ok (.t (.bl true)) S1 => match body ρ S1 with
      | .next ρ2 S2 => whiles c body n ρ2 S2
      | .cont ρ2 S2 => whiles c body n ρ2 S2
      | .brk ρ2 S2 => .next ρ2 S2
      | .ret w S2 => .ret w S2
      | .exc c ρ2 S2 => .exc c ρ2 S2
      | .bad => .bad
    | .ok (.t (.bl false)) S1 => .next ρ S1
    | .exc c S1 => .exc c ρ S1
    | _ => .bad
def frzE (i : Nat) (ρ : Env') (S : Store) (f : Env' → Store → FR) : FR := match (ρ[i]?).getD none with
  | some (.loc n) => match get S n with
    | some o => f (ρ.set i (some (.t o.tree))) (S.set n none)
    | none => .bad
  | some (.t _) => f ρ S
  | none => .bad
/-- what a try's clause makes of an exception -/
def triR (hit : Nat → Option Bool) (n y : Nat) (r : FR) : FR := match r with
  | .exc c ρ S => match hit c with
    | some true => if n < ρ.length ∧ y < ρ.length ∧ n ≠ y then .next ((ρ.set y (some (.t (.exc c)))).set n none) S else .bad
    | some false => .exc c ρ S
    | none => .bad
  | r => r

section
variable (T : Nat → List W → Store → Res W) (g : Sig)
mutual
def St.ev : St → Env' → Store → FR
  | .set i e _ _, ρ, S => lift ρ (e.ev T g ρ S) fun w S1 => setE ρ i w S1
  | .unp l tg e _, ρ, S => lift ρ (e.ev T g ρ S) fun w S1 => match rd S1 w with
    | some d => match unpD l d with
      | some ds => match tg.unp ds ρ with | some ρ1 => .next ρ1 S1 | none => .bad
      | none => .bad
    | none => .bad
  | .aug i o e _ _, ρ, S => match (ρ[i]?).getD none with
    | some (.t x) => lift ρ (e.ev T g ρ S) fun w S1 => augR o x w ρ i S1
    | _ => .bad
  | .sfl o f e _ _, ρ, S => lift ρ (e.ev T g ρ S) fun w S1 => lift ρ (o.ev T g ρ S1) fun x S2 => match x, w with
    | .loc n, .t d => match get S2 n with
      | some (.ins c fs) => if g.na.contains (c, f) && decide (fs.length < 1000) then .next ρ (S2.set n (some (.ins c (putFD f d fs)))) else .bad
      | _ => .bad
    | _, _ => .bad
  | .ist o k e _ _, ρ, S => lift ρ (e.ev T g ρ S) fun w S1 => lift ρ (o.ev T g ρ S1) fun x S2 => lift ρ (k.ev T g ρ S2) fun y S3 => match x, y, w with
    | .loc n, .t dk, .t d => match get S3 n with
      | some ob => match istO ob dk d with | some ob' => .next ρ (S3.set n (some ob')) | none => .bad
      | none => .bad
    | _, _, _ => .bad
  | .mut m o es _ _ _, ρ, S => lift ρ (o.ev T g ρ S) fun x S1 => if isLst S1 x then lift ρ (es.ev T g ρ S1) fun ws S2 => mutR m x ws S2 fun _ S3 => .next ρ S3 else .bad
  | .smu i m o es _ _ _ _, ρ, S => lift ρ (o.ev T g ρ S) fun x S1 => if isLst S1 x then lift ρ (es.ev T g ρ S1) fun ws S2 => mutR m x ws S2 fun d S3 => setE ρ i (.t d) S3 else .bad
  | .expr e _, ρ, S => lift ρ (e.ev T g ρ S) fun _ S1 => .next ρ S1
  | .doc _ _ _ _, ρ, S => .next ρ S
  | .ret e _, ρ, S => lift ρ (e.ev T g ρ S) fun w S1 => .ret w S1
  | .retN _, ρ, S => .ret (.t .non) S
  | .ite c a b _, ρ, S => lift ρ (c.ev T g ρ S) fun w S1 => match w with
    | .t (.bl true) => a.ev ρ S1
    | .t (.bl false) => b.ev ρ S1
    | _ => .bad
  | .forr tg src body _, ρ, S => lift ρ (src.ev T g ρ S) fun items S1 => forsL (fun x ρ => tg.store x ρ) (fun ρ S => body.ev ρ S) items items.1.length 0 ρ S1
  | .whl n c body _, ρ, S => whiles (fun ρ S => c.ev T g ρ S) (fun ρ S => body.ev ρ S) n ρ S
  | .brk _, ρ, S => .brk ρ S
  | .cont _, ρ, S => .cont ρ S
  | .pass _, ρ, S => .next ρ S
  | .rai c _ _ _ _ _ _, ρ, S => .exc c ρ S
  | .tri body c n y _ _ _ _ _ _, ρ, S => triR (fun c' => g.hit c' c) n y (body.ev ρ S)
def Ss.ev : Ss → Env' → Store → FR
  | .nil, ρ, S => .next ρ S
  | .cons s r, ρ, S => match s.ev ρ S with
    | .next ρ1 S1 => r.ev ρ1 S1
    | .ret w S1 => .ret w S1
    | .brk ρ1 S1 => .brk ρ1 S1
    | .cont ρ1 S1 => .cont ρ1 S1
    | .exc c ρ1 S1 => .exc c ρ1 S1
    | .bad => .bad
  | .frz i r, ρ, S => frzE i ρ S fun ρ1 S1 => r.ev ρ1 S1
end
end

/-! ### what a statement promises -/
section
variable {X : Cx} {cl : Nm}
def PostS (X : Cx) (cl : Nm) (Sh : Hp) (μ : List Addr) (D : Ends) : FR → Prop
  | .next ρ S => ∀ σ' H' Sh' μ', Step Sh μ Sh' μ' → Rel X.K cl Sh' H' μ' S → DenE X.K cl Sh' μ' σ' ρ → D.nx σ' H'
  | .brk ρ S => ∀ σ' H' Sh' μ', Step Sh μ Sh' μ' → Rel X.K cl Sh' H' μ' S → DenE X.K cl Sh' μ' σ' ρ → D.bk σ' H'
  | .cont ρ S => ∀ σ' H' Sh' μ', Step Sh μ Sh' μ' → Rel X.K cl Sh' H' μ' S → DenE X.K cl Sh' μ' σ' ρ → D.ct σ' H'
  | .ret w S => ∀ v H' Sh' μ', Step Sh μ Sh' μ' → Rel X.K cl Sh' H' μ' S → DenW X.K cl Sh' μ' v w → D.rt v H'
  | .exc c ρ S => ∃ W : WX, Takes X W ∧ ∀ σ' H' Sh' μ', Step Sh μ Sh' μ' → Rel X.K cl Sh' H' μ' S → DenE X.K cl Sh' μ' σ' ρ → W (.ref (cl.cl c)) none σ' H'
  | .bad => False
def SS (X : Cx) (cl : Nm) (st : Stmt) (f : Env' → Store → FR) : Prop :=
  ∀ ρ S σ H Sh μ D, Rel X.K cl Sh H μ S → DenE X.K cl Sh μ σ ρ → PostS X cl Sh μ D (f ρ S) → WS X st D σ H
def SSs (X : Cx) (cl : Nm) (st : List Stmt) (f : Env' → Store → FR) : Prop :=
  ∀ ρ S σ H Sh μ D, Rel X.K cl Sh H μ S → DenE X.K cl Sh μ σ ρ → PostS X cl Sh μ D (f ρ S) → WSs X st D σ H
theorem PostS.mono {Sh Sh' : Hp} {μ μ' : List Addr} {D : Ends} {r : FR} (s : Step Sh μ Sh' μ') (h : PostS X cl Sh μ D r) : PostS X cl Sh' μ' D r := by
  cases r with
  | next ρ S => exact fun σ1 H1 Sh1 μ1 s1 r d => h σ1 H1 Sh1 μ1 (s.trans s1) r d
  | brk ρ S => exact fun σ1 H1 Sh1 μ1 s1 r d => h σ1 H1 Sh1 μ1 (s.trans s1) r d
  | cont ρ S => exact fun σ1 H1 Sh1 μ1 s1 r d => h σ1 H1 Sh1 μ1 (s.trans s1) r d
  | ret w S => exact fun v H1 Sh1 μ1 s1 r d => h v H1 Sh1 μ1 (s.trans s1) r d
  | exc c ρ S => obtain ⟨W, t, k⟩ := h; exact ⟨W, t, fun σ1 H1 Sh1 μ1 s1 r d => k σ1 H1 Sh1 μ1 (s.trans s1) r d⟩
  | bad => exact h
/-- an expression within a statement -/
theorem PostS.lift {α β : Type} {Sh : Hp} {μ : List Addr} {D : Ends} {ρ : Env'} {σ : L2.St} {R : Hp → List Addr → β → α → Prop} {r : Res α} {f : α → Store → FR} (de : DenE X.K cl Sh μ σ ρ) (h : PostS X cl Sh μ D (Rf.lift ρ r f)) :
    GR X cl σ Sh μ R (fun b H1 => ∃ Sh1 μ1 a S1, Step Sh μ Sh1 μ1 ∧ Rel X.K cl Sh1 H1 μ1 S1 ∧ R Sh1 μ1 b a ∧ PostS X cl Sh1 μ1 D (f a S1)) r := by
  cases r with
  | ok a S => exact fun b H1 Sh1 μ1 s1 rl q => ⟨Sh1, μ1, a, S, s1, rl, q, PostS.mono s1 h⟩
  | exc c S => obtain ⟨W, t, k⟩ := h; exact ⟨W, t, fun H1 Sh1 μ1 s1 rl => k σ H1 Sh1 μ1 s1 rl (de.step s1)⟩
  | bad => exact h
theorem PostS.nx {Sh H : Hp} {μ : List Addr} {D : Ends} {ρ : Env'} {S : Store} {σ : L2.St} (h : PostS X cl Sh μ D (.next ρ S)) (r : Rel X.K cl Sh H μ S) (de : DenE X.K cl Sh μ σ ρ) : D.nx σ H := h σ H Sh μ (Step.refl _ _) r de
theorem PostS.setE {Sh H : Hp} {μ : List Addr} {D : Ends} {ρ : Env'} {S : Store} {σ : L2.St} {i : Nat} {w : W} {v : V} (h : PostS X cl Sh μ D (Rf.setE ρ i w S)) (r : Rel X.K cl Sh H μ S) (de : DenE X.K cl Sh μ σ ρ) (q : DenW X.K cl Sh μ v w) : D.nx (σ.set i (some v)) H := by
  unfold Rf.setE at h
  split at h
  · exact h.nx r (de.set q)
  · exact h.elim
theorem pss_of {sts : List Stmt} {D : Ends} {σ : L2.St} {H : Hp} (h : WSs X sts D σ H) : WSs X sts D σ H := h
end
end Rf

/-! Rf, part Q: the readings of the plain statements are right. -/
namespace Rf
open PySem PySem.Spec PyProof.Rows L2
section
variable {X : Cx} {cl : Nm} {N : List Str}
theorem ss_imp {st : Stmt} {f f' : Env' → Store → FR} (h : SS X cl st f) (q : ∀ ρ S, f ρ S = f' ρ S) : SS X cl st f' := by
  have : f = f' := by funext ρ S; exact q ρ S
  rw [← this]; exact h
theorem sss_imp {st : List Stmt} {f f' : Env' → Store → FR} (h : SSs X cl st f) (q : ∀ ρ S, f ρ S = f' ρ S) : SSs X cl st f' := by
  have : f = f' := by funext ρ S; exact q ρ S
  rw [← this]; exact h
theorem ss_set {e : Expr} {f : Env' → Store → Res W} {i : Nat} {x : Str} {px p : Pos} (hN : X.N.Nodup) (hi : X.N[i]? = some x) (hx : Loc X.env.scope x) (hf : X.fn x = true ∨ X.env.scope.names.lookup x = some .local) (he : SE X cl e f)
    (hs : swapsWith e (some (.Name x px)) p.line X.env = pure false) : SS X cl (.Assign [.Name x px] e p) (fun ρ S => lift ρ (f ρ S) fun w S1 => setE ρ i w S1) := by
  intro ρ S σ H Sh μ D r de h
  refine WS.of (ps_set hN hi hx pe_W hs hf) (he ρ S σ H Sh μ _ r de (GR.imp ?_ (PostS.lift (R := DenW X.K cl) de h)))
  rintro v H1 ⟨Sh1, μ1, w, S1, s1, r1, d1, g1⟩
  exact g1.setE r1 (de.step s1) d1
theorem ss_expr {e : Expr} {f : Env' → Store → Res W} {p : Pos} (he : SE X cl e f) (hs : swapsWith e none p.line X.env = pure false) : SS X cl (.Expr e p) (fun ρ S => lift ρ (f ρ S) fun _ S1 => .next ρ S1) := by
  intro ρ S σ H Sh μ D r de h
  refine WS.of (ps_expr pe_W hs) (he ρ S σ H Sh μ _ r de (GR.imp ?_ (PostS.lift (R := DenW X.K cl) de h)))
  rintro v H1 ⟨Sh1, μ1, w, S1, s1, r1, d1, g1⟩
  exact g1.nx r1 (de.step s1)
theorem ss_ret {e : Expr} {f : Env' → Store → Res W} {p : Pos} (he : SE X cl e f) : SS X cl (.Return (some e) p) (fun ρ S => lift ρ (f ρ S) fun w S1 => .ret w S1) := by
  intro ρ S σ H Sh μ D r de h
  refine WS.of (ps_ret pe_W) (he ρ S σ H Sh μ _ r de (GR.imp ?_ (PostS.lift (R := DenW X.K cl) de h)))
  rintro v H1 ⟨Sh1, μ1, w, S1, s1, r1, d1, g1⟩
  exact g1 v H1 Sh1 μ1 (Step.refl _ _) r1 d1
theorem ss_retN {p : Pos} : SS X cl (.Return none p) (fun ρ S => .ret (.t .non) S) := fun ρ S σ H Sh μ D r de h => WS.of ps_retN (h .non H Sh μ (Step.refl _ _) r Den.non)
theorem ss_pass {p : Pos} : SS X cl (.Pass p) (fun ρ S => .next ρ S) := fun ρ S σ H Sh μ D r de h => WS.of ps_pass (h.nx r de)
theorem ss_doc {x : Str} {k : Nat} {p p' : Pos} : SS X cl (.Expr (.Constant (.str x) k p) p') (fun ρ S => .next ρ S) := fun ρ S σ H Sh μ D r de h => WS.of ps_doc (h.nx r de)
theorem ss_brk {p : Pos} : SS X cl (.Break p) (fun ρ S => .brk ρ S) := fun ρ S σ H Sh μ D r de h => WS.of ps_break (h σ H Sh μ (Step.refl _ _) r de)
theorem ss_cont {p : Pos} : SS X cl (.Continue p) (fun ρ S => .cont ρ S) := fun ρ S σ H Sh μ D r de h => WS.of ps_continue (h σ H Sh μ (Step.refl _ _) r de)
theorem sss_nil : SSs X cl [] (fun ρ S => .next ρ S) := fun ρ S σ H Sh μ D r de h => WSs.of pss_nil (h.nx r de)
theorem sss_cons {st : Stmt} {rest : List Stmt} {f fr : Env' → Store → FR} (h1 : SS X cl st f) (h2 : SSs X cl rest fr) : SSs X cl (st :: rest) (fun ρ S => match f ρ S with
    | .next ρ1 S1 => fr ρ1 S1
    | .ret w S1 => .ret w S1
    | .brk ρ1 S1 => .brk ρ1 S1
    | .cont ρ1 S1 => .cont ρ1 S1
    | .exc c ρ1 S1 => .exc c ρ1 S1
    | .bad => .bad) := by
  intro ρ S σ H Sh μ D r de h
  refine WSs.of (pss_cons ps_W pss_W) (h1 ρ S σ H Sh μ _ r de ?_)
  dsimp only at h
  cases e : f ρ S with
  | next ρ1 S1 =>
    rw [e] at h
    intro σ' H' Sh' μ' s r' de'
    exact h2 ρ1 S1 σ' H' Sh' μ' D r' de' (PostS.mono s h)
  | ret w S1 => rw [e] at h; exact h
  | brk ρ1 S1 => rw [e] at h; exact h
  | cont ρ1 S1 => rw [e] at h; exact h
  | exc c ρ1 S1 => rw [e] at h; exact h
  | bad => rw [e] at h; exact h
theorem DenE.at {K : PySem.W.Frag} {Sh : Hp} {μ : List Addr} {σ : L2.St} {ρ : Env'} {i : Nat} {w : W} (h : DenE K cl Sh μ σ ρ) (e : (ρ[i]?).getD none = some w) : ∃ v, σ[i]? = some (some v) ∧ DenW K cl Sh μ v w := by
  cases q : ρ[i]? with
  | none => rw [q] at e; cases e
  | some o => rw [q] at e; cases e; exact h.get i w q
/-- a slot's object is only read from now on -/
theorem sss_frz {rest : List Stmt} {i : Nat} {fr : Env' → Store → FR} (hr : SSs X cl rest fr) : SSs X cl rest (fun ρ S => frzE i ρ S fr) := by
  intro ρ S σ H Sh μ D r de h
  dsimp only [frzE] at h
  cases e : (ρ[i]?).getD none with
  | none => rw [e] at h; exact h.elim
  | some w =>
    rw [e] at h
    cases w with
    | t d => exact hr ρ S σ H Sh μ D r de h
    | loc n =>
      dsimp only at h
      cases hg : get S n with
      | none => rw [hg] at h; exact h.elim
      | some o =>
        rw [hg] at h
        obtain ⟨v, ev, a, ea, rfl⟩ := de.at e
        obtain ⟨u, h1, h2, _, h4, h5⟩ := ob_den r hg ea
        have rk := (r.kill (n := n)).share h1 h2 (fun m ob c hm hc hz => by
          subst hz
          rcases get_set hm with ⟨_, z⟩ | ⟨hne, hm'⟩
          · cases z
          · exact hne (r.inj m n c ob o hc ea hm' hg))
        have st : Step Sh μ (upd Sh a u) μ := ⟨h5, fun _ _ q => q⟩
        refine hr _ _ σ H _ μ D rk ⟨?_, fun j w hw => ?_⟩ (PostS.mono st h)
        · rw [List.length_set]; exact de.len
        · by_cases hj : j = i
          · subst hj
            have hl : j < ρ.length := by
              by_cases y : j < ρ.length
              · exact y
              · rw [List.getElem?_eq_none (by simpa using y)] at e; cases e
            rw [List.getElem?_set_self hl] at hw
            cases hw
            exact ⟨_, ev, h4⟩
          · rw [List.getElem?_set_ne (Ne.symm hj)] at hw
            exact (de.step st).get j w hw
theorem ss_ite {c : Expr} {a b : List Stmt} {p : Pos} {fc : Env' → Store → Res W} {fa fb : Env' → Store → FR} (hc : ST X cl c fc) (ha : SSs X cl a fa) (hb : SSs X cl b fb) : SS X cl (.If c a b p) (fun ρ S => lift ρ (fc ρ S) fun w S1 => match w with
    | .t (.bl true) => fa ρ S1
    | .t (.bl false) => fb ρ S1
    | _ => .bad) := by
  intro ρ S σ H Sh μ D r de h
  refine WS.of (ps_if pt_W pss_W pss_W) (hc ρ S σ H Sh μ _ r de (GR.imp ?_ (PostS.lift (R := DenW X.K cl) de h)))
  rintro v H1 ⟨Sh1, μ1, w, S1, s1, r1, d1, g1⟩
  split at g1
  · exact ⟨true, den_bl d1, by rw [if_pos rfl]; exact ha ρ S1 σ H1 Sh1 μ1 D r1 (de.step s1) g1⟩
  · exact ⟨false, den_bl d1, by rw [if_neg Bool.false_ne_true]; exact hb ρ S1 σ H1 Sh1 μ1 D r1 (de.step s1) g1⟩
  · exact g1.elim
end
end Rf

/-! Rf, part R: unpacking, fields, items, methods that change, raise. -/
namespace Rf
open PySem PySem.Spec PyProof.Rows L2
section
variable {X : Cx} {cl : Nm} {N : List Str}
/-! ### unpacking -/
theorem unp_ok {l : Bool} {is : List (Nat × Pos)} {kk : Nat} {p : Pos} (ok : TgOk X N (.tp is kk p)) {Sh H : Hp} {μ : List Addr} {S : Store} {σ : L2.St} {ρ ρ2 : Env'} {v : V} {d : D} {ds : List D} {Q : L2.St → Hp → Prop} (r : Rel X.K cl Sh H μ S) (de : DenE X.K cl Sh μ σ ρ)
    (h : DenR X.K cl Sh H v d) (e : unpD l d = some ds) (hl : is.length = ds.length) (hs : Tg.store.go is ds ρ = some ρ2) (k : ∀ σ2, DenE X.K cl Sh μ σ2 ρ2 → Q σ2 H) : WG X (.Tuple (is.map fun q => .Name (nmOf N q.1) q.2) kk p) v σ H Q := by
  have pgs := pgs_all is ok.nd ok.n (fun i hi => ok.lt i hi) (fun i hi => ok.loc i hi)
  have tupl : ∀ {a : Addr} {xs : List V}, v = .ref a → SqT X.K H a xs → Dens X.K cl Sh xs ds → WG X (.Tuple (is.map fun q => .Name (nmOf N q.1) q.2) kk p) v σ H Q := fun {a xs} hv hq dd =>
    WG.of (pg_tup (n := is.length) ok.calm pgs (len_names X.env is) (findIdx_names X.env is)) ⟨a, xs, hv, hq, by rw [dd.length]; exact hl.symm, by rw [dd.length]; exact hl.symm, k _ (setAll_ok is dd de hs)⟩
  have list : ∀ {a : Addr} {xs : List V}, v = .ref a → SqL X.K H a xs → Dens X.K cl Sh xs ds → WG X (.Tuple (is.map fun q => .Name (nmOf N q.1) q.2) kk p) v σ H Q := fun {a xs} hv hq dd =>
    WG.of (pg_lst (n := is.length) ok.calm pgs (len_names X.env is) (findIdx_names X.env is)) ⟨a, xs, hv, hq, by rw [dd.length]; exact hl.symm, by rw [dd.length]; exact hl.symm, k _ (setAll_ok is dd de hs)⟩
  cases d with
  | tup xs =>
    simp only [unpD] at e
    cases l <;> simp at e
    subst e
    rcases h with h | ⟨a, o, rfl, q, e⟩
    · cases h with | tup h d => exact tupl rfl (.inl (.inl (r.sub _ _ h))) d
    · cases o <;> cases e
  | rt xs =>
    simp only [unpD] at e
    cases l <;> simp at e
    subst e
    rcases h with h | ⟨a, o, rfl, q, e⟩
    · cases h with | rt h d => exact tupl rfl (same_seqT r.sub h) d
    · cases o <;> cases e
  | lst xs =>
    simp only [unpD] at e
    cases l <;> simp at e
    subst e
    obtain ⟨a, vs, rfl, h2, h3⟩ := h.lsts r.sub (ds := xs) rfl
    exact list rfl h2 h3
  | ro xs =>
    simp only [unpD] at e
    cases l <;> simp at e
    subst e
    obtain ⟨a, vs, rfl, h2, h3⟩ := h.lsts r.sub (ds := xs) rfl
    exact list rfl h2 h3
  | _ => cases e
theorem ss_unp {l : Bool} {e : Expr} {f : Env' → Store → Res W} {tg : Tg} {p : Pos} (ok : TgOk X N tg) (he : SE X cl e f) (hs : swapsWithSole [tg.py N] e p.line X.env = pure false) (hw : swappedStores [tg.py N] e X.env = pure none) :
    SS X cl (.Assign [tg.py N] e p) (fun ρ S => lift ρ (f ρ S) fun w S1 => match rd S1 w with
    | some d => match unpD l d with
      | some ds => match tg.unp ds ρ with | some ρ1 => .next ρ1 S1 | none => .bad
      | none => .bad
    | none => .bad) := by
  intro ρ S σ H Sh μ D r de h
  have h1 : (assignEach [tg.py N] X.env).map (·.2) = [assign (tg.py N) X.env] := by cases tg <;> rfl
  refine WS.of (ps_asg pe_W pg_W hs hw h1) (he ρ S σ H Sh μ _ r de (GR.imp ?_ (PostS.lift (R := DenW X.K cl) de h)))
  rintro v H1 ⟨Sh1, μ1, w, S1, s1, r1, d1, g1⟩
  split at g1
  · rename_i d e1
    split at g1
    · rename_i ds e2
      split at g1
      · rename_i ρ1 e3
        cases tg with
        | nm _ _ => cases e3
        | tp is kk pp =>
          simp only [Tg.unp] at e3
          split at e3
          · rename_i hl
            exact unp_ok ok r1 (de.step s1) (r1.rd e1 d1) e2 hl e3 fun σ2 de2 => g1.nx r1 de2
          · cases e3
      · exact g1.elim
    · exact g1.elim
  · exact g1.elim

/-! ### a field is stored -/
theorem ss_sfl {eo e : Expr} {fo f : Env' → Store → Res W} {fi : Nat} {x : Str} {pa p : Pos} {na : List (Nat × Nat)} (ho : SE X cl eo fo) (he : SE X cl e f) (hs : swapsWith e (some (.Attribute eo x pa)) p.line X.env = pure false)
    (hx : cl.fn fi = x) (hna : ∀ c, (c, fi) ∈ na → Cls X.K (cl.cl c) ∧ NoAttr X.K (cl.cl c) (cl.fn fi)) :
    SS X cl (.Assign [.Attribute eo x pa] e p) (fun ρ S => lift ρ (f ρ S) fun w S1 => lift ρ (fo ρ S1) fun x S2 => match x, w with
    | .loc n, .t d => match get S2 n with
      | some (.ins c fs) => if na.contains (c, fi) && decide (fs.length < 1000) then .next ρ (S2.set n (some (.ins c (putFD fi d fs)))) else .bad
      | _ => .bad
    | _, _ => .bad) := by
  intro ρ S σ H Sh μ D r de h
  refine WS.of (ps_fld pe_W pe_W hs) (he ρ S σ H Sh μ _ r de (GR.imp ?_ (PostS.lift (R := DenW X.K cl) de h)))
  rintro v H1 ⟨Sh1, μ1, w, S1, s1, r1, d1, g1⟩
  refine ho ρ S1 σ H1 Sh1 μ1 _ r1 (de.step s1) (GR.imp ?_ (PostS.lift (R := DenW X.K cl) (de.step s1) g1))
  rintro y H2 ⟨Sh2, μ2, w2, S2, s2, r2, d2, g2⟩
  split at g2
  · rename_i n d
    cases hg : get S2 n with
    | none => rw [hg] at g2; exact g2.elim
    | some o =>
      rw [hg] at g2
      cases o with
      | lst _ => exact g2.elim
      | dct _ _ => exact g2.elim
      | ins c fs =>
        dsimp only at g2
        split at g2
        · rename_i hc
          obtain ⟨hc1, hc2⟩ := and2 hc
          obtain ⟨k1, k2⟩ := hna c (by simpa using hc1)
          obtain ⟨a, ea, rfl⟩ := d2
          obtain ⟨b, e1, e2, dx, es, e3, e4⟩ := r2.obj n _ hg
          rw [ea] at e1; cases e1
          rw [hx] at k2
          have dv : Den X.K cl Sh2 v d := Den.mono s2.sh d1
          refine ⟨a, cl.cl c, dx, es, rfl, e3, k1, k2, by rw [e4.length]; exact of_decide_eq_true hc2, ?_⟩
          rw [← hx]
          exact g2.nx (r2.write (u := .ins (cl.cl c) dx (putF (cl.fn fi) v es)) hg ea ⟨dx, _, upd_same, e4.put dv⟩) ((de.step s1).step s2)
        · exact g2.elim
  · exact g2.elim

/-! ### an item is stored -/
def bestSet (X : Cx) : TSet := fun o i v H Q => ∃ r, PSet X r ∧ r o i v H Q
theorem bestSet_ok : PSet X (bestSet X) := fun pins s σ H o i v ov iv u Q I ro ri rv ⟨_, hs, h⟩ => hs pins s σ H o i v ov iv u Q I ro ri rv h
theorem DenK.put {K : PySem.W.Frag} {Sh : Hp} {v : V} {d k : D} {q : Key} (hk : k.key? = some q) (dv : Den K cl Sh v d) : ∀ {es : List (Key × V)} {kvs : List (D × D)}, DenK K cl Sh es kvs →
    (es.any fun kv => decide (kv.1 = q)) = (kvs.any fun z => sameKey false z.1 k) ∧ DenK K cl Sh (es.map fun kv => if kv.1 = q then (kv.1, v) else kv) (kvs.map fun z => if sameKey false z.1 k then (z.1, d) else z) ∧ ∀ w u, Den K cl Sh w u → DenK K cl Sh (es ++ [(q, w)]) (kvs ++ [(keyD q, u)])
  | _, _, .nil => ⟨rfl, .nil, fun w u h => .cons h .nil⟩
  | _, _, .cons (k := k2) (v := u) (d := du) hu r => by
    obtain ⟨i1, i2, i3⟩ := DenK.put hk dv r
    have e : (keyD k2).key? = some k2 := by cases k2 <;> rfl
    have e2 : sameKey false (keyD k2) k = decide (k2 = q) := by
      unfold sameKey
      rw [if_neg Bool.false_ne_true, e, hk]
      by_cases z : k2 = q
      · rw [z]; simp
      · rw [decide_eq_false z, decide_eq_false (fun y => z (Option.some.inj y))]
    refine ⟨?_, ?_, fun w u' h => .cons hu (i3 w u' h)⟩
    · rw [List.any_cons, List.any_cons, i1, e2]
    · rw [List.map_cons, List.map_cons]
      by_cases z : k2 = q
      · rw [if_pos z, if_pos (by rw [e2]; exact decide_eq_true z)]; exact .cons dv i2
      · rw [if_neg z, if_neg (by rw [e2]; simp [z])]; exact .cons hu i2
theorem putK_den {K : PySem.W.Frag} {Sh : Hp} {v : V} {d k : D} {q : Key} (hk : k.key? = some q) (hd : k = keyD q) (dv : Den K cl Sh v d) {es : List (Key × V)} {kvs : List (D × D)} (h : DenK K cl Sh es kvs) : DenK K cl Sh (putK es q v) (putD false k d kvs) := by
  obtain ⟨h1, h2, h3⟩ := h.put hk dv
  unfold putK putD
  rw [h1]
  split
  · exact h2
  · rw [hd]; exact h3 v d dv
theorem keys_of : ∀ {ds : List D} {ks : List Key}, keys? ds = some ks → ds = ks.map keyD
  | [], _, e => by cases e; rfl
  | d :: r, ks, e => by
    simp only [keys?] at e
    split at e
    · rename_i k ks' e1 e2
      cases e
      rw [keys_of e2]
      cases d <;> simp [D.key?] at e1 <;> subst e1 <;> rfl
    · cases e
theorem keys_map : ∀ (ks : List Key), keys? (ks.map keyD) = some ks
  | [] => rfl
  | k :: r => by
    simp only [List.map_cons, keys?]
    rw [keys_map r]
    cases k <;> rfl
theorem DenT.put {K : PySem.W.Frag} {Sh : Hp} {v : V} {d k : D} {q : List Key} (hk : k.tkey? = some q) (dv : Den K cl Sh v d) : ∀ {es : List (List Key × V)} {kvs : List (D × D)}, DenT K cl Sh es kvs →
    (es.any fun kv => decide (kv.1 = q)) = (kvs.any fun z => sameKey true z.1 k) ∧ DenT K cl Sh (es.map fun kv => if kv.1 = q then (kv.1, v) else kv) (kvs.map fun z => if sameKey true z.1 k then (z.1, d) else z) ∧ ∀ w u, Den K cl Sh w u → DenT K cl Sh (es ++ [(q, w)]) (kvs ++ [(.tup (q.map keyD), u)])
  | _, _, .nil => ⟨rfl, .nil, fun w u h => .cons h .nil⟩
  | _, _, .cons (k := k2) (v := u) (d := du) hu r => by
    obtain ⟨i1, i2, i3⟩ := DenT.put hk dv r
    have e : (D.tup (k2.map keyD)).tkey? = some k2 := keys_map k2
    have e2 : sameKey true (.tup (k2.map keyD)) k = decide (k2 = q) := by
      unfold sameKey
      rw [if_pos rfl, e, hk]
      by_cases z : k2 = q
      · rw [z]; simp
      · rw [decide_eq_false z, decide_eq_false (fun y => z (Option.some.inj y))]
    refine ⟨?_, ?_, fun w u' h => .cons hu (i3 w u' h)⟩
    · rw [List.any_cons, List.any_cons, i1, e2]
    · rw [List.map_cons, List.map_cons]
      by_cases z : k2 = q
      · rw [if_pos z, if_pos (by rw [e2]; exact decide_eq_true z)]; exact .cons dv i2
      · rw [if_neg z, if_neg (by rw [e2]; simp [z])]; exact .cons hu i2
theorem putT_den {K : PySem.W.Frag} {Sh : Hp} {v : V} {d k : D} {q : List Key} (hk : k.tkey? = some q) (hd : k = .tup (q.map keyD)) (dv : Den K cl Sh v d) {es : List (List Key × V)} {kvs : List (D × D)} (h : DenT K cl Sh es kvs) : DenT K cl Sh (putK es q v) (putD true k d kvs) := by
  obtain ⟨h1, h2, h3⟩ := h.put hk dv
  unfold putK putD
  rw [h1]
  split
  · exact h2
  · rw [hd]; exact h3 v d dv
theorem DenK.length {K : PySem.W.Frag} {H : Hp} : ∀ {v : List (Key × V)} {d : List (D × D)}, DenK K cl H v d → v.length = d.length
  | _, _, .nil => rfl
  | _, _, .cons _ r => congrArg (· + 1) r.length
theorem DenT.length {K : PySem.W.Frag} {H : Hp} : ∀ {v : List (List Key × V)} {d : List (D × D)}, DenT K cl H v d → v.length = d.length
  | _, _, .nil => rfl
  | _, _, .cons _ r => congrArg (· + 1) r.length
theorem kmap (ks : List Key) : ks.map kV = ks.map kV := rfl
theorem den_keys {K : PySem.W.Frag} {H : Hp} : ∀ {ks : List Key} {vs : List V}, Dens K cl H vs (ks.map keyD) → vs = ks.map kV
  | [], _, .nil => rfl
  | k :: r, _, .cons h t => by
    rw [den_keys t]
    cases k with
    | inl i => cases h; rfl
    | inr x => cases h; rfl
def AsgSub (o i : Expr) (pos : Pos) (env : Env) : Prop := ∀ v, assign (.Subscript o i pos) env v = (do
      let ov ← holding [v] (eval o env)
      let iv ← holding [v, ov] (eval i env)
      standAt pos
      holding [v, ov, iv] (setItem ov iv v)
      release [v, ov, iv] [])
theorem ss_ist {eo ek e : Expr} {fo fk f : Env' → Store → Res W} {ps p : Pos} (hu : X.A.units + 64 < cLine) (ho : SE X cl eo fo) (hk : SE X cl ek fk) (he : SE X cl e f) (hs : swapsWithSole [.Subscript eo ek ps] e p.line X.env = pure false)
    (has : AsgSub eo ek ps X.env) :
    SS X cl (.Assign [.Subscript eo ek ps] e p) (fun ρ S => lift ρ (f ρ S) fun w S1 => lift ρ (fo ρ S1) fun x S2 => lift ρ (fk ρ S2) fun y S3 => match x, y, w with
    | .loc n, .t dk, .t d => match get S3 n with
      | some ob => match istO ob dk d with | some ob' => .next ρ (S3.set n (some ob')) | none => .bad
      | none => .bad
    | _, _, _ => .bad) := by
  intro ρ S σ H Sh μ D r de h
  refine WS.of (ps_asg pe_W (pg_sub pe_W pe_W bestSet_ok has) hs) (he ρ S σ H Sh μ _ r de (GR.imp ?_ (PostS.lift (R := DenW X.K cl) de h)))
  rintro v H1 ⟨Sh1, μ1, w, S1, s1, r1, d1, g1⟩
  refine ho ρ S1 σ H1 Sh1 μ1 _ r1 (de.step s1) (GR.imp ?_ (PostS.lift (R := DenW X.K cl) (de.step s1) g1))
  rintro x H2 ⟨Sh2, μ2, w2, S2, s2, r2, d2, g2⟩
  refine hk ρ S2 σ H2 Sh2 μ2 _ r2 ((de.step s1).step s2) (GR.imp ?_ (PostS.lift (R := DenW X.K cl) ((de.step s1).step s2) g2))
  rintro y H3 ⟨Sh3, μ3, w3, S3, s3, r3, d3, g3⟩
  split at g3
  · rename_i n dk d
    cases hg : get S3 n with
    | none => rw [hg] at g3; exact g3.elim
    | some ob =>
      rw [hg] at g3
      dsimp only at g3
      cases hi : istO ob dk d with
      | none => rw [hi] at g3; exact g3.elim
      | some ob' =>
        rw [hi] at g3
        obtain ⟨a, ea', rfl⟩ := d2
        have ea := s3.mu _ _ ea'
        obtain ⟨b, e1, e2, e3⟩ := r3.obj n _ hg
        rw [ea] at e1; cases e1
        have dv : Den X.K cl Sh3 v d := Den.mono (s2.sh.trans s3.sh) d1
        have dey := ((de.step s1).step s2).step s3
        have dk' : Den X.K cl Sh3 y dk := d3
        cases ob with
        | ins _ _ => cases hi
        | lst ds =>
          cases dk with
          | int i =>
            obtain ⟨j, ej, rfl⟩ := Option.map_eq_some_iff.mp (show (ixN ds.length i).map (fun j => Ob.lst (ds.set j d)) = some ob' from hi)
            obtain ⟨vs, h1, h2⟩ := e3
            refine ⟨_, set_list, a, vs, i, j, rfl, den_int dk', h1, by rw [h2.length]; exact ej, ?_⟩
            exact g3.nx (r3.write hg ea ⟨_, upd_same, h2.set dv j⟩) dey
          | _ => cases hi
        | dct t kvs =>
          have hi' : (if hasKey t dk && decide (kvs.length < sizeLine) then some (Ob.dct t (putD t dk d kvs)) else none) = some ob' := by
            cases dk <;> exact hi
          split at hi'
          · rename_i hc
            cases hi'
            obtain ⟨hc1, hc2⟩ := and2 hc
            have hc2 := of_decide_eq_true hc2
            cases t with
            | false =>
              obtain ⟨q, hq⟩ := Option.isSome_iff_exists.mp (show dk.key?.isSome = true from hc1)
              have hd : dk = keyD q := by cases dk <;> simp [Rf.D.key?] at hq <;> subst hq <;> rfl
              have hy : y = kV q := by
                rw [hd] at dk'
                cases q with
                | inl i => cases dk'; rfl
                | inr x => cases dk'; rfl
              obtain ⟨es, h1, h2⟩ := e3
              refine ⟨_, set_dict (by omega), a, _, rfl, .inl ⟨es, q, h1, hy, by rw [h2.length]; exact hc2, rfl⟩, ?_⟩
              exact g3.nx (r3.write hg ea (o' := .dct false _) ⟨_, upd_same, putK_den hq hd dv h2⟩) dey
            | true =>
              obtain ⟨q, hq⟩ := Option.isSome_iff_exists.mp (show dk.tkey?.isSome = true from hc1)
              cases dk with
              | tup xs =>
                have hd : xs = q.map keyD := keys_of hq
                subst hd
                cases dk' with
                | tup hb dd =>
                  rename_i b' vs'
                  obtain ⟨es, h1, h2⟩ := e3
                  refine ⟨_, set_dict (by omega), a, _, rfl, .inr ⟨es, q, b', h1, rfl, ?_, by rw [h2.length]; exact hc2, rfl⟩, ?_⟩
                  · rw [← den_keys dd]; exact r3.sub _ _ hb
                  · exact g3.nx (r3.write hg ea (o' := .dct true _) ⟨_, upd_same, putT_den (k := .tup (q.map keyD)) hq rfl dv h2⟩) dey
              | _ => cases hq
          · cases hi'
  · exact g3.elim
end
end Rf

/-! Rf, part S: methods that change their list, raise, x op= e. -/
namespace Rf
open PySem PySem.Spec PyProof.Rows L2
def Mu.id : Mu → String
  | .append => "list.append" | .extend => "list.extend" | .pop => "list.pop" | .insert => "list.insert" | .reverse => "list.reverse" | .clear => "list.clear"
section
variable {X : Cx} {cl : Nm} {N : List Str}
def bestMt (X : Cx) (id : String) : V → List V → Hp → VK → Prop := fun x vs H Q => ∃ r, MtR X id r ∧ r x vs H Q
theorem bestMt_ok {id : String} : MtR X id (bestMt X id) := fun pins s σ H x xs v us Q I rx rv ⟨_, hm, h⟩ => hm pins s σ H x xs v us Q I rx rv h
theorem mu_slot (m : Mu) : Slot "list" (Str.ofString m.nm) m.id := by
  cases m
  · exact PySem.F.slot_list_append
  · exact PySem.F.slot_list_extend
  · exact PySem.F.slot_list_pop
  · exact PySem.F.slot_list_insert
  · exact PySem.F.slot_list_reverse
  · exact PySem.F.slot_list_clear
theorem mu_ty (m : Mu) : typeOf (.builtin m.id) = pure (.type "method_descriptor") := by
  cases m
  · exact PySem.F.type_list_append
  · exact PySem.F.type_list_extend
  · exact PySem.F.type_list_pop
  · exact PySem.F.type_list_insert
  · exact PySem.F.type_list_reverse
  · exact PySem.F.type_list_clear
theorem mut_pe {m : Mu} {o e : Expr} {es : List Expr} {pa pc : Pos} (hp : Plain o) (hps : ∀ y ∈ e :: es, Plain y) (hl : es.length < 20) (hline : (pa.endLine == pc.line) = true) :
    PE X (.Call (.Attribute o (Str.ofString m.nm) pa) (e :: es) [] pc) (tBM X.K "list" (bestMt X m.id) (WE X o) (WA X (e :: es))) := by
  have hfew : ((backTo pc (starEach (e :: es) X.env)).all (fun x => !x.1) && (backToKw pc (keywordEach [] X.env)).all (fun x => x.1.isSome)
    && decide ((e :: es).length + ([] : List Keyword).length + (if ([] : List Keyword).isEmpty then 0 else 1) < 30)) = true := by
    rw [star_all hps]
    have : decide ((e :: es).length + ([] : List Keyword).length + (if ([] : List Keyword).isEmpty then 0 else 1) < 30) = true := decide_eq_true (by simp only [List.length_cons, List.length_nil, List.isEmpty_nil, if_true]; omega)
    rw [this]; rfl
  exact pe_bm PySem.F.plainAttrs_list (mu_slot m) (mu_ty m) bestMt_ok pe_W pa_W (hp.attr _ _) hfew hline ((hps e List.mem_cons_self).star es X.env) (star_any (fun x hx => hps x (List.mem_cons_of_mem _ hx)) pc X.env)
theorem mut_pe0 {m : Mu} {o : Expr} {pa pc : Pos} (hp : Plain o) (hline : (pa.endLine == pc.line) = true) :
    PE X (.Call (.Attribute o (Str.ofString m.nm) pa) [] [] pc) (tBM0 X.K "list" (bestMt X m.id) (WE X o)) := pe_bm0 PySem.F.plainAttrs_list (mu_slot m) (mu_ty m) bestMt_ok pe_W (hp.attr _ _) hline
theorem mutR_ok {m : Mu} {w : W} {ws : List W} {v : V} {vs : List V} {S : Store} {f : D → Store → FR} {Sh H : Hp} {μ : List Addr} {D0 : Ends} (r : Rel X.K cl Sh H μ S) (dx : DenW X.K cl Sh μ v w) (dws : DenWs X.K cl Sh μ vs ws) (h : PostS X cl Sh μ D0 (mutR m w ws S f)) :
    bestMt X m.id v vs H (fun u H' => ∃ d S', Rel X.K cl Sh H' μ S' ∧ Den X.K cl Sh u d ∧ PostS X cl Sh μ D0 (f d S')) := by
  unfold mutR at h
  cases w with
  | t _ => exact h.elim
  | loc n =>
    dsimp only at h
    cases hg : get S n with
    | none => rw [hg] at h; exact h.elim
    | some o =>
      rw [hg] at h
      cases ha : mArgs m S ws with
      | none => rw [ha] at h; exact h.elim
      | some ds =>
        rw [ha] at h
        dsimp only at h
        cases hm : mutO m o ds with
        | none => rw [hm] at h; exact h.elim
        | some q =>
          obtain ⟨d, o'⟩ := q
          rw [hm] at h
          dsimp only at h
          obtain ⟨a, ea, rfl⟩ := dx
          obtain ⟨b, e1, e2, e3⟩ := r.obj n _ hg
          rw [ea] at e1; cases e1
          cases o with
          | dct t kvs => cases m <;> simp [mutO] at hm
          | ins c fs => cases m <;> simp [mutO] at hm
          | lst xs =>
            obtain ⟨us, h1, h2⟩ := e3
            have wr : ∀ {ys : List D} {zs : List V}, Dens X.K cl Sh zs ys → Rel X.K cl Sh (upd H a (.lst zs)) μ (S.set n (some (.lst ys))) := fun dd => r.write hg ea ⟨_, upd_same, dd⟩
            cases m with
            | append =>
              match ds, hm with
              | [y], hm =>
                simp only [mutO] at hm
                split at hm
                · rename_i hsz
                  cases hm
                  cases dws.asTs (show asTs ws = some [y] from ha) with
                  | cons dy dn => cases dn; exact ⟨_, mt_append, a, us, _, rfl, rfl, h1, by rw [h2.length]; exact hsz, _, _, wr (h2.append (.cons dy .nil)), Den.non, h⟩
                · cases hm
              | [], hm => simp [mutO] at hm
              | _ :: _ :: _, hm => simp [mutO] at hm
            | extend =>
              match ds, hm with
              | [y], hm =>
                simp only [mutO] at hm
                cases y with
                | lst zs =>
                  dsimp only at hm
                  split at hm
                  · rename_i hsz
                    cases hm
                    cases r.rds dws (show rds S ws = some [.lst zs] from ha) with
                    | cons dy dn =>
                      cases dn
                      obtain ⟨b, vs', rfl, hb, hd⟩ := dy.lst r.sub
                      exact ⟨_, mt_extendR, a, b, us, vs', rfl, rfl, h1, hb, by rw [h2.length, hd.length]; exact hsz, _, _, wr (h2.append hd), Den.non, h⟩
                  · cases hm
                | _ => cases hm
              | [], hm => simp [mutO] at hm
              | _ :: _ :: _, hm => simp [mutO] at hm
            | pop =>
              match ds, hm with
              | [], hm =>
                obtain ⟨y, ey, eq⟩ := Option.map_eq_some_iff.mp (show (xs[xs.length - 1]?).map (fun y => (y, Ob.lst xs.dropLast)) = some (d, o') from hm)
                cases eq
                cases dws.asTs (show asTs ws = some [] from ha)
                obtain ⟨u, hu, dy⟩ := h2.get ey
                exact ⟨_, mt_pop, a, us, u, rfl, rfl, h1, by rw [h2.length]; exact hu, _, _, wr h2.dropLast, dy, h⟩
              | _ :: _, hm => simp [mutO] at hm
            | insert =>
              match ds, hm with
              | [.int i, y], hm =>
                simp only [mutO] at hm
                split at hm
                · rename_i hc
                  cases hm
                  cases dws.asTs (show asTs ws = some [.int i, y] from ha) with
                  | cons di dn =>
                    cases dn with
                    | cons dy dn => cases dn; exact ⟨_, mt_insert, a, us, i, _, rfl, by rw [den_int di], h1, by rw [h2.length]; exact hc.1, hc.2.1, hc.2.2, _, _, wr (((h2.take _).append (.cons dy .nil)).append (h2.drop _)), Den.non, h⟩
                · cases hm
            | reverse =>
              match ds, hm with
              | [], hm =>
                cases hm
                cases dws.asTs (show asTs ws = some [] from ha)
                exact ⟨_, mt_reverse, a, us, rfl, rfl, h1, _, _, wr h2.reverse, Den.non, h⟩
              | _ :: _, hm => simp [mutO] at hm
            | clear =>
              match ds, hm with
              | [], hm =>
                cases hm
                cases dws.asTs (show asTs ws = some [] from ha)
                exact ⟨_, mt_clear, a, us, rfl, rfl, h1, _, _, wr .nil, Den.non, h⟩
              | _ :: _, hm => simp [mutO] at hm
theorem isLst_ok {w : W} {v : V} {S : Store} {Sh H : Hp} {μ : List Addr} (r : Rel X.K cl Sh H μ S) (dx : DenW X.K cl Sh μ v w) (h : isLst S w = true) : L2.tyV X.K "list" v H := by
  cases w with
  | t _ => cases h
  | loc n =>
    unfold isLst at h
    dsimp only at h
    split at h
    · rename_i xs hg
      obtain ⟨a, ea, rfl⟩ := dx
      obtain ⟨b, e1, e2, us, h1, h2⟩ := r.obj n _ hg
      rw [ea] at e1; cases e1
      exact .inl ⟨rfl, us, .inl (.inl h1)⟩
    · cases h
/-- the reading of x.m(..), with what comes behind it -/
theorem mut_read {m : Mu} {eo : Expr} {es : List Expr} {fo : Env' → Store → Res W} {fa : Env' → Store → Res (List W)} {f : D → Store → FR} {pa pc : Pos} (hp : Plain eo) (hps : ∀ y ∈ es, Plain y) (hl : es.length < 20) (hline : (pa.endLine == pc.line) = true)
    (ho : SE X cl eo fo) (ha : SA X cl es fa) (hn : es = [] → ∀ ρ S, fa ρ S = .ok [] S) {ρ : Env'} {S : Store} {σ : L2.St} {H Sh : Hp} {μ : List Addr} {D0 : Ends} (r : Rel X.K cl Sh H μ S) (de : DenE X.K cl Sh μ σ ρ)
    (h : PostS X cl Sh μ D0 (lift ρ (fo ρ S) fun x S1 => if isLst S1 x then lift ρ (fa ρ S1) fun ws S2 => mutR m x ws S2 f else .bad)) :
    WE X (.Call (.Attribute eo (Str.ofString m.nm) pa) es [] pc) σ H (fun u H' => ∃ d S' Sh' μ', Step Sh μ Sh' μ' ∧ Rel X.K cl Sh' H' μ' S' ∧ Den X.K cl Sh' u d ∧ PostS X cl Sh' μ' D0 (f d S')) := by
  have go : ∀ {x : V} {H1 : Hp} {Sh1 : Hp} {μ1 : List Addr} {w : W} {vs : List V} {ws : List W} {S1 : Store}, Step Sh μ Sh1 μ1 → Rel X.K cl Sh1 H1 μ1 S1 → DenW X.K cl Sh1 μ1 x w → DenWs X.K cl Sh1 μ1 vs ws → PostS X cl Sh1 μ1 D0 (mutR m w ws S1 f) →
      bestMt X m.id x vs H1 (fun u H' => ∃ d S' Sh' μ', Step Sh μ Sh' μ' ∧ Rel X.K cl Sh' H' μ' S' ∧ Den X.K cl Sh' u d ∧ PostS X cl Sh' μ' D0 (f d S')) := by
    intro x H1 Sh1 μ1 w vs ws S1 s1 r1 d1 d2 g
    obtain ⟨rr, hr, hq⟩ := mutR_ok r1 d1 d2 g
    refine ⟨fun x vs H Q => ∃ P : VK, rr x vs H P ∧ ∀ u H', P u H' → Q u H', ?_, _, hq, fun u H' ⟨d, S', q1, q2, q3⟩ => ⟨d, S', Sh1, μ1, s1, q1, q2, q3⟩⟩
    rintro pins s σ' H' x' xs v' us Q I rx rv ⟨P, hP, himp⟩
    exact thn (hr pins s σ' H' x' xs v' us P I rx rv hP) fun u s' ⟨v, H2, I2, r2, q⟩ => ⟨v, H2, I2, r2, himp _ _ q⟩
  cases es with
  | nil =>
    refine WE.of (mut_pe0 hp hline) (ho ρ S σ H Sh μ _ r de (GR.imp ?_ (PostS.lift (R := DenW X.K cl) de h)))
    rintro x H1 ⟨Sh1, μ1, w, S1, s1, r1, d1, g1⟩
    split at g1
    · rename_i hi
      rw [hn rfl] at g1
      exact ⟨isLst_ok r1 d1 hi, go s1 r1 d1 .nil g1⟩
    · exact g1.elim
  | cons e es =>
    refine WE.of (mut_pe hp hps (by rw [List.length_cons] at hl; omega) hline) (ho ρ S σ H Sh μ _ r de (GR.imp ?_ (PostS.lift (R := DenW X.K cl) de h)))
    rintro x H1 ⟨Sh1, μ1, w, S1, s1, r1, d1, g1⟩
    split at g1
    · rename_i hi
      refine ⟨isLst_ok r1 d1 hi, ha ρ S1 σ H1 Sh1 μ1 _ r1 (de.step s1) (GR.imp ?_ (PostS.lift (R := DenWs X.K cl) (de.step s1) g1))⟩
      rintro vs H2 ⟨Sh2, μ2, ws, S2, s2, r2, d2, g2⟩
      exact go (s1.trans s2) r2 (d1.step s2) d2 g2
    · exact g1.elim
theorem ss_mut {m : Mu} {eo : Expr} {es : List Expr} {fo : Env' → Store → Res W} {fa : Env' → Store → Res (List W)} {pa pc p : Pos} (hp : Plain eo) (hps : ∀ y ∈ es, Plain y) (hl : es.length < 20) (hline : (pa.endLine == pc.line) = true)
    (ho : SE X cl eo fo) (ha : SA X cl es fa) (hn : es = [] → ∀ ρ S, fa ρ S = .ok [] S) :
    SS X cl (.Expr (.Call (.Attribute eo (Str.ofString m.nm) pa) es [] pc) p) (fun ρ S => lift ρ (fo ρ S) fun x S1 => if isLst S1 x then lift ρ (fa ρ S1) fun ws S2 => mutR m x ws S2 fun _ S3 => .next ρ S3 else .bad) := by
  intro ρ S σ H Sh μ D0 r de h
  refine WS.of (ps_expr (te := fun σ H Q => WE X (.Call (.Attribute eo (Str.ofString m.nm) pa) es [] pc) σ H Q) pe_W rfl) ?_
  have q := mut_read hp hps hl hline ho ha hn r de h
  intro pins s I
  exact thn (q pins s I) fun u s' ⟨v, H2, I2, r2, d, S', Sh', μ', s1, q1, q2, q3⟩ => ⟨v, H2, I2, r2, q3.nx q1 (de.step s1)⟩
theorem ss_smu {m : Mu} {eo : Expr} {es : List Expr} {fo : Env' → Store → Res W} {fa : Env' → Store → Res (List W)} {pa pc px p : Pos} {i : Nat} {x : Str} (hp : Plain eo) (hps : ∀ y ∈ es, Plain y) (hl : es.length < 20) (hline : (pa.endLine == pc.line) = true)
    (ho : SE X cl eo fo) (ha : SA X cl es fa) (hn : es = [] → ∀ ρ S, fa ρ S = .ok [] S) (hN : X.N.Nodup) (hi : X.N[i]? = some x) (hx : Loc X.env.scope x) (hf : X.fn x = true ∨ X.env.scope.names.lookup x = some .local) :
    SS X cl (.Assign [.Name x px] (.Call (.Attribute eo (Str.ofString m.nm) pa) es [] pc) p) (fun ρ S => lift ρ (fo ρ S) fun x S1 => if isLst S1 x then lift ρ (fa ρ S1) fun ws S2 => mutR m x ws S2 fun d S3 => setE ρ i (.t d) S3 else .bad) := by
  intro ρ S σ H Sh μ D0 r de h
  refine WS.of (ps_set (te := fun σ H Q => WE X (.Call (.Attribute eo (Str.ofString m.nm) pa) es [] pc) σ H Q) hN hi hx pe_W rfl hf) ?_
  have q := mut_read hp hps hl hline ho ha hn r de h
  intro pins s I
  exact thn (q pins s I) fun u s' ⟨v, H2, I2, r2, d, S', Sh', μ', s1, q1, q2, q3⟩ => ⟨v, H2, I2, r2, q3.setE q1 (de.step s1) q2⟩

/-! ### raise -/
theorem ss_rai {C : Addr} {c k : Nat} {x m : Str} {pn p2 pc p : Pos} {bmB : List Value} {B newId initId : String} (hC : cl.cl c = C) (hc : X.calm = true) (F : ExcBaseFacts B newId initId bmB) (q : PySem.W.excIn X.K C bmB newId = true) (gC : X.mg x = some (.ref C)) (kC : PySem.W.keepIn X.K (.ref C) = true)
    (h1 : PySem.W.subIn X.K (.ref C) (.type "BaseException") = some true) (h2 : PySem.W.typeIn X.K (.ref C) = some (.type "type")) (hg : Gl X x) (hdb : (x == ("__debug__" : Str)) = false) :
    SS X cl (.Raise (some (.Call (.Name x pn) [.Constant (.str m) k p2] [] pc)) none p) (fun ρ S => .exc c ρ S) := by
  intro ρ S σ H Sh μ D0 r de h
  obtain ⟨W, tk, hW⟩ := h
  have := hW σ H Sh μ (Step.refl _ _) r de
  rw [hC] at this
  exact WS.of (ps_raise hc tk (pmk_own F q gC kC (raises_own h1 h2) hg hdb)) this
theorem ss_aug {o : Op} {e : Expr} {f : Env' → Store → Res W} {i : Nat} {x : Str} {px p : Pos} (hN : X.N.Nodup) (hi : X.N[i]? = some x) (hx : Loc X.env.scope x) (hf : X.fn x = true ∨ X.env.scope.names.lookup x = some .local) (he : SE X cl e f) :
    SS X cl (.AugAssign (.Name x px) o.py e p) (fun ρ S => match (ρ[i]?).getD none with
    | some (.t x) => lift ρ (f ρ S) fun w S1 => augR o x w ρ i S1
    | _ => .bad) := by
  intro ρ S σ H Sh μ D0 r de h
  dsimp only at h
  cases e1 : (ρ[i]?).getD none with
  | none => rw [e1] at h; exact h.elim
  | some w0 =>
    rw [e1] at h
    cases w0 with
    | loc n => exact h.elim
    | t d0 =>
      obtain ⟨v0, ev, dv⟩ := de.at e1
      have run : ∀ {ti : TIp}, PIp X o.py ti → (∀ v H1 Sh1 μ1 w S1, Step Sh μ Sh1 μ1 → Rel X.K cl Sh1 H1 μ1 S1 → DenW X.K cl Sh1 μ1 v w → PostS X cl Sh1 μ1 D0 (augR o d0 w ρ i S1) → ti v0 v H1 (fun z H2 => D0.nx (σ.set i (some z)) H2)) → WS X (.AugAssign (.Name x px) o.py e p) D0 σ H := by
        intro ti hp hk
        refine WS.of (ps_aug hN hi hx pe_W hp hf) ⟨v0, ev, he ρ S σ H Sh μ _ r de (GR.imp ?_ (PostS.lift (R := DenW X.K cl) de h))⟩
        rintro v H1 ⟨Sh1, μ1, w, S1, s1, r1, d1, g1⟩
        exact hk v H1 Sh1 μ1 w S1 s1 r1 d1 g1
      have any : (∀ w S1, (augR o d0 w ρ i S1) = FR.bad) → WS X (.AugAssign (.Name x px) o.py e p) D0 σ H := by
        intro hb
        refine run (ti := fun _ _ _ _ => False) (fun _ _ _ _ _ _ _ _ _ _ _ _ h => h.elim) ?_
        intro v H1 Sh1 μ1 w S1 s1 r1 d1 g1
        rw [hb] at g1; exact g1
      cases o with
      | add =>
        cases d0 with
        | int a =>
          refine run iop_add ?_
          intro v H1 Sh1 μ1 w S1 s1 r1 d1 g1
          unfold augR at g1
          split at g1
          · rename_i a' b h1 h2 ; cases h2
            exact ⟨_, _, den_int (show Den X.K cl Sh v0 _ from dv), den_int (show Den X.K cl Sh1 v _ from d1), g1.setE r1 (de.step s1) (Den.int _)⟩
          · rename_i h1 _; cases h1
          · exact g1.elim
        | _ => exact any fun _ _ => by simp [augR]
      | sub =>
        cases d0 with
        | int a =>
          refine run iop_sub ?_
          intro v H1 Sh1 μ1 w S1 s1 r1 d1 g1
          unfold augR at g1
          split at g1
          · rename_i h1 _; cases h1
          · rename_i a' b h1 h2 ; cases h2
            exact ⟨_, _, den_int (show Den X.K cl Sh v0 _ from dv), den_int (show Den X.K cl Sh1 v _ from d1), g1.setE r1 (de.step s1) (Den.int _)⟩
          · exact g1.elim
        | _ => exact any fun _ _ => by simp [augR]
      | _ => exact any fun _ _ => by simp [augR]
end
end Rf

/-! Rf, part T: loops, try. -/
namespace Rf
open PySem PySem.Spec PyProof.Rows L2
section
variable {X : Cx} {cl : Nm} {N : List Str}
theorem PostS.loop {Sh : Hp} {μ : List Addr} {D0 : Ends} {r : FR} {k : Env' → Store → FR} (h : PostS X cl Sh μ D0 (loopR r k)) :
    PostS X cl Sh μ { D0 with nx := fun σ' H' => ∃ Sh2 μ2 S2 ρ2, Step Sh μ Sh2 μ2 ∧ Rel X.K cl Sh2 H' μ2 S2 ∧ DenE X.K cl Sh2 μ2 σ' ρ2 ∧ PostS X cl Sh2 μ2 D0 (k ρ2 S2), ct := fun σ' H' => ∃ Sh2 μ2 S2 ρ2, Step Sh μ Sh2 μ2 ∧ Rel X.K cl Sh2 H' μ2 S2 ∧ DenE X.K cl Sh2 μ2 σ' ρ2 ∧ PostS X cl Sh2 μ2 D0 (k ρ2 S2), bk := D0.nx } r := by
  cases r with
  | next ρ2 S2 => exact fun σ' H' Sh2 μ2 s r d => ⟨Sh2, μ2, S2, ρ2, s, r, d, PostS.mono s h⟩
  | cont ρ2 S2 => exact fun σ' H' Sh2 μ2 s r d => ⟨Sh2, μ2, S2, ρ2, s, r, d, PostS.mono s h⟩
  | brk ρ2 S2 => exact h
  | ret w S2 => exact h
  | exc c ρ2 S2 => exact h
  | bad => exact h
theorem PostS.imp {Sh : Hp} {μ : List Addr} {D0 D1 : Ends} {r : FR} (h : PostS X cl Sh μ D0 r) (h1 : ∀ σ H, D0.nx σ H → D1.nx σ H) (h2 : ∀ v H, D0.rt v H → D1.rt v H) (h3 : ∀ σ H, D0.bk σ H → D1.bk σ H) (h4 : ∀ σ H, D0.ct σ H → D1.ct σ H) : PostS X cl Sh μ D1 r := by
  cases r with
  | next ρ2 S2 => exact fun σ' H' Sh2 μ2 s r d => h1 _ _ (h σ' H' Sh2 μ2 s r d)
  | cont ρ2 S2 => exact fun σ' H' Sh2 μ2 s r d => h4 _ _ (h σ' H' Sh2 μ2 s r d)
  | brk ρ2 S2 => exact fun σ' H' Sh2 μ2 s r d => h3 _ _ (h σ' H' Sh2 μ2 s r d)
  | ret w S2 => exact fun v H' Sh2 μ2 s r d => h2 _ _ (h v H' Sh2 μ2 s r d)
  | exc c ρ2 S2 => exact h
  | bad => exact h
theorem ss_for {iter : Expr} {body : List Stmt} {tg : Tg} {p : Pos} {fs : Env' → Store → Res Wk} {fb : Env' → Store → FR} (hp : PassesOwn (model X.prog X.w) X.A X.env X.xe) (ok : TgOk X N tg) (hi : SI X cl (tg.py N) iter fs) (hb : SSs X cl body fb)
    (hs : ∀ x, foldedSetIterable iter X.env x = pure x) : SS X cl (.For (tg.py N) iter body [] p) (fun ρ S => lift ρ (fs ρ S) fun items S1 => forsL (fun x ρ => tg.store x ρ) fb items items.1.length 0 ρ S1) := by
  intro ρ S σ H Sh μ D0 r de h
  refine WS.of (ps_for hp ok.calm pi_W pg_W pss_W hs) (hi ρ S σ H Sh μ _ r de (GR.imp ?_ (PostS.lift (R := fun Sh' μ' (J : It) it => YldsL X.K cl J Sh' μ' it) de h)))
  rintro J H1 ⟨Sh1, μ1, items, S1, s1, r1, y1, g1⟩
  have de1 := de.step s1
  refine ⟨fun i m σ' H' => m = items.1.length - i ∧ i ≤ items.1.length ∧ ∃ Sh2 μ2 S2 ρ2, Step Sh1 μ1 Sh2 μ2 ∧ Rel X.K cl Sh2 H' μ2 S2 ∧ DenE X.K cl Sh2 μ2 σ' ρ2 ∧ PostS X cl Sh2 μ2 D0 (forsL (fun x ρ => tg.store x ρ) fb items (items.1.length - i) i ρ2 S2),
    ⟨items.1.length, by simp, Nat.zero_le _, Sh1, μ1, S1, ρ, Step.refl _ _, r1, de1, by simpa using g1⟩, ?_⟩
  rintro i m σ2 H2 ⟨rfl, hil, Sh2, μ2, S2, ρ2, s2, r2, de2, g2⟩
  by_cases hlt : i < items.1.length
  · right
    rw [show items.1.length - i = (items.1.length - (i + 1)) + 1 from by omega] at g2
    simp only [forsL] at g2
    cases hx : itAt items S2 i with
    | none => rw [hx] at g2; exact g2.elim
    | some d =>
    rw [hx] at g2
    dsimp only at g2
    refine ⟨y1.go H2 Sh2 μ2 S2 i _ s2 r2 hx, fun σ' H' => i + 1 ≤ items.1.length ∧ ∃ Sh3 μ3 S3 ρ3, Step Sh1 μ1 Sh3 μ3 ∧ Rel X.K cl Sh3 H' μ3 S3 ∧ DenE X.K cl Sh3 μ3 σ' ρ3 ∧ PostS X cl Sh3 μ3 D0 (forsL (fun x ρ => tg.store x ρ) fb items (items.1.length - (i + 1)) (i + 1) ρ3 S3), ?_, ?_⟩
    · rintro σ' H' ⟨h1, h2⟩
      exact ⟨items.1.length - (i + 1), by omega, rfl, h1, h2⟩
    · intro x H3 hy
      have key : ∃ Sh3, Step Sh2 μ2 Sh3 μ2 ∧ Rel X.K cl Sh3 H3 μ2 S2 ∧ Den X.K cl Sh3 x d := by
        rcases y1.yl H2 Sh2 μ2 S2 i d x H3 s2 r2 hx hy with ⟨rfl, q⟩ | ⟨p, vs, ds, rfl, hn, rfl, rfl, dd⟩
        · exact ⟨Sh2, Step.refl _ _, r2, q⟩
        · obtain ⟨r4, s4⟩ := r2.put (o := .tup vs) hn
          exact ⟨_, s4, r4, .tup upd_same (dd.mono s4.sh)⟩
      obtain ⟨Sh3, s3, r3, dx⟩ := key
      cases es : tg.store d ρ2 with
      | none => rw [es] at g2; exact g2.elim
      | some ρ3 =>
        rw [es] at g2
        refine tg_ok ok r3 (de2.step s3) dx es fun σ3 de3 _ => ?_
        refine hb ρ3 S2 σ3 H3 Sh3 μ2 _ r3 de3 (PostS.imp (PostS.loop (PostS.mono s3 g2)) ?_ (fun _ _ q => q) (fun _ _ q => q) ?_)
        · rintro σ' H' ⟨Sh4, μ4, S4, ρ4, s4, r4, d4, g4⟩
          exact ⟨hlt, Sh4, μ4, S4, ρ4, (s2.trans s3).trans s4, r4, d4, g4⟩
        · rintro σ' H' ⟨Sh4, μ4, S4, ρ4, s4, r4, d4, g4⟩
          exact ⟨hlt, Sh4, μ4, S4, ρ4, (s2.trans s3).trans s4, r4, d4, g4⟩
  · left
    have hi' : i = items.1.length := by omega
    subst hi'
    rw [Nat.sub_self] at g2
    simp only [forsL] at g2
    split at g2
    · rename_i hok
      exact ⟨y1.stop H2 Sh2 μ2 S2 _ s2 r2 hok (Nat.le_refl _), g2.nx r2 de2⟩
    · exact g2.elim
theorem ss_whl {c : Expr} {body : List Stmt} {n : Nat} {p : Pos} {fc : Env' → Store → Res W} {fb : Env' → Store → FR} (hp : PassesOwn (model X.prog X.w) X.A X.env X.xe) (hc : ST X cl c fc) (hb : SSs X cl body fb) :
    SS X cl (.While c body [] p) (fun ρ S => whiles fc fb n ρ S) := by
  intro ρ S σ H Sh μ D0 r de h
  refine WS.of (ps_while hp pt_W pss_W) ⟨fun m σ' H' => ∃ Sh2 μ2 S2 ρ2, Step Sh μ Sh2 μ2 ∧ Rel X.K cl Sh2 H' μ2 S2 ∧ DenE X.K cl Sh2 μ2 σ' ρ2 ∧ PostS X cl Sh2 μ2 D0 (whiles fc fb m ρ2 S2), ⟨n, Sh, μ, S, ρ, Step.refl _ _, r, de, h⟩, ?_⟩
  rintro m σ2 H2 ⟨Sh2, μ2, S2, ρ2, s2, r2, de2, g2⟩
  cases m with
  | zero => exact g2.elim
  | succ m =>
    simp only [whiles] at g2
    refine hc ρ2 S2 σ2 H2 Sh2 μ2 _ r2 de2 ?_
    cases ec : fc ρ2 S2 with
    | bad => rw [ec] at g2; exact g2.elim
    | exc k S3 =>
      rw [ec] at g2
      obtain ⟨W, tk, hW⟩ := g2
      exact ⟨W, tk, fun H' Sh' μ' s r => hW σ2 H' Sh' μ' s r (de2.step s)⟩
    | ok w S3 =>
      rw [ec] at g2
      intro v H3 Sh3 μ3 s3 r3 d3
      split at g2
      · rename_i S3' e; cases e
        refine ⟨true, den_bl d3, ?_⟩
        rw [if_pos rfl]
        have g3 : PostS X cl Sh2 μ2 D0 (loopR (fb ρ2 S3) (whiles fc fb m)) := by
          revert g2; cases fb ρ2 S3 <;> exact id
        refine ⟨fun σ' H' => ∃ Sh4 μ4 S4 ρ4, Step Sh3 μ3 Sh4 μ4 ∧ Rel X.K cl Sh4 H' μ4 S4 ∧ DenE X.K cl Sh4 μ4 σ' ρ4 ∧ PostS X cl Sh4 μ4 D0 (whiles fc fb m ρ4 S4), ?_, hb ρ2 S3 σ2 H3 Sh3 μ3 _ r3 (de2.step s3) (PostS.loop (PostS.mono s3 g3))⟩
        rintro σ' H' ⟨Sh4, μ4, S4, ρ4, s4, r4, d4, g4⟩
        exact ⟨m, Nat.lt_succ_self _, Sh4, μ4, S4, ρ4, (s2.trans s3).trans s4, r4, d4, g4⟩
      · rename_i S3' e; cases e
        refine ⟨false, den_bl d3, ?_⟩
        rw [if_neg Bool.false_ne_true]
        exact PostS.nx (PostS.mono s3 g2) r3 (de2.step s3)
      · rename_i e; cases e
      · exact g2.elim
end
end Rf

/-! Rf, part U: try: body / except C as n: y = n. -/
namespace Rf
open PySem PySem.Spec PyProof.Rows L2
section
variable {X : Cx} {pins : List (Addr × Obj)} {σ : L2.St} {H : Hp} {sI s' : Shared} {B : Heap} {a : Addr} {o : HO}
theorem okUpd {P : Program} {w : World} {h : Heap} (x : HOk P w H h) (hn : H a = none) (new : ObjOk P w (upd H a o) h a o) : HOk P w (upd H a o) h := by
  intro b u e
  by_cases hb : b = a
  · subst hb
    rw [upd_same] at e
    cases e
    exact new
  · rw [upd_ne hb] at e
    apply (x b u e).stay (fun _ _ _ q => q)
    · intro c q
      rw [upd_ne (ne_of_none q hn)]; exact q
    · intro c xs q
      rw [upd_ne (ne_of_none q hn)]; exact q
/-- an exception that has come down is tracked -/
theorem landT (I : Inv X pins σ H sI) (nb : ∀ b u, sI.heap.get? b = some u → b ∉ frs X.stack → B.get? b = some u) (st : B.StaysIn s'.heap) (up : sI.heap.UpToSlots s'.heap) (os : s'.os = sI.os) (ag : AllBare s'.gens) (na : H a = none)
    (n0 : sI.heap.get? a = none) (new : ObjOk X.prog X.w (upd H a o) s'.heap a o) : Inv X pins σ (upd H a o) s' := by
  have frm : ∀ b u, b ∈ frs X.stack → sI.heap.get? b = some u → ∃ sl, s'.heap.get? b = some { u with slots := sl } := by
    intro b u hm e
    obtain ⟨_, u2, e2, hd⟩ := I.stack.mem hm
    rw [e] at e2
    cases e2
    exact up b u e hd
  have ne : ∀ b u, sI.heap.get? b = some u → b ≠ a := by
    intro b u e z
    rw [z, n0] at e
    cases e
  have nh : ∀ b u, H b = some u → b ≠ a := by
    intro b u e z
    rw [z, na] at e
    cases e
  apply I.call' (ch := []) os _ (okUpd ((I.inGround nb).kept st) na new) ag (fun _ z => nomatch z)
  constructor
  · intro b u e _ hm _; exact st b u (nb b u e hm)
  · intro b u e _ hm _; exact frm b u hm e
  · intro b u e n _; rw [upd_ne (ne b u e)]; exact n
  · intro b u e _
    by_cases hm : b ∈ frs X.stack
    · obtain ⟨sl, q⟩ := frm b u hm e; exact ⟨_, q⟩
    · exact ⟨u, st b u (nb b u e hm)⟩
  · intro b xs e; rw [upd_ne (nh b _ e)]; exact e
  · intro b u xs e; rw [upd_ne (nh b _ e)]; exact e
  · intro b ps e; exact ⟨#[], by rw [upd_ne (nh b _ e), e]; simp⟩
/-- the context of the clause's suite, where nothing more is pinned -/
theorem inSuite (I : Inv X pins σ H sI) (a : Addr) : Inv (X.suite a (X.pn ++ pins)) [] σ H sI := by
  refine ⟨I.ok.suite _ _, I.os, I.bare, I.base, I.loc, I.cell, I.free, I.freeC, ?_, I.hok, I.len⟩
  intro p hp
  rw [List.append_nil] at hp
  exact I.pin p hp
theorem offSuite (ok : X.Ok) {a : Addr} {pn' : List (Addr × Obj)} (I : Inv (X.suite a (X.pn ++ pins)) pn' σ H sI) : Inv X pins σ H sI :=
  ⟨ok, I.os, I.bare, I.base, I.loc, I.cell, I.free, I.freeC, fun p hp => I.pin p (List.mem_append_left _ hp), I.hok, I.len⟩
end
section
variable {X : Cx} {cl : Nm}
/-- what the clause wishes of an exception -/
def wSet (K : PySem.W.Frag) (c : Value) (i j : Nat) (Wout : WX) (D : Ends) : WX := fun cls d σ H =>
  ∃ b, d = none ∧ PySem.W.exmOne K cls c = some b ∧ (b = true → ∀ a, H a = none → D.nx (((σ.set i (some (.ref a))).set j (some (.ref a))).set i none) (upd H a (ExH cls a))) ∧ (b = false → Wout cls none σ H)
theorem ps_tryv {x n y : Str} {c : Value} {i j : Nat} {body : List Stmt} {np py pn pa pos pos' : Pos} {tb : WX → TS} {Wout : WX} (hs : X.stack = X.env :: X.outer) (hf : X.env.frame = some X.env.locals) (hN : X.N.Nodup)
    (hi : X.N[i]? = some n) (hln : X.env.kindOf n = some .local) (hj : X.N[j]? = some y) (hly : X.env.scope.names.lookup y = some .local) (hc : Names X x c) (hdn : (n == ("__debug__" : Str)) = false) (hcn : (n == ("__classdict__" : Str)) = false) (tk : Takes X Wout)
    (hb : ∀ (W : WX) (pl : List (Addr × Obj)) (xe : Value → Shared → Prop), Takes (X.tr pl xe) W → PassesOwn (model X.prog X.w) X.A X.env xe → PSs (X.tr pl xe) body (tb W)) :
    PS X (.Try body [.ExceptHandler (some (.Name x np)) (some n) [.Assign [.Name y py] (.Name n pn) pa] pos'] [] [] pos) (fun D σ H => tb (wSet X.K c i j Wout D) D σ H) := by
  constructor
  intro pins s σ H D I h
  have ok := I.ok
  have hfr : X.A.frames = some (X.env :: X.outer) := ok.frames.trans (congrArg some hs)
  apply wpAny_Try_except
  refine wpAny_mono ((hb (wSet X.K c i j Wout D) (X.pn ++ pins) (fun e s1 => wpAny (model X.prog X.w) X.A (noteFrame e X.env) (fun _ s2 => wpAny (model X.prog X.w) X.A (setFlight e none) (fun _ s3 =>
    wpAny (model X.prog X.w) X.A (handleBy e X.env [.ExceptHandler (some (.Name x np)) (some n) [.Assign [.Name y py] (.Name n pn) pa] pos']) (SP X pins D) X.xe s3) X.xe s2) X.xe s1) ?_ PassesOwn.looking).run [] s σ H D (I.toTry _) h) ?_ (fun e s1 he => he)
  rotate_left
  · intro f s1 q
    cases f with
    | next => obtain ⟨σ1, H1, J1, q⟩ := q; exact wpAny_execs_nil ⟨σ1, H1, J1.ofTry ok, q⟩
    | brk => obtain ⟨σ1, H1, J1, q⟩ := q; exact ⟨σ1, H1, J1.ofTry ok, q⟩
    | cont => obtain ⟨σ1, H1, J1, q⟩ := q; exact ⟨σ1, H1, J1.ofTry ok, q⟩
    | ret u => obtain ⟨v, σ1, H1, J1, rv, q⟩ := q; exact ⟨v, σ1, H1, J1.ofTry ok, rv, q⟩
  · rintro u st ⟨a, B, sI, pl, τ, H1, cls, d, rfl, J0, nb, up, sky, na, os, ag, b, hd0, hm, yes, no⟩
    subst hd0
    have J : Inv X pins τ H1 sI := J0.ofTry ok
    have sky1 : Sky B (X.env :: X.outer) a (Zc cls none) X.env.locals st.heap := hs ▸ sky
    show wpAny (model X.prog X.w) X.A (noteFrame (.ref a) X.env) _ _ _
    apply Sky.land Zc.steady hfr hf sky1
    intro h3 fl3 up3
    obtain ⟨oe, vs, he, hz, hdt⟩ := fl3.there
    have inFr : ∀ {hp : Heap} {u : Obj} {xs : Array Value}, hp.FunFrames B (X.env :: X.outer) → hp.get? a = some u → u.data = .fields xs → a ∉ frs (X.env :: X.outer) := by
      intro hp u xs ff e dd hmem
      obtain ⟨_, u2, e2, hnf⟩ := ff.mem hmem
      rw [e] at e2
      cases e2
      exact hnf _ dd
    have nfr := inFr fl3.2.2.1 he hdt
    have n0 : sI.heap.get? a = none := by
      cases q : sI.heap.get? a with
      | none => rfl
      | some u =>
        have z := nb a u q (by rw [hs]; exact nfr)
        rw [fl3.2.1] at z
        cases z
    have J3 : Inv X pins τ H1 { st with heap := h3 } := J.landed nb fl3.1 (up.trans up3) os ag
    have nL : a ≠ X.env.locals := fun z => nfr (List.mem_filterMap.mpr ⟨X.env, List.mem_cons_self, by rw [hf, z]⟩)
    have nF : a ∉ X.fs := by
      intro hmem
      obtain ⟨e, he2, q⟩ := List.mem_filterMap.mp hmem
      exact nfr (List.mem_filterMap.mpr ⟨e, List.mem_cons_of_mem _ he2, q⟩)
    have S3 := inSuite J3 a
    apply wpAny_handleBy_cons _ (by intro q; cases q)
    apply codeAny_handlers_test
    have LT : PySem.W.Looks (model X.prog X.w) h3 (typeOf (.ref a)) cls := fun A Q E s k q => wpAny_typeOf_ref (k _ _ he) (by rw [hz.1]; exact q)
    have LM := PySem.W.exm_one (M := model X.prog X.w) (J3.kIn) LT hm
    have test : ∀ {Q E : Value → Shared → Prop}, Q c { st with heap := h3 } → wpAny (model X.prog X.w) (X.A.mark (some (.ref a))) (eval (.Name x np) X.env) Q E { st with heap := h3 } := by
      intro Q E q
      obtain ⟨hg, hdb, hm | ⟨hm, hv, hnn⟩⟩ := hc
      · exact ld_glob (X := X.suite a (X.pn ++ pins)) S3 hg hm q hdb
      · exact ld_blt (X := X.suite a (X.pn ++ pins)) S3 hg hm hv q hnn hdb
    apply test
    apply LM.here
    cases b with
    | false =>
      show wpAny _ X.A (handleBy (.ref a) X.env []) _ _ _
      apply wpAny_handleBy_nil
      obtain ⟨_, _, _, oe2, vs2, T, oT, ts2, e2, _, d2, f2, _⟩ := id fl3
      unfold PySem.passOn
      apply wpAny_bind
      apply wpAny_field e2 d2 f2
      rw [if_neg (show ¬ ((Value.ref T == Value.none) = true) from by simp)]
      have go : wpAny (model X.prog X.w) X.A (setFlight (.ref a) X.env.frame) (fun _ s4 => wpAny (model X.prog X.w) X.A (throw (.ref a) : Sem Flow) (SP X pins D) X.xe s4) X.xe { st with heap := h3 } := by
        rw [hf]
        apply HandSPX.setFlight_upZ fl3
        intro h4 hh4 up4
        apply wpAny_throw
        apply tk
        exact ⟨a, B, sI, pins, τ, H1, cls, none, rfl, J, nb, (up.trans up3).trans up4, .inr (.inr (hs.symm ▸ hh4)), na, os, ag, no rfl⟩
      first
        | exact wpAny_bind (wpAny_pure (wpAny_bind go))
        | exact wpAny_bind go
    | true =>
      apply codeAny_handlers_suite_as
      apply HandSPX.lands_againZ fl3
      intro h4 fl4 up4
      obtain ⟨oe4, vs4, he4, hz4, hd4⟩ := fl4.there
      have J4 : Inv X pins τ (upd H1 a (ExH cls a)) { st with heap := h4 } := landT J nb fl4.1 ((up.trans up3).trans up4) os ag na n0 ⟨⟨oe4, vs4, he4, hz4, hd4⟩, ⟨oe4, he4⟩, fun _ _ ⟨u, xs, q, z, dd⟩ k => ⟨u, xs, k u q, z, dd⟩⟩
      apply store_ok (X := X.suite a (X.pn ++ pins)) (v := .ref a) (inSuite J4 a) hN hi (.inl hln) rfl _ (.inr hln)
      intro s5 S5
      have run1 : PSs (X.suite a (X.pn ++ pins)) [.Assign [.Name y py] (.Name n pn) pa] (tAsg (tVar i) (gName j)) := pss_one (ps_set (X := X.suite a (X.pn ++ pins)) hN hj (.inl hly) (pe_var hi (.inl hln) hdn hcn) rfl (.inr hly))
      have val : ((τ.set i (some (V.ref a)))[i]?) = some (some (V.ref a)) := by
        have hl : i < τ.length := by
          rw [J.len]
          by_cases q : i < X.N.length
          · exact q
          · rw [List.getElem?_eq_none (by omega)] at hi; cases hi
        rw [List.getElem?_set_self hl]
      apply wpAny_mono (run1.run [] s5 _ _ { nx := fun σ' H' => D.nx (σ'.set i none) H', rt := D.rt } S5 ⟨_, val, yes rfl a na⟩) _ (fun _ _ z => False.elim z)
      intro f s6 q
      cases f with
      | next =>
        obtain ⟨σ6, H6, S6, q6⟩ := q
        exact gone_ok (offSuite ok S6) hN hi hln fun s7 J7 => ⟨_, _, J7, q6⟩
      | ret u =>
        obtain ⟨v6, σ6, H6, S6, r6, q6⟩ := q
        exact gone_ok (offSuite ok S6) hN hi hln fun s7 J7 => ⟨_, _, _, J7, r6, q6⟩
      | brk => obtain ⟨_, _, _, q6⟩ := q; exact False.elim q6
      | cont => obtain ⟨_, _, _, q6⟩ := q; exact False.elim q6
theorem DenE.kill {K : PySem.W.Frag} {Sh : Hp} {μ : List Addr} {σ : L2.St} {ρ : Env'} (h : DenE K cl Sh μ σ ρ) (i : Nat) : DenE K cl Sh μ (σ.set i none) (ρ.set i none) := by
  refine ⟨by simp [h.len], fun j w e => ?_⟩
  by_cases z : j = i
  · subst z
    by_cases hl : j < ρ.length
    · rw [List.getElem?_set_self hl] at e; cases e
    · rw [List.getElem?_eq_none (by simpa using hl)] at e; cases e
  · rw [List.getElem?_set_ne (Ne.symm z)] at e ⊢
    exact h.get j w e
theorem takesF {X : Cx} : Takes X (fun _ _ _ _ => False) := fun _ _ ⟨_, _, _, _, _, _, _, _, _, _, _, _, _, _, _, _, w⟩ => w.elim
theorem ss_tri {x n y : Str} {c : Nat} {i j : Nat} {body : List Stmt} {np py pn pa pos pos' : Pos} {hit : Nat → Option Bool} {fb : Env' → Store → FR} (hs : X.stack = X.env :: X.outer) (hf : X.env.frame = some X.env.locals) (hN : X.N.Nodup)
    (hi : X.N[i]? = some n) (hln : X.env.scope.names.lookup n = some .local) (hj : X.N[j]? = some y) (hly : X.env.scope.names.lookup y = some .local) (hc : Names X x (.ref (cl.cl c))) (hdn : (n == ("__debug__" : Str)) = false) (hcn : (n == ("__classdict__" : Str)) = false)
    (hh : ∀ k b, hit k = some b → PySem.W.exmOne X.K (.ref (cl.cl k)) (.ref (cl.cl c)) = some b)
    (hb : ∀ (pl : List (Addr × Obj)) (xe : Value → Shared → Prop), PassesOwn (model X.prog X.w) X.A X.env xe → SSs (X.tr pl xe) cl body fb) :
    SS X cl (.Try body [.ExceptHandler (some (.Name x np)) (some n) [.Assign [.Name y py] (.Name n pn) pa] pos'] [] [] pos) (fun ρ S => triR hit i j (fb ρ S)) := by
  intro ρ S σ H Sh μ D r de h
  have main : ∀ (Wout : WX), Takes X Wout → (∀ k ρ1 S1, fb ρ S = .exc k ρ1 S1 → ∀ σ' H' Sh' μ', Step Sh μ Sh' μ' → Rel X.K cl Sh' H' μ' S1 → DenE X.K cl Sh' μ' σ' ρ1 → wSet X.K (.ref (cl.cl c)) i j Wout D (.ref (cl.cl k)) none σ' H') →
      (∀ q, fb ρ S = q → (∀ k ρ1 S1, q ≠ .exc k ρ1 S1) → PostS X cl Sh μ D q) → WS X (.Try body [.ExceptHandler (some (.Name x np)) (some n) [.Assign [.Name y py] (.Name n pn) pa] pos'] [] [] pos) D σ H := by
    intro Wout tk h1 h2
    refine WS.of (ps_tryv (tb := fun W D σ H => ∀ (pl : List (Addr × Obj)) (xe : Value → Shared → Prop), Takes (X.tr pl xe) W → PassesOwn (model X.prog X.w) X.A X.env xe → WSs (X.tr pl xe) body D σ H) hs hf hN hi hln hj hly hc hdn hcn tk
      (fun W pl xe t p => ⟨fun pins s σ H D I h => h pl xe t p pins s I⟩)) ?_
    intro pl xe t p
    refine hb pl xe p ρ S σ H Sh μ D r de ?_
    cases q : fb ρ S with
    | exc k ρ1 S1 => exact ⟨_, t, h1 k ρ1 S1 q⟩
    | next ρ1 S1 => exact h2 _ q (by intro _ _ _ z; cases z)
    | ret w S1 => exact h2 _ q (by intro _ _ _ z; cases z)
    | brk ρ1 S1 => exact h2 _ q (by intro _ _ _ z; cases z)
    | cont ρ1 S1 => exact h2 _ q (by intro _ _ _ z; cases z)
    | bad => exact h2 _ q (by intro _ _ _ z; cases z)
  dsimp only at h
  cases q : fb ρ S with
  | exc k ρ1 S1 =>
    rw [q] at h
    unfold triR at h
    dsimp only at h
    cases e : hit k with
    | none => rw [e] at h; exact h.elim
    | some b =>
      rw [e] at h
      cases b with
      | true =>
        dsimp only at h
        split at h
        · rename_i hl
          refine main (fun _ _ _ _ => False) takesF (fun k' ρ1' S1' q' σ' H' Sh' μ' s r' de' => ?_) (fun q' e1 e2 => ?_)
          · rw [q] at q'; cases q'
            refine ⟨true, rfl, hh _ _ e, fun _ a ha => ?_, (fun z => by cases z)⟩
            obtain ⟨r2, s2⟩ := r'.put (o := ExH (.ref (cl.cl k)) a) ha
            refine h _ _ _ _ (s.trans s2) r2 ?_
            have da : Den X.K cl (upd Sh' a (ExH (.ref (cl.cl k)) a)) (.ref a) (.exc k) := .exc upd_same
            have := (((de'.step s2).set (i := i) (w := .t (.exc k)) da).set (i := j) (w := .t (.exc k)) da).kill i
            have e3 : ((ρ1.set i (some (W.t (.exc k)))).set j (some (W.t (.exc k)))).set i none = (ρ1.set j (some (W.t (.exc k)))).set i none := by
              rw [List.set_comm _ _ (Ne.symm hl.2.2), List.set_set, List.set_comm _ _ hl.2.2]
            rw [e3] at this
            exact this
          · rw [q] at e1; exact absurd e1.symm (e2 _ _ _)
        · exact h.elim
      | false =>
        obtain ⟨W, tk, hW⟩ := h
        refine main W tk (fun k' ρ1' S1' q' σ' H' Sh' μ' s r' de' => ?_) (fun q' e1 e2 => ?_)
        · rw [q] at q'; cases q'
          exact ⟨false, rfl, hh _ _ e, (fun z => by cases z), fun _ => hW σ' H' Sh' μ' s r' de'⟩
        · rw [q] at e1; exact absurd e1.symm (e2 _ _ _)
  | _ =>
    rw [q] at h
    refine main (fun _ _ _ _ => False) takesF (fun k' ρ1' S1' q' => by rw [q] at q'; cases q') (fun q' e1 _ => by rw [q] at e1; subst e1; exact h)
end
end Rf

/-! Rf, part V: the check of a def's text, and: the readings of all statements are right. -/
namespace Rf
open PySem PySem.Spec PyProof.Rows L2
def Tg.isTp : Tg → Bool
  | .tp _ _ _ => true
  | .nm _ _ => false
def E.noComp : E → Bool
  | .comp _ _ _ _ _ _ _ => false
  | .new e => e.noComp
  | .frz e => e.noComp
  | _ => true
def E.notTup : E → Bool
  | .tup _ _ _ => false
  | .new e => e.notTup
  | .frz e => e.notTup
  | _ => true
def swB (sc : Scope) (y : Str) (py pc : Pos) (scope : Scope) : Bool := (sc.names.lookup y == some .local) && (py.line == pc.line) && !(scope.names.any fun (n, k) => n == y && (k == .local || k == .cell))
section
variable (g : Sig) (N : List Str)
def locB (sc : Scope) (i : Nat) : Bool := decide (i < N.length) && (match sc.names.lookup (nmOf N i) with | some .local => true | some .cell => true | _ => false)
def locL (sc : Scope) (i : Nat) : Bool := decide (i < N.length) && (match sc.names.lookup (nmOf N i) with | some .local => true | _ => false) && !(nmOf N i == ("__debug__" : Str)) && !(nmOf N i == ("__classdict__" : Str))
def clsB (sc : Scope) (c : Nat) : Bool := match g.cnm[c]? with | some x => glB sc x | none => false
/-- a list comprehension, perhaps a new one -/
def E.isComp : E → Bool
  | .comp _ _ _ _ _ _ _ => true
  | .new (.comp _ _ _ _ _ _ _) => true
  | _ => false
mutual
def St.wf : St → Scope → Bool
  | .set i e _ _, sc => locB N sc i && e.wf g N sc && (e.noComp || e.isComp)
  | .unp _ tg e _, sc => e.wf g N sc && tg.wf N sc (fun _ => true) && e.notTup && tg.isTp
  | .aug i _ e _ _, sc => locB N sc i && e.wf g N sc
  | .sfl o f e _ _, sc => o.wf g N sc && e.wf g N sc && decide (f < g.fld.length)
  | .ist o k e _ _, sc => o.wf g N sc && k.wf g N sc && e.wf g N sc
  | .mut _ o es pa pc _, sc => o.wf g N sc && es.wf g N sc && decide (es.len < 20) && (pa.endLine == pc.line)
  | .smu i _ o es pa pc _ _, sc => o.wf g N sc && es.wf g N sc && decide (es.len < 20) && (pa.endLine == pc.line) && locB N sc i
  | .expr e _, sc => e.wf g N sc && e.noComp
  | .doc _ _ _ _, _ => true
  | .ret e _, sc => e.wf g N sc
  | .retN _, _ => true
  | .ite c a b _, sc => c.wfT g N sc && a.wf sc && b.wf sc
  | .forr tg src body _, sc => src.wf g N tg sc && tg.wf N sc (fun _ => true) && body.wf sc
  | .whl _ c body _, sc => c.wfT g N sc && body.wf sc
  | .brk _, _ => true
  | .cont _, _ => true
  | .pass _, _ => true
  | .rai c _ _ _ _ _ _, sc => g.rz.contains c && clsB g sc c
  | .tri body c n y _ _ _ _ _ _, sc => body.wf sc && clsB g sc c && locL N sc n && locL N sc y
def Ss.wf : Ss → Scope → Bool
  | .nil, _ => true
  | .cons s r, sc => s.wf sc && r.wf sc
  | .frz _ r, sc => r.wf sc
end
end
structure SxOk (g : Sig) (N : List Str) (cl : Nm) (T : Nat → List W → Store → Res W) (k : Nat) (sc : Scope) (X : Cx) : Prop where
  c : CxOk g N cl T k sc X
  hp : PassesOwn (model X.prog X.w) X.A X.env X.xe
  hs : X.stack = X.env :: X.outer
  hf : X.env.frame = some X.env.locals
  fn : ∀ x, X.fn x = true
  kind : X.env.scope.kind = .function
theorem SxOk.tr {g : Sig} {N : List Str} {cl : Nm} {T : Nat → List W → Store → Res W} {k : Nat} {sc : Scope} {X : Cx} (h : SxOk g N cl T k sc X) (pl : List (Addr × Obj)) (xe : Value → Shared → Prop) (hp : PassesOwn (model X.prog X.w) X.A X.env xe) : SxOk g N cl T k sc (X.tr pl xe) :=
  ⟨⟨h.c.n, h.c.nd, h.c.sc, h.c.calm, h.c.room, h.c.g⟩, hp, h.hs, h.hf, h.fn, h.kind⟩
section
variable {g : Sig} {N : List Str} {cl : Nm} {T : Nat → List W → Store → Res W} {k : Nat}
theorem sw_none : ∀ (m : E), m.noComp = true → ∀ (tg : Option Expr) (l : Nat) (env : Env), swapsWith (m.py g N) tg l env = pure false
  | .comp _ _ _ _ _ _ _, h, _, _, _ => by cases h
  | .new e, h, tg, l, env => sw_none e h tg l env
  | .frz e, h, tg, l, env => sw_none e h tg l env
  | .var _ _, _, _, _, _ => rfl
  | .int _ _ _, _, _, _, _ => rfl
  | .str _ _ _, _, _, _, _ => rfl
  | .bl _ _ _, _, _, _, _ => rfl
  | .non _ _, _, _, _, _ => rfl
  | .glo _ _, _, _, _, _ => rfl
  | .bin _ _ _ _, _, _, _, _ => rfl
  | .neg _ _, _, _, _, _ => rfl
  | .cmp _ _ _ _, _, _, _, _ => rfl
  | .ch2 _ _ _ _ _ _, _, _, _, _ => rfl
  | .ch3 _ _ _ _ _ _ _ _, _, _, _, _ => rfl
  | .bop _ _ _, _, _, _, _ => rfl
  | .not _ _, _, _, _, _ => rfl
  | .ife _ _ _ _, _, _, _, _ => rfl
  | .lst _ _, _, _, _, _ => rfl
  | .tup _ _ _, _, _, _, _ => rfl
  | .dct0 _ _, _, _, _, _ => rfl
  | .call _ _ _ _, _, _, _, _ => rfl
  | .mk _ _ _ _ _, _, _, _, _ => rfl
  | .bfn _ _ _ _, _, _, _, _ => rfl
  | .mth _ _ _ _ _, _, _, _, _ => rfl
  | .ix _ _ _, _, _, _, _ => rfl
  | .sl _ _ _ _ _, _, _, _, _ => rfl
  | .fld _ _ _, _, _, _, _ => rfl
  | .isi _ _ _ _ _, _, _, _, _ => rfl
  | .isis _ _ _ _ _ _, _, _, _, _ => rfl
  | .orl _ _ _, _, _, _, _ => rfl
  | .fmt _ _, _, _, _, _ => rfl
  | .fstr _ _, _, _, _, _ => rfl
  | .popx _ _ _ _, _, _, _, _ => rfl
  | .lens _ _ _ _ _, _, _, _, _ => rfl
/-- a target that is no name -/
theorem sw_other {tg : Expr} (h : ∀ x p, tg ≠ .Name x p) : ∀ (m : E) (l : Nat) (env : Env), swapsWith (m.py g N) (some tg) l env = pure false
  | .comp _ _ _ _ _ _ _, _, _ => by cases tg <;> first | rfl | exact absurd rfl (h _ _)
  | .new e, l, env => sw_other h e l env
  | .frz e, l, env => sw_other h e l env
  | .var _ _, _, _ => rfl
  | .int _ _ _, _, _ => rfl
  | .str _ _ _, _, _ => rfl
  | .bl _ _ _, _, _ => rfl
  | .non _ _, _, _ => rfl
  | .glo _ _, _, _ => rfl
  | .bin _ _ _ _, _, _ => rfl
  | .neg _ _, _, _ => rfl
  | .cmp _ _ _ _, _, _ => rfl
  | .ch2 _ _ _ _ _ _, _, _ => rfl
  | .ch3 _ _ _ _ _ _ _ _, _, _ => rfl
  | .bop _ _ _, _, _ => rfl
  | .not _ _, _, _ => rfl
  | .ife _ _ _ _, _, _ => rfl
  | .lst _ _, _, _ => rfl
  | .tup _ _ _, _, _ => rfl
  | .dct0 _ _, _, _ => rfl
  | .call _ _ _ _, _, _ => rfl
  | .mk _ _ _ _ _, _, _ => rfl
  | .bfn _ _ _ _, _, _ => rfl
  | .mth _ _ _ _ _, _, _ => rfl
  | .ix _ _ _, _, _ => rfl
  | .sl _ _ _ _ _, _, _ => rfl
  | .fld _ _ _, _, _ => rfl
  | .isi _ _ _ _ _, _, _ => rfl
  | .isis _ _ _ _ _ _, _, _ => rfl
  | .orl _ _ _, _, _ => rfl
  | .fmt _ _, _, _ => rfl
  | .fstr _ _, _, _ => rfl
  | .popx _ _ _ _, _, _ => rfl
  | .lens _ _ _ _ _, _, _ => rfl
theorem sw_sole {tg : Expr} (h : ∀ x p, tg ≠ .Name x p) (m : E) (l : Nat) (env : Env) : swapsWithSole [tg] (m.py g N) l env = pure false := sw_other h m l env
theorem ss_none {tg : Expr} : ∀ (m : E), m.notTup = true → ∀ (env : Env), swappedStores [tg] (m.py g N) env = pure none
  | .tup _ _ _, h, _ => by cases h
  | .new e, h, env => ss_none e h env
  | .frz e, h, env => ss_none e h env
  | .comp _ _ _ _ _ _ _, _, _ => by cases tg <;> rfl
  | .var _ _, _, _ => by cases tg <;> rfl
  | .int _ _ _, _, _ => by cases tg <;> rfl
  | .str _ _ _, _, _ => by cases tg <;> rfl
  | .bl _ _ _, _, _ => by cases tg <;> rfl
  | .non _ _, _, _ => by cases tg <;> rfl
  | .glo _ _, _, _ => by cases tg <;> rfl
  | .bin _ _ _ _, _, _ => by cases tg <;> rfl
  | .neg _ _, _, _ => by cases tg <;> rfl
  | .cmp _ _ _ _, _, _ => by cases tg <;> rfl
  | .ch2 _ _ _ _ _ _, _, _ => by cases tg <;> rfl
  | .ch3 _ _ _ _ _ _ _ _, _, _ => by cases tg <;> rfl
  | .bop _ _ _, _, _ => by cases tg <;> rfl
  | .not _ _, _, _ => by cases tg <;> rfl
  | .ife _ _ _ _, _, _ => by cases tg <;> rfl
  | .lst _ _, _, _ => by cases tg <;> rfl
  | .dct0 _ _, _, _ => by cases tg <;> rfl
  | .call _ _ _ _, _, _ => by cases tg <;> rfl
  | .mk _ _ _ _ _, _, _ => by cases tg <;> rfl
  | .bfn _ _ _ _, _, _ => by cases tg <;> rfl
  | .mth _ _ _ _ _, _, _ => by cases tg <;> rfl
  | .ix _ _ _, _, _ => by cases tg <;> rfl
  | .sl _ _ _ _ _, _, _ => by cases tg <;> rfl
  | .fld _ _ _, _, _ => by cases tg <;> rfl
  | .isi _ _ _ _ _, _, _ => by cases tg <;> rfl
  | .isis _ _ _ _ _ _, _, _ => by cases tg <;> rfl
  | .orl _ _ _, _, _ => by cases tg <;> rfl
  | .fmt _ _, _, _ => by cases tg <;> rfl
  | .fstr _ _, _, _ => by cases tg <;> rfl
  | .popx _ _ _ _, _, _ => by cases tg <;> rfl
  | .lens _ _ _ _ _, _, _ => by cases tg <;> rfl
theorem asg_sub : ∀ (o : Expr) (m : E) (p : Pos) (env : Env), AsgSub o (m.py g N) p env
  | _, .new e, p, env => asg_sub _ e p env
  | _, .frz e, p, env => asg_sub _ e p env
  | _, .tup _ _ _, _, _ => fun _ => rfl
  | _, .comp _ _ _ _ _ _ _, _, _ => fun _ => rfl
  | _, .var _ _, _, _ => fun _ => rfl
  | _, .int _ _ _, _, _ => fun _ => rfl
  | _, .str _ _ _, _, _ => fun _ => rfl
  | _, .bl _ _ _, _, _ => fun _ => rfl
  | _, .non _ _, _, _ => fun _ => rfl
  | _, .glo _ _, _, _ => fun _ => rfl
  | _, .bin _ _ _ _, _, _ => fun _ => rfl
  | _, .neg _ _, _, _ => fun _ => rfl
  | _, .cmp _ _ _ _, _, _ => fun _ => rfl
  | _, .ch2 _ _ _ _ _ _, _, _ => fun _ => rfl
  | _, .ch3 _ _ _ _ _ _ _ _, _, _ => fun _ => rfl
  | _, .bop _ _ _, _, _ => fun _ => rfl
  | _, .not _ _, _, _ => fun _ => rfl
  | _, .ife _ _ _ _, _, _ => fun _ => rfl
  | _, .lst _ _, _, _ => fun _ => rfl
  | _, .dct0 _ _, _, _ => fun _ => rfl
  | _, .call _ _ _ _, _, _ => fun _ => rfl
  | _, .mk _ _ _ _ _, _, _ => fun _ => rfl
  | _, .bfn _ _ _ _, _, _ => fun _ => rfl
  | _, .mth _ _ _ _ _, _, _ => fun _ => rfl
  | _, .ix _ _ _, _, _ => fun _ => rfl
  | _, .sl _ _ _ _ _, _, _ => fun _ => rfl
  | _, .fld _ _ _, _, _ => fun _ => rfl
  | _, .isi _ _ _ _ _, _, _ => fun _ => rfl
  | _, .isis _ _ _ _ _ _, _, _ => fun _ => rfl
  | _, .orl _ _ _, _, _ => fun _ => rfl
  | _, .fmt _ _, _, _ => fun _ => rfl
  | _, .fstr _ _, _, _ => fun _ => rfl
  | _, .popx _ _ _ _, _, _ => fun _ => rfl
  | _, .lens _ _ _ _ _, _, _ => fun _ => rfl
theorem sw_comp {elt : Expr} {gs : List Comprehension} {scope : Scope} {pc py : Pos} {y : Str} {l : Nat} {env : Env} (hk : env.scope.kind = .function) : swapsWith (.ListComp elt gs scope pc) (some (.Name y py)) l env = pure (swB env.scope y py pc scope) := by
  have hb : env.blockKind = .function := by unfold Env.blockKind; rw [hk]; rfl
  unfold swapsWith
  simp only [hb]
  rfl
theorem sr_fold {sc : Scope} (src : Sr) {tg : Tg} (h : src.wf g N tg sc = true) (env : Env) : ∀ x, foldedSetIterable (src.py g N) env x = pure x := by
  intro x
  cases src with
  | seq e => exact (plain_py e h).fold _ _
  | rng es _ _ => rfl
  | enum e _ _ => rfl
  | zip a b _ _ => rfl
  | rev e _ _ => rfl
theorem gf_of_gr {X : Cx} {σ : L2.St} {Sh : Hp} {μ : List Addr} {Q : VK} {r : Res W} (hf : ∀ w S1, r = .ok w S1 → ∃ o : Ob, w = .t o.tree ∧ o.ld = true) (q : GR X cl σ Sh μ (DenW X.K cl) Q r) : GF X cl σ Sh μ Q r := by
  cases r with
  | exc c S1 => exact q
  | bad => exact q.elim
  | ok w S1 =>
    obtain ⟨o, rfl, hl⟩ := hf _ _ rfl
    refine ⟨o, rfl, hl, fun p H' Sh' μ' s1 r1 n1 n2 ob => ?_⟩
    obtain ⟨u, hu⟩ := ob.some
    have s2 : Step Sh' μ' (upd Sh' p u) μ' := ⟨fun b v q => by rw [upd_ne (ne_of_none q n1)]; exact q, fun _ _ z => z⟩
    refine q _ H' _ _ (s1.trans s2) (r1.share hu n1 n2) ?_
    cases o with
    | lst ds => obtain ⟨vs, h1, h2⟩ := ob; rw [hu] at h1; cases h1; exact Den.lst (.inl upd_same) (h2.mono s2.sh)
    | dct t ds =>
      cases t with
      | false => obtain ⟨vs, h1, h2⟩ := ob; rw [hu] at h1; cases h1; exact Den.dK upd_same (h2.mono s2.sh)
      | true => obtain ⟨vs, h1, h2⟩ := ob; rw [hu] at h1; cases h1; exact Den.dT upd_same (h2.mono s2.sh)
    | ins _ _ => cases hl
theorem gf_new {X : Cx} {σ : L2.St} {Sh : Hp} {μ : List Addr} {Q : VK} {r : Res W} (g : GR X cl σ Sh μ (DenW X.K cl) Q (bnd r fun x S1 => match x with
    | .t (.lst ds) => .ok (.loc S1.length) (S1 ++ [some (.lst ds)])
    | .t (.dct t ds) => .ok (.loc S1.length) (S1 ++ [some (.dct t ds)])
    | _ => .bad)) : GF X cl σ Sh μ Q r := by
  have fin : ∀ (o : Ob) (S1 : Store), GR X cl σ Sh μ (DenW X.K cl) Q (.ok (.loc S1.length) (S1 ++ [some o])) → NxtF X cl Sh μ S1 o Q := by
    intro o S1 g p H' Sh' μ' s1 r1 n1 n2 ob
    obtain ⟨r2, s2⟩ := r1.alloc n1 n2 ob
    exact g (.ref p) H' Sh' _ (s1.trans s2) r2 ⟨p, by rw [← r1.len]; simp, rfl⟩
  cases r with
  | ok w S1 =>
    cases w with
    | loc n => exact g.elim
    | t d =>
      cases d with
      | lst ds => exact ⟨.lst ds, rfl, rfl, fin (.lst ds) S1 g⟩
      | dct t ds => exact ⟨.dct t ds, rfl, rfl, fin (.dct t ds) S1 g⟩
      | _ => exact g.elim
  | exc c S1 => exact g
  | bad => exact g.elim
end
end Rf

/-! Rf, part W: the readings of all statements are right. -/
namespace Rf
open PySem PySem.Spec PyProof.Rows L2
section
variable {g : Sig} {N : List Str} {cl : Nm} {T : Nat → List W → Store → Res W} {k : Nat}
theorem comp_core {sc : Scope} {X : Cx} {elt : E} {tg : Tg} {src : Sr} {ifs : Es} {scope : Scope} {own : List (Str × Nat)} {p : Pos} (c : CxOk g N cl T k sc X) (h : (E.comp elt tg src ifs scope own p).wf g N sc = true) :
    ∀ {ρ : Env'} {S : Store} {σ : L2.St} {H Sh : Hp} {μ : List Addr} {Q : VK}, Rel X.K cl Sh H μ S → DenE X.K cl Sh μ σ ρ → GF X cl σ Sh μ Q ((E.comp elt tg src ifs scope own p).ev T g ρ S) →
      ∃ (wi : TI) (gg : TG) (tt : TT) (te : TE), PI X (tg.py N) (src.py g N) wi ∧ BlkOk X.N X.env.scope scope own ∧
        (∀ (s : Shared) (H : Hp) (C : Addr) (cl : List (Str × Addr)) (fp : List Addr), PG (X.blk s H scope (compEnvC scope cl C X.env) fp) (tg.py N) gg) ∧
        (∀ (s : Shared) (H : Hp) (C : Addr) (cl : List (Str × Addr)) (fp : List Addr), PTs (X.blk s H scope (compEnvC scope cl C X.env) fp) (ifs.py g N) tt) ∧
        (∀ (s : Shared) (H : Hp) (C : Addr) (cl : List (Str × Addr)) (fp : List Addr), PE (X.blk s H scope (compEnvC scope cl C X.env) fp) (elt.py g N) te) ∧ (∀ x, foldedSetIterable (src.py g N) X.env x = pure x) ∧
        tLc wi gg tt te (own.map (·.2)) σ H Q := by
  obtain ⟨h', h7⟩ := and2 (show (src.wf g N tg sc && blkC N sc scope own && tg.wf N (relS scope sc) (fun x => scope.names.lookup x == some .cell) && tg.ix.all (fun i => (own.map (·.2)).contains i) &&
      elt.wf g N (relS scope sc) && ifs.wfT g N (relS scope sc) && decide (ifs.len ≤ 1)) = true from h)
  obtain ⟨h', h6⟩ := and2 h'
  obtain ⟨h', h5⟩ := and2 h'
  obtain ⟨h', h4⟩ := and2 h'
  obtain ⟨h', h3⟩ := and2 h'
  obtain ⟨h1, h2⟩ := and2 h'
  exact sn_comp c h (sI src tg c h1) (fun X' c' => sP ifs c' h6 (of_decide_eq_true h7)) (fun X' c' => sE elt c' h5)
theorem ss_setcomp {sc : Scope} {X : Cx} {elt : E} {tg : Tg} {src : Sr} {ifs : Es} {scope : Scope} {own : List (Str × Nat)} {pc px p : Pos} {i : Nat} {f : Env' → Store → Res W} (c : SxOk g N cl T k sc X) (h : (E.comp elt tg src ifs scope own pc).wf g N sc = true)
    (he : SE X cl ((E.comp elt tg src ifs scope own pc).py g N) f) (hf : ∀ {ρ : Env'} {S : Store} {σ : L2.St} {Sh : Hp} {μ : List Addr} {Q : VK}, GR X cl σ Sh μ (DenW X.K cl) Q (f ρ S) → GF X cl σ Sh μ Q ((E.comp elt tg src ifs scope own pc).ev T g ρ S))
    (hi : X.N[i]? = some (nmOf N i)) (hx : Loc X.env.scope (nmOf N i)) :
    SS X cl (.Assign [.Name (nmOf N i) px] ((E.comp elt tg src ifs scope own pc).py g N) p) (fun ρ S => lift ρ (f ρ S) fun w S1 => setE ρ i w S1) := by
  have hN : X.N.Nodup := by rw [c.c.n]; exact c.c.nd
  cases hb : swB X.env.scope (nmOf N i) px pc scope with
  | false => exact ss_set hN hi hx (.inl (c.fn _)) he ((sw_comp c.kind).trans (by rw [hb]))
  | true =>
    intro ρ S σ H Sh μ D r de hp
    have hq : GR X cl σ Sh μ (DenW X.K cl) (fun v H1 => D.nx (σ.set i (some v)) H1) (f ρ S) := by
      refine GR.imp ?_ (PostS.lift (R := DenW X.K cl) de hp)
      rintro v H1 ⟨Sh1, μ1, w, S1, s1, r1, d1, g1⟩
      exact g1.setE r1 (de.step s1) d1
    obtain ⟨wi, gg, tt, te, h1, h2, h3, h4, h5, h6, h7⟩ := comp_core c.c h r de (hf hq)
    have hyl : X.env.scope.names.lookup (nmOf N i) = some .local := by
      unfold swB at hb
      exact eq_of_beq (and2 (and2 hb).1).1
    exact WS.of (ps_setLc c.c.calm hN hi hyl ((sw_comp c.kind).trans (by rw [hb])) h1 h2 h3 h4 h5 h6) h7
theorem comp_tree {elt : E} {tg : Tg} {src : Sr} {ifs : Es} {scope : Scope} {own : List (Str × Nat)} {p : Pos} {ρ : Env'} {S S1 : Store} {w : W} (q : (E.comp elt tg src ifs scope own p).ev T g ρ S = .ok w S1) : ∃ o : Ob, w = .t o.tree ∧ o.ld = true := by
  simp only [E.ev] at q
  obtain ⟨items, S2, _, q2⟩ := bnd_ok q
  unfold compRes at q2
  split at q2
  · split at q2
    · cases q2; exact ⟨.lst _, rfl, rfl⟩
    · cases q2
  · cases q2
theorem SxOk.nd' {sc : Scope} {X : Cx} (c : SxOk g N cl T k sc X) : X.N.Nodup := by rw [c.c.n]; exact c.c.nd
theorem loc_ok {sc : Scope} {X : Cx} (c : SxOk g N cl T k sc X) {i : Nat} (h : locB N sc i = true) : X.N[i]? = some (nmOf N i) ∧ Loc X.env.scope (nmOf N i) := by
  obtain ⟨h1, h2⟩ := and2 h
  refine ⟨nm_ok (of_decide_eq_true h1) c.c, ?_⟩
  unfold L2.Loc
  rw [c.c.sc]
  split at h2
  · rename_i e; exact .inl e
  · rename_i e; exact .inr e
  · cases h2
theorem locL_ok {sc : Scope} {X : Cx} (c : SxOk g N cl T k sc X) {i : Nat} (h : locL N sc i = true) : X.N[i]? = some (nmOf N i) ∧ X.env.scope.names.lookup (nmOf N i) = some .local ∧ (nmOf N i == ("__debug__" : Str)) = false ∧ (nmOf N i == ("__classdict__" : Str)) = false := by
  obtain ⟨h, h4⟩ := and2 h
  obtain ⟨h, h3⟩ := and2 h
  obtain ⟨h1, h2⟩ := and2 h
  refine ⟨nm_ok (of_decide_eq_true h1) c.c, ?_, not1 h3, not1 h4⟩
  rw [c.c.sc]
  split at h2
  · rename_i e; exact e
  · cases h2
theorem cls_ok {sc : Scope} {X : Cx} (c : SxOk g N cl T k sc X) {i : Nat} (h : clsB g sc i = true) : ∃ x, g.cnm[i]? = some x ∧ nmOf g.cnm i = x ∧ Gl X x ∧ (x == ("__debug__" : Str)) = false ∧ X.mg x = some (.ref (cl.cl i)) := by
  unfold clsB at h
  split at h
  · rename_i x e
    obtain ⟨a, b⟩ := c.c.gl h
    exact ⟨x, e, by unfold nmOf; rw [e]; rfl, a, b, c.c.g.cn i x e⟩
  · cases h
mutual
theorem sSt : ∀ (m : St) {sc : Scope} {X : Cx}, SxOk g N cl T k sc X → m.wf g N sc = true → SS X cl (m.py g N) (m.ev T g)
  | .set i e px p, sc, X, c, h => by
    obtain ⟨h, h3⟩ := and2 (show (locB N sc i && e.wf g N sc && (e.noComp || e.isComp)) = true from h)
    obtain ⟨h1, h2⟩ := and2 h
    obtain ⟨hi, hx⟩ := loc_ok c h1
    have he := sE e c.c h2
    refine ss_imp (f := fun ρ S => lift ρ (e.ev T g ρ S) fun w S1 => setE ρ i w S1) ?_ fun ρ S => by simp only [St.ev]
    cases hn : e.noComp with
    | true => exact ss_set c.nd' hi hx (.inl (c.fn _)) he (sw_none e hn _ _ _)
    | false =>
      rw [hn, Bool.false_or] at h3
      cases e with
      | comp elt tg src ifs scope own pc => exact ss_setcomp c h2 he (fun q => gf_of_gr (fun w S1 e1 => comp_tree e1) q) hi hx
      | new e =>
        cases e with
        | comp elt tg src ifs scope own pc => exact ss_setcomp c (and2 h2).1 he (fun q => gf_new (by simp only [E.ev] at q; exact q)) hi hx
        | _ => cases h3
      | _ => cases h3
  | .unp l tg e p, sc, X, c, h => by
    obtain ⟨h, h4⟩ := and2 (show (e.wf g N sc && tg.wf N sc (fun _ => true) && e.notTup && tg.isTp) = true from h)
    obtain ⟨h, h3⟩ := and2 h
    obtain ⟨h1, h2⟩ := and2 h
    have ok := c.c.tg (fun x _ => c.fn x) h2
    cases tg with
    | nm i q => cases h4
    | tp is kk q => exact ss_imp (ss_unp ok (sE e c.c h1) (sw_sole (fun _ _ z => by cases z) e _ _) (ss_none e h3 _)) fun ρ S => by first | (simp only [St.ev]; done) | (simp only [St.ev]; rfl)
  | .aug i o e px p, sc, X, c, h => by
    obtain ⟨h1, h2⟩ := and2 (show (locB N sc i && e.wf g N sc) = true from h)
    obtain ⟨hi, hx⟩ := loc_ok c h1
    exact ss_imp (ss_aug c.nd' hi hx (.inl (c.fn _)) (sE e c.c h2)) fun ρ S => by first | (simp only [St.ev]; done) | (simp only [St.ev]; rfl)
  | .sfl o f e pa p, sc, X, c, h => by
    obtain ⟨h, h3⟩ := and2 (show (o.wf g N sc && e.wf g N sc && decide (f < g.fld.length)) = true from h)
    obtain ⟨h1, h2⟩ := and2 h
    have hx : cl.fn f = nmOf g.fld f := c.c.g.fld f _ (nmOf_get (of_decide_eq_true h3))
    exact ss_imp (ss_sfl (na := g.na) (sE o c.c h1) (sE e c.c h2) (sw_other (fun _ _ z => by cases z) e _ _) hx (fun cc hc => c.c.g.na cc f hc)) fun ρ S => by first | (simp only [St.ev]; done) | (simp only [St.ev]; rfl)
  | .ist o k' e ps p, sc, X, c, h => by
    obtain ⟨h, h3⟩ := and2 (show (o.wf g N sc && k'.wf g N sc && e.wf g N sc) = true from h)
    obtain ⟨h1, h2⟩ := and2 h
    exact ss_imp (ss_ist c.c.hu (sE o c.c h1) (sE k' c.c h2) (sE e c.c h3) (sw_sole (fun _ _ z => by cases z) e _ _) (asg_sub _ k' _ _)) fun ρ S => by first | (simp only [St.ev]; done) | (simp only [St.ev]; rfl)
  | .mut m o es pa pc p, sc, X, c, h => by
    obtain ⟨h, h4⟩ := and2 (show (o.wf g N sc && es.wf g N sc && decide (es.len < 20) && (pa.endLine == pc.line)) = true from h)
    obtain ⟨h, h3⟩ := and2 h
    obtain ⟨h1, h2⟩ := and2 h
    exact ss_imp (ss_mut (plain_py o h1) (plains es h2) (by rw [Es.len_py]; exact of_decide_eq_true h3) h4 (sE o c.c h1) (sA es c.c h2) (fun z ρ S => Es.ev_nil z ρ S)) fun ρ S => by first | (simp only [St.ev]; done) | (simp only [St.ev]; rfl)
  | .smu i m o es pa pc px p, sc, X, c, h => by
    obtain ⟨h, h5⟩ := and2 (show (o.wf g N sc && es.wf g N sc && decide (es.len < 20) && (pa.endLine == pc.line) && locB N sc i) = true from h)
    obtain ⟨h, h4⟩ := and2 h
    obtain ⟨h, h3⟩ := and2 h
    obtain ⟨h1, h2⟩ := and2 h
    obtain ⟨hi, hx⟩ := loc_ok c h5
    exact ss_imp (ss_smu (plain_py o h1) (plains es h2) (by rw [Es.len_py]; exact of_decide_eq_true h3) h4 (sE o c.c h1) (sA es c.c h2) (fun z ρ S => Es.ev_nil z ρ S) c.nd' hi hx (.inl (c.fn _))) fun ρ S => by first | (simp only [St.ev]; done) | (simp only [St.ev]; rfl)
  | .expr e p, sc, X, c, h => by
    obtain ⟨h1, h2⟩ := and2 (show (e.wf g N sc && e.noComp) = true from h)
    exact ss_imp (ss_expr (sE e c.c h1) (sw_none e h2 _ _ _)) fun ρ S => by first | (simp only [St.ev]; done) | (simp only [St.ev]; rfl)
  | .doc s k' p p', sc, X, c, h => ss_imp ss_doc fun ρ S => by first | (simp only [St.ev]; done) | (simp only [St.ev]; rfl)
  | .ret e p, sc, X, c, h => ss_imp (ss_ret (sE e c.c h)) fun ρ S => by first | (simp only [St.ev]; done) | (simp only [St.ev]; rfl)
  | .retN p, sc, X, c, h => ss_imp ss_retN fun ρ S => by first | (simp only [St.ev]; done) | (simp only [St.ev]; rfl)
  | .ite e a b p, sc, X, c, h => by
    obtain ⟨h, h3⟩ := and2 (show (e.wfT g N sc && a.wf g N sc && b.wf g N sc) = true from h)
    obtain ⟨h1, h2⟩ := and2 h
    exact ss_imp (ss_ite (sT e c.c h1) (sSs a c h2) (sSs b c h3)) fun ρ S => by first | (simp only [St.ev]; done) | (simp only [St.ev]; rfl)
  | .forr tg src body p, sc, X, c, h => by
    obtain ⟨h, h3⟩ := and2 (show (src.wf g N tg sc && tg.wf N sc (fun _ => true) && body.wf g N sc) = true from h)
    obtain ⟨h1, h2⟩ := and2 h
    exact ss_imp (ss_for c.hp (c.c.tg (fun x _ => c.fn x) h2) (sI src tg c.c h1) (sSs body c h3) (sr_fold src h1 _)) fun ρ S => by first | (simp only [St.ev]; done) | (simp only [St.ev]; rfl)
  | .whl n e body p, sc, X, c, h => by
    obtain ⟨h1, h2⟩ := and2 (show (e.wfT g N sc && body.wf g N sc) = true from h)
    exact ss_imp (ss_whl c.hp (sT e c.c h1) (sSs body c h2)) fun ρ S => by first | (simp only [St.ev]; done) | (simp only [St.ev]; rfl)
  | .brk p, sc, X, c, h => ss_imp ss_brk fun ρ S => by first | (simp only [St.ev]; done) | (simp only [St.ev]; rfl)
  | .cont p, sc, X, c, h => ss_imp ss_cont fun ρ S => by first | (simp only [St.ev]; done) | (simp only [St.ev]; rfl)
  | .pass p, sc, X, c, h => ss_imp ss_pass fun ρ S => by first | (simp only [St.ev]; done) | (simp only [St.ev]; rfl)
  | .rai i m k' pn p2 pc p, sc, X, c, h => by
    obtain ⟨h1, h2⟩ := and2 (show (g.rz.contains i && clsB g sc i) = true from h)
    obtain ⟨x, e, hn, hg, hd, hm⟩ := cls_ok c h2
    obtain ⟨bmB, B, newId, initId, F, q, kC, k1, k2⟩ := c.c.g.rai i (by simpa using h1)
    have := ss_rai (cl := cl) (c := i) (k := k') (m := m) (pn := pn) (p2 := p2) (pc := pc) (p := p) rfl c.c.calm F q hm kC k1 k2 hg hd
    rw [← hn] at this
    exact ss_imp this fun ρ S => by first | (simp only [St.ev]; done) | (simp only [St.ev]; rfl)
  | .tri body i n y pc py pn pa ph p, sc, X, c, h => by
    obtain ⟨h, h4⟩ := and2 (show (body.wf g N sc && clsB g sc i && locL N sc n && locL N sc y) = true from h)
    obtain ⟨h, h3⟩ := and2 h
    obtain ⟨h1, h2⟩ := and2 h
    obtain ⟨x, e, hn, hg, hd, hm⟩ := cls_ok c h2
    obtain ⟨a1, a2, a3, a4⟩ := locL_ok c h3
    obtain ⟨b1, b2, b3, b4⟩ := locL_ok c h4
    have := ss_tri (cl := cl) (c := i) (np := pc) (py := py) (pn := pn) (pa := pa) (pos := p) (pos' := ph) (hit := fun c' => g.hit c' i) c.hs c.hf c.nd' a1 a2 b1 b2 ⟨hg, hd, .inl hm⟩ a3 a4 (fun k b e => c.c.g.hit k i b e) (fun pl xe hp => sSs body (c.tr pl xe hp) h1)
    rw [← hn] at this
    exact ss_imp this fun ρ S => by first | (simp only [St.ev]; done) | (simp only [St.ev]; rfl)
theorem sSs : ∀ (m : Ss) {sc : Scope} {X : Cx}, SxOk g N cl T k sc X → m.wf g N sc = true → SSs X cl (m.py g N) (m.ev T g)
  | .nil, _, _, _, _ => sss_imp sss_nil fun ρ S => by first | (simp only [Ss.ev]; done) | (simp only [Ss.ev]; rfl)
  | .cons s r, sc, X, c, h => sss_imp (sss_cons (sSt s c (and2 h).1) (sSs r c (and2 h).2)) fun ρ S => by first | (simp only [Ss.ev]; done) | (simp only [Ss.ev]; rfl)
  | .frz i r, sc, X, c, h => sss_imp (sss_frz (sSs r c h)) fun ρ S => by first | (simp only [Ss.ev]; done) | (simp only [Ss.ev]; rfl)
end
end
end Rf

/-! Rf, part X: defs, the law's end. -/
namespace Rf
open PySem PySem.Spec PyProof.Rows L2
structure FD where
  N : List Str
  np : Nat
  body : Ss
  scope : Scope
/-- what a def leaves of the store -/
def leave (b : Nat) (w : W) (S : Store) : Res W := match w with
  | .t d => .ok (.t d) (S.take b)
  | .loc n => if n < b then .ok (.loc n) (S.take b) else match get S n with
    | some o => if b ≤ S.length then .ok (.loc b) (S.take b ++ [some o]) else .bad
    | none => .bad
def endF (b : Nat) : FR → Res W
  | .ret w S => leave b w S
  | .next _ S => .ok (.t .non) (S.take b)
  | .exc c _ S => .exc c (S.take b)
  | _ => .bad
def startE (n : Nat) (ws : List W) : Env' := ws.map some ++ List.replicate (n - ws.length) none
def runF (g : Sig) (T : Nat → List W → Store → Res W) (fd : FD) (ws : List W) (S : Store) : Res W :=
  if ws.length = fd.np then endF S.length (fd.body.ev T g (startE fd.N.length ws) S) else .bad
def Tn (g : Sig) (fs : List FD) : Nat → Nat → List W → Store → Res W
  | 0, _, _, _ => .bad
  | n + 1, f, ws, S => match fs[f]? with
    | some fd => runF g (Tn g fs n) fd ws S
    | none => .bad
theorem funD_of {K : PySem.W.Frag} {x qual : Str} {st : Stmt} {a : Addr} {fdt : FuncData} (F : Fun K x qual st a fdt) : FunD K x qual (defArgs st) (defBody st) (defScope st) [] [] a fdt := by
  obtain ⟨oc, od, kV, doc, pm, an, cdv, ct, osl, e, lk, hcd⟩ := F.ex
  exact ⟨⟨oc, od, .none, kV, doc, pm, an, cdv, ct, osl, e, lk, hcd, .inl ⟨rfl, rfl⟩, .inl rfl⟩, F.kp⟩
structure FnA (K : PySem.W.Frag) (g : Sig) (fs : List FD) (f : Nat) (a : Addr) (fdt : FuncData) (ps : List Str) : Prop where
  ex : ∃ (x qual : Str) (st : Stmt) (fd : FD) (dvs : List V), fs[f]? = some fd ∧ FunD K x qual (defArgs st) (defBody st) (defScope st) dvs [] a fdt ∧ defBody st = fd.body.py g fd.N ∧ defScope st = fd.scope ∧ FnScope fd.N ps fd.scope ∧ ps.length = fd.np ∧ fd.body.wf g fd.N fd.scope = true
structure MOk (g : Sig) (cl : Nm) (fs : List FD) (K : PySem.W.Frag) (mg : Str → Option Value) : Prop where
  bi : ∀ x ∈ g.bi, mg x = none
  cst : ∀ (i : Nat) (x : Str) (d : D), g.cst[i]? = some (x, d) → ∃ v u, mg x = some u ∧ RelV v u ∧ ∀ H, Den K cl H v d
  fn : ∀ (f : Nat) (x : Str), g.fnm[f]? = some x → x ≠ Str.empty → ∃ a fd ps, mg x = some (.ref a) ∧ PySem.W.keepIn K (.ref a) = true ∧ Binds K fd ps [] ∧ FnA K g fs f a fd ps
  mkc : ∀ (c nd : Nat), (c, nd) ∈ g.mkn → ∃ x fI fd ps, g.cnm[c]? = some x ∧ mg x = some (.ref (cl.cl c)) ∧ Mk K (cl.cl c) fI ∧ Binds K fd ps (List.replicate nd Value.none) ∧ FnA K g fs ((g.ini[c]?).getD 0) fI fd ps
  fld : ∀ (i : Nat) (x : Str), g.fld[i]? = some x → cl.fn i = x
  na : ∀ (c f : Nat), (c, f) ∈ g.na → Cls K (cl.cl c) ∧ NoAttr K (cl.cl c) (cl.fn f)
  cn : ∀ (c : Nat) (x : Str), g.cnm[c]? = some x → mg x = some (.ref (cl.cl c))
  kit : ∀ t c b, g.kit t c = some b → PySem.W.kitOne K (tyV cl t) (clV cl c) = some b
  ins : ∀ c u b, g.kit (.own c) u = some b → InsOk K (cl.cl c)
  exc : ∀ c u b, g.kit (.exc c) u = some b → ExcK K (cl.cl c)
  hit : ∀ c d b, g.hit c d = some b → PySem.W.exmOne K (.ref (cl.cl c)) (.ref (cl.cl d)) = some b
  rai : ∀ c ∈ g.rz, ∃ bmB B newId initId, ExcBaseFacts B newId initId bmB ∧ PySem.W.excIn K (cl.cl c) bmB newId = true ∧ PySem.W.keepIn K (.ref (cl.cl c)) = true ∧ PySem.W.subIn K (.ref (cl.cl c)) (.type "BaseException") = some true ∧ PySem.W.typeIn K (.ref (cl.cl c)) = some (.type "type")
section
variable {g : Sig} {cl : Nm} {fs : List FD} {K : PySem.W.Frag} {mg : Str → Option Value} {P : Program} {w : World} {base : Heap}
theorem DenWs.length {Sh : Hp} {μ : List Addr} : ∀ {vs : List V} {ws : List W}, DenWs K cl Sh μ vs ws → vs.length = ws.length
  | _, _, .nil => rfl
  | _, _, .cons _ r => congrArg (· + 1) r.length
theorem DenWs.at {Sh : Hp} {μ : List Addr} : ∀ {vs : List V} {ws : List W} {i : Nat} {u : W}, DenWs K cl Sh μ vs ws → ws[i]? = some u → ∃ v, vs[i]? = some v ∧ DenW K cl Sh μ v u
  | _, _, _, _, .nil, e => by simp at e
  | _, _, 0, _, .cons h _, e => by simp at e; subst e; exact ⟨_, rfl, h⟩
  | _, _, i + 1, x, .cons _ r, e => by
    obtain ⟨y, h1, h2⟩ := r.at (i := i) (u := x) (by simpa using e)
    exact ⟨y, by simpa using h1, h2⟩
theorem start_den {Sh : Hp} {μ : List Addr} {N : List Str} {vs : List V} {ws : List W} (h : DenWs K cl Sh μ vs ws) : DenE K cl Sh μ (L2.start N vs) (startE N.length ws) := by
  have hl := h.length
  refine ⟨by unfold L2.start startE; simp [hl], fun i u e => ?_⟩
  unfold startE at e
  unfold L2.start
  by_cases hi : i < ws.length
  · rw [List.getElem?_append_left (by rw [List.length_map]; exact hi), List.getElem?_map] at e
    cases q : ws[i]? with
    | none => rw [q] at e; cases e
    | some u' =>
      rw [q] at e
      cases e
      obtain ⟨v, h1, h2⟩ := h.at q
      exact ⟨v, by rw [List.getElem?_append_left (by rw [List.length_map, hl]; exact hi), List.getElem?_map, h1]; rfl, h2⟩
  · rw [List.getElem?_append_right (by rw [List.length_map]; omega), List.getElem?_replicate] at e
    split at e <;> cases e
theorem leave_ok {Sh Sh' : Hp} {μ μ' : List Addr} {H' : Hp} {b : Nat} {S' : Store} {Q : VK} {E : XK} {w : W} {v : V} (h : PostF K cl Sh μ Q E (leave b w S')) (hb : μ.length ≤ b) (s : Step Sh μ Sh' μ') (r : Rel K cl Sh' H' μ' S') (d : DenW K cl Sh' μ' v w) : Q v H' := by
  cases w with
  | t x => exact h v H' Sh' (μ'.take b) (Step.take hb s) r.take d
  | loc n =>
    unfold leave at h
    dsimp only at h
    obtain ⟨a, ea, rfl⟩ := d
    split at h
    · rename_i hn
      exact h _ H' Sh' (μ'.take b) (Step.take hb s) r.take ⟨a, by rw [List.getElem?_take_of_lt hn]; exact ea, rfl⟩
    · rename_i hn
      cases hg : get S' n with
      | none => rw [hg] at h; exact h.elim
      | some o =>
        rw [hg] at h
        dsimp only at h
        split at h
        · rename_i hle
          obtain ⟨b', e1, e2, e3⟩ := r.obj n o hg
          rw [ea] at e1; cases e1
          obtain ⟨r2, s2⟩ := (r.take (b := b)).alloc (p := a) (o := o) e2 (fun m ob c hm hc hz => by
            subst hz
            obtain ⟨l1, l2⟩ := get_take hm
            rw [List.getElem?_take_of_lt l1] at hc
            have := r.inj m n c ob o hc ea l2 hg
            omega) e3
          refine h _ H' Sh' _ ((Step.take hb s).trans s2) r2 ⟨a, ?_, rfl⟩
          have : (μ'.take b).length = b := by rw [List.length_take, r.len]; omega
          rw [List.getElem?_append_right (by omega), this]
          simp
        · exact h.elim
theorem gok {n : Nat} (M : MOk g cl fs K mg) (h : ∀ f a fd ps, FnA K g fs f a fd ps → FnOk P w K mg base (CX P w) (2 * n) a fd ps (spF K cl (Tn g fs n f))) : GOk g cl (Tn g fs n) (2 * n) P w K mg base where
  bi := M.bi
  cst := M.cst
  fn := fun f x e hx => by
    obtain ⟨a, fd, ps, h1, h2, h3, h4⟩ := M.fn f x e hx
    exact ⟨a, fd, ps, h1, h2, h3, h f a fd ps h4⟩
  mkc := fun c nd e => by
    obtain ⟨x, fI, fd, ps, h1, h2, h3, h4, h5⟩ := M.mkc c nd e
    exact ⟨x, fI, fd, ps, h1, h2, h3, h4, h _ fI fd ps h5⟩
  fld := M.fld
  na := M.na
  cn := M.cn
  kit := M.kit
  ins := M.ins
  exc := M.exc
  hit := M.hit
  rai := M.rai
theorem all_fn (M : MOk g cl fs K mg) : ∀ (n f : Nat) (a : Addr) (fd : FuncData) (ps : List Str), FnA K g fs f a fd ps → FnOk P w K mg base (CX P w) (2 * n) a fd ps (spF K cl (Tn g fs n f))
  | 0, f, a, fd, ps, _ => ⟨fun vs H Q E ⟨_, _, _, _, _, _, h⟩ => h.elim, fun _ _ _ _ _ _ _ _ _ _ _ _ _ ⟨_, _, _, _, _, _, h⟩ => h.elim⟩
  | n + 1, f, a, fdt, ps, A => by
    have G : GOk g cl (Tn g fs n) (2 * n) P w K mg base := gok M (all_fn M n)
    obtain ⟨x, qual, st, fd, dvs, hf, F, hbd, hsc, S, hps, hwf⟩ := A.ex
    obtain ⟨oc, od, dV, kV, doc, pm, an, cdv, ct, osl, rfl, lk, hcd, _, _⟩ := F.ex
    have hrun : ∀ ws S, Tn g fs (n + 1) f ws S = runF g (Tn g fs n) fd ws S := fun ws S => by simp only [Tn, hf]
    have len : ∀ vs H Q E, spF K cl (Tn g fs (n + 1) f) vs H Q E → vs.length = ps.length := by
      rintro vs H Q E ⟨Sh, μ, S0, ws, r, d, h⟩
      rw [hrun] at h
      unfold runF at h
      split at h
      · rename_i hl; rw [d.length, hl, hps]
      · exact h.elim
    rw [show 2 * (n + 1) = (2 * n + 1) + 1 from by omega]
    refine fn_of lk hcd (hsc ▸ S) len fun A' outer s H vs Q E hr hsp => ?_
    obtain ⟨Sh, μ, S0, ws, r, d, h⟩ := hsp
    rw [hrun] at h
    unfold runF at h
    split at h
    · rename_i hl
      generalize hX : cxOf (CX P w) P w K mg base fd.N qual (defScope st) a cdv A' outer s H E = X
      have sx : SxOk g fd.N cl (Tn g fs n) (2 * n) fd.scope X := by
        subst hX
        exact ⟨⟨rfl, S.nd, hsc, rfl, hr, G⟩, passes_of rfl, rfl, rfl, fun _ => rfl, by rw [← hsc] at S; exact S.kind⟩
      have tk : Takes X (fun cls d _ H => E cls d H) := by subst hX; exact takes_of rfl rfl rfl rfl
      have eK : X.K = K := by subst hX; rfl
      refine ⟨WSs X (defBody st), pss_W, ?_⟩
      rw [hbd]
      refine sSs fd.body sx hwf (startE fd.N.length ws) S0 _ H Sh μ _ (eK ▸ r) (eK ▸ start_den d) ?_
      have hb : μ.length ≤ S0.length := by rw [r.len]; exact Nat.le_refl _
      cases q : fd.body.ev (Tn g fs n) g (startE fd.N.length ws) S0 with
      | next ρ S1 =>
        rw [q] at h
        intro σ' H' Sh' μ' s' r' _
        rw [eK] at r'
        exact h .non H' Sh' _ (Step.take hb s') r'.take Den.non
      | ret w S1 =>
        rw [q] at h
        intro v H' Sh' μ' s' r' d'
        rw [eK] at r' d'
        exact leave_ok h hb s' r' d'
      | exc c ρ S1 =>
        rw [q] at h
        refine ⟨_, tk, fun σ' H' Sh' μ' s' r' _ => ?_⟩
        rw [eK] at r'
        exact h H' Sh' _ (Step.take hb s') r'.take
      | brk ρ S1 => rw [q] at h; exact h.elim
      | cont ρ S1 => rw [q] at h; exact h.elim
      | bad => rw [q] at h; exact h.elim
    · exact h.elim
/-- the law's promise -/
def spL (g : Sig) (fs : List FD) (n f : Nat) (fn : Nat → Str) (K : PySem.W.Frag) : Sp := fun vs H Q E => ∀ cl : Nm, cl.fn = fn → spF K cl (Tn g fs n f) vs H Q E
theorem spL_of {n f m : Nat} {fn : Nat → Str} (hl : ∀ ns : List Int, ns.length ≤ m → ∃ S, Tn g fs n f [.t (.ro (ns.map .int))] [] = .ok (.t (.bl true)) S) :
    ∀ (K : PySem.W.Frag) (H : Hp) (a : Addr) (ns : List Int), ns.length ≤ m → Only H → SqL K H a (ns.map V.int) → spL g fs n f fn K [.ref a] H (fun v _ => v = .bl true) fun _ _ _ => False := by
  intro K H a ns h1 _ h3 cl _
  obtain ⟨S, e⟩ := hl ns h1
  have dn : ∀ ns : List Int, Dens K cl H (ns.map V.int) (ns.map .int) := fun ns => by
    induction ns with
    | nil => exact .nil
    | cons i r ih => exact .cons (.int i) ih
  refine ⟨H, [], [], [.t (.ro (ns.map .int))], ⟨Same.refl _, rfl, fun i j a o u e => by simp at e, fun n o e => by simp [get] at e⟩, .cons (.ro h3 (dn ns)) .nil, ?_⟩
  rw [e]
  intro v H' Sh' μ' _ _ d
  cases (show Den K cl Sh' v (.bl true) from d)
  rfl
end
end Rf

/-! Rf, part Z: from the facts of the start to the promise of the law. -/
namespace Rf
open PySem PySem.Spec PyProof.Rows L2
theorem lookup_mem' {α β : Type} [BEq α] [LawfulBEq α] {k : α} {b : β} : ∀ {l : List (α × β)}, l.lookup k = some b → (k, b) ∈ l
  | [], h => by cases h
  | (x, y) :: r, h => by
    rw [List.lookup_cons] at h
    split at h
    · rename_i e
      cases h
      rw [eq_of_beq e]
      exact List.mem_cons_self
    · exact List.mem_cons_of_mem _ (lookup_mem' h)
theorem at_zip {α : Type} {P : α → Nat → Prop} {l : List α} (h : ∀ q ∈ l.zipIdx, P q.1 q.2) : ∀ i x, l[i]? = some x → P x i := fun i x e => h (x, i) (List.mem_zipIdx_iff_getElem?.mpr e)
def fnF (l : List Str) (i : Nat) : Str := (l[i]?).getD ⟨(List.replicate (1000 + i) 0).toArray⟩
theorem fnF_inj {l : List Str} (hn : l.Nodup) (hs : ∀ x ∈ l, x.cps.size < 1000) : ∀ i j, fnF l i = fnF l j → i = j := by
  intro i j h
  unfold fnF at h
  by_cases hi : i < l.length
  · by_cases hj : j < l.length
    · rw [List.getElem?_eq_getElem hi, List.getElem?_eq_getElem hj] at h
      exact (List.getElem_inj hn).mp h
    · rw [List.getElem?_eq_getElem hi, List.getElem?_eq_none (by omega)] at h
      have := hs _ (List.getElem_mem hi)
      rw [show l[i] = _ from h] at this
      simp at this
      omega
  · by_cases hj : j < l.length
    · rw [List.getElem?_eq_none (by omega), List.getElem?_eq_getElem hj] at h
      have := hs _ (List.getElem_mem hj)
      rw [← show _ = l[j] from h] at this
      simp at this
      omega
    · rw [List.getElem?_eq_none (by omega), List.getElem?_eq_none (by omega)] at h
      have := congrArg (fun x : Str => x.cps.size) h
      simp at this
      omega
section
variable {K : PySem.W.Frag} {g : Sig} {fs : List FD}
theorem fna_mk {f : Nat} {a : Addr} {x qual : Str} {st : Stmt} {fd : FD} {ps : List Str} {oc : Value} {od an : Option Addr} {osl : Array (Option Value)} {kV doc pm cdv ct : Value} (hf : fs[f]? = some fd)
    (l : K.lookup a = some ⟨oc, od, .func (PySem.W.fnOf x qual (defArgs st) (defBody st) (defScope st) .none kV doc pm an cdv ct), osl⟩) (c : PySem.W.codeIn K cdv qual = true) (k : PySem.W.keepIn K (.ref a) = true)
    (py : defBody st = fd.body.py g fd.N) (sc : defScope st = fd.scope) (S : FnScope fd.N ps fd.scope) (hps : ps.length = fd.np) (wf : fd.body.wf g fd.N fd.scope = true)
    (hb : ∀ (kV doc pm : Value) (an : Option Addr) (cdv ct : Value) (us : List Value), us.length = ps.length → bindArgs (PySem.W.fnOf x qual (defArgs st) (defBody st) (defScope st) .none kV doc pm an cdv ct) ⟨us, []⟩ = pure (ps.zip us)) :
    ∃ fdt, Binds K fdt ps [] ∧ FnA K g fs f a fdt ps ∧ Fun K x qual st a fdt :=
  ⟨_, (fun_mk (st := st) l c k).binds hb, ⟨x, qual, st, fd, [], hf, funD_of (fun_mk (st := st) l c k), py, sc, S, hps, wf⟩, fun_mk (st := st) l c k⟩
/-- a def whose last m parameters have None for a default -/
theorem fnd_mk {f m : Nat} {a T : Addr} {x qual : Str} {st : Stmt} {fd : FD} {ps : List Str} {oc : Value} {od an : Option Addr} {osl : Array (Option Value)} {kV doc pm cdv ct : Value} {ut : Value} {ud : Option Addr} {ui : Array Value} {un : Nat} {us : Array (Option Value)} (hm : m ≠ 0) (hf : fs[f]? = some fd)
    (l : K.lookup a = some ⟨oc, od, .func (PySem.W.fnOf x qual (defArgs st) (defBody st) (defScope st) (.ref T) kV doc pm an cdv ct), osl⟩) (lT : K.lookup T = some ⟨ut, ud, .seq ui un, us⟩) (hu : ui.toList = List.replicate m .none) (c : PySem.W.codeIn K cdv qual = true) (k : PySem.W.keepIn K (.ref a) = true)
    (py : defBody st = fd.body.py g fd.N) (sc : defScope st = fd.scope) (S : FnScope fd.N ps fd.scope) (hps : ps.length = fd.np) (wf : fd.body.wf g fd.N fd.scope = true) :
    ∃ fdt, FnA K g fs f a fdt ps ∧ FunD K x qual (defArgs st) (defBody st) (defScope st) (List.replicate m .non) [] a fdt := by
  have hv : ∀ n : Nat, Vals (List.replicate n .non) (List.replicate n .none) := by
    intro n
    induction n with
    | zero => exact .nil
    | succ n ih => exact .cons rfl ih
  have hne : List.replicate m V.non ≠ [] := by intro h; cases m; exact hm rfl; cases h
  have F : FunD K x qual (defArgs st) (defBody st) (defScope st) (List.replicate m .non) [] a _ := ⟨⟨oc, od, .ref T, kV, doc, pm, an, cdv, ct, osl, rfl, l, c, .inr ⟨hne, T, _, List.replicate m .none, un, rfl, lT, by rw [← hu], hv m⟩, .inl rfl⟩, k⟩
  exact ⟨_, ⟨x, qual, st, fd, _, hf, F, py, sc, S, hps, wf⟩, F⟩
theorem vals_non : ∀ {n : Nat} {ds : List Value}, Vals (List.replicate n .non) ds → ds = List.replicate n .none
  | 0, _, .nil => rfl
  | _ + 1, _, .cons h r => by cases h; rw [vals_non r]; rfl
/-- n arguments are given of n + nd -/
theorem fnd_binds {m n nd : Nat} {a : Addr} {x qual : Str} {params : Arguments} {body : List Stmt} {scope : Scope} {fdt : FuncData} {ps : List Str} (F : FunD K x qual params body scope (List.replicate m .non) [] a fdt) (hm : m ≠ 0) (hnd : nd ≤ m) (hn : n + nd = ps.length)
    (h : ∀ (T : Addr) (kV doc pm : Value) (an : Option Addr) (cdv ct : Value) (us its : List Value), us.length = n → its.length = m →
      ∃ k, bindArgs (PySem.W.fnOf x qual params body scope (.ref T) kV doc pm an cdv ct) ⟨us, []⟩ = seqItems? (.ref T) >>= k ∧ k (some its.toArray) = pure (ps.zip (us ++ its.drop (m - nd)))) : Binds K fdt ps (List.replicate nd .none) := by
  obtain ⟨ds, hv, hb⟩ := F.binds1 n (m - nd) (by intro h; cases m; exact hm rfl; cases h) (by rw [List.length_replicate]; omega) fun T kV doc pm an cdv ct us its h1 h2 => h T kV doc pm an cdv ct us its h1 (by simpa using h2)
  rw [List.drop_replicate, show m - (m - nd) = nd from by omega] at hv
  rw [vals_non hv] at hb
  exact hb
end
theorem law_binds {K : PySem.W.Frag} {x qual p : Str} {st : Stmt} {a : Addr} {fdt : FuncData} (F : Fun K x qual st a fdt)
    (h : ∀ (kV doc pm : Value) (an : Option Addr) (cdv ct : Value) (u : Value), bindArgs (PySem.W.fnOf x qual (defArgs st) (defBody st) (defScope st) .none kV doc pm an cdv ct) ⟨[u], []⟩ = pure [(p, u)]) : ∀ (s : Shared) (v : Value), BindsTo s fdt ⟨[v], []⟩ [(p, v)] := by
  obtain ⟨oc, od, kV, doc, pm, an, cdv, ct, osl, rfl, _, _⟩ := F.ex
  exact fun s v => .of_eq (h _ _ _ _ _ _ v)
theorem cls_c {K : PySem.W.Frag} {C : Addr} (h1 : PySem.W.isClsIn K C = true) (h2 : PySem.W.typeIn K (.ref C) = some (.type "type")) : ((PySem.W.clsIn K C).isSome && PySem.W.typeIn K (.ref C) == some (.type "type")) = true := by
  rw [show (PySem.W.clsIn K C).isSome = true from h1, h2] <;> rfl
theorem kit_own {K : PySem.W.Frag} {t : Value} {C : Addr} {b : Bool} (h1 : PySem.W.isClsIn K C = true) (h2 : PySem.W.typeIn K (.ref C) = some (.type "type")) (h3 : PySem.W.subIn K t (.ref C) = some b) (h4 : b = false → (t == Value.ref C) = false) : PySem.W.kitOne K t (.ref C) = some b := by
  unfold PySem.W.kitOne
  have e : PySem.W.kitCls K t (.ref C) = some b := by
    show (if ((PySem.W.clsIn K C).isSome && PySem.W.typeIn K (.ref C) == some (.type "type")) = true then PySem.W.subIn K t (.ref C) else none) = some b
    rw [if_pos (cls_c h1 h2)]; exact h3
  cases q : (t == Value.ref C) with
  | false => rw [if_neg Bool.false_ne_true]; exact e
  | true =>
    rw [if_pos rfl]
    cases b with
    | true => rfl
    | false => rw [h4 rfl] at q; cases q
theorem kit_blt {K : PySem.W.Frag} {C : Addr} {T : String} {b : Bool} (hm : PySem.W.kitMeta T = true) (h3 : PySem.W.subIn K (.ref C) (.type T) = some b) : PySem.W.kitOne K (.ref C) (.type T) = some b := by
  unfold PySem.W.kitOne
  rw [if_neg (by intro z; cases z)]
  show (if PySem.W.kitMeta T = true then PySem.W.subIn K (.ref C) (.type T) else none) = some b
  rw [if_pos hm]; exact h3
theorem exm_own {K : PySem.W.Frag} {t : Value} {C : Addr} {b : Bool} (h0 : PySem.W.subIn K (.ref C) (.type "BaseException") = some true) (h1 : PySem.W.isClsIn K C = true) (h2 : PySem.W.typeIn K (.ref C) = some (.type "type")) (h3 : PySem.W.subIn K t (.ref C) = some b) : PySem.W.exmOne K t (.ref C) = some b := by
  unfold PySem.W.exmOne
  rw [if_pos (by rw [h0] <;> rfl)]
  show (if ((PySem.W.clsIn K C).isSome && PySem.W.typeIn K (.ref C) == some (.type "type")) = true then PySem.W.subIn K t (.ref C) else none) = some b
  rw [if_pos (cls_c h1 h2)]; exact h3
/-- the law's promise, by what stands at the start -/
theorem law_ok {g : Sig} {cl : Nm} {fs : List FD} {K : PySem.W.Frag} {mg : Str → Option Value} {P : Program} {w : World} {base : Heap} {f n : Nat} {a : Addr} {fdt : FuncData} {ps : List Str} (M : MOk g cl fs K mg) (A : FnA K g fs f a fdt ps) :
    FnOk P w K mg base (L2.CX P w) (2 * n) a fdt ps (spL g fs n f cl.fn K) := (all_fn M n f a fdt ps A).imp fun _ _ _ _ h => h cl rfl
theorem cx_none {P : Program} {w : World} (H : Hp) (s : Shared) (e : Value) (s' : Shared) (h : L2.CX P w [] H s (fun _ _ _ => False) e s') : False := by
  obtain ⟨_, _, _, _, _, _, _, _, _, _, _, _, z⟩ := h
  exact z
theorem den_rt {K : PySem.W.Frag} {cl : Nm} {a : Addr} {dd : Option Addr} {its : Array Value} {n : Nat} {sl : Array (Option Value)} {vs : List V} {ds : List D} (l : K.lookup a = some ⟨.type "tuple", dd, .seq its n, sl⟩) (hz : its.size ≤ sizeLine) (hv : Vals vs its.toList) (hd : ∀ H, Dens K cl H vs ds) :
    ∀ H, Den K cl H (.ref a) (.rt ds) := fun H => .rt (.inr ⟨_, its, n, l, rfl, rfl, hz, hv⟩) (hd H)
end Rf

/-! Pl, part A: the reading of the text, step by step, as rewriting rules. -/
namespace Rf
open PySem PySem.Spec PyProof.Rows L2

/-! ### combinators: what is marked is left alone by rewriting -/
class Mk {α : Type} (a : α) : Type where mk ::
instance {α : Type} {a : α} : Mk a := ⟨⟩
def bx {α β : Type} (r : Res α) (f : α → Store → Res β) [_m : Mk f] : Res β := bnd r f
def lx {α : Type} (ρ : Env') (r : Res α) (f : α → Store → FR) [_m : Mk f] : FR := lift ρ r f
def sq (r : FR) (f : Env' → Store → FR) [_m : Mk f] : FR := match r with
  | .next ρ1 S1 => f ρ1 S1
  | .ret w S1 => .ret w S1
  | .brk ρ1 S1 => .brk ρ1 S1
  | .cont ρ1 S1 => .cont ρ1 S1
  | .exc c ρ1 S1 => .exc c ρ1 S1
  | .bad => .bad
def rd2 {α : Type} (z : α) (S : Store) (x y : W) (f : D → D → α) [_m : Mk f] : α := match rd S x, rd S y with
  | some dx, some dy => f dx dy
  | _, _ => z
def rd1 {α : Type} (z : α) (S : Store) (x : W) (f : D → α) [_m : Mk f] : α := match rd S x with
  | some dx => f dx
  | _ => z
def lk (ρ : Env') (i : Nat) : Option W := (ρ[i]?).getD none
def okL (o : Option W) (S : Store) : Res W := match o with | some w => .ok w S | none => .bad
def onB {α : Type} (z : α) (x : W) (a b : α) [_m : Mk (a, b)] : α := match x with
  | .t (.bl true) => a
  | .t (.bl false) => b
  | _ => z
def onT2 {α : Type} (z : α) (x y : W) (f : D → D → α) [_m : Mk f] : α := match x, y with
  | .t dx, .t dy => f dx dy
  | _, _ => z
def onT1 {α : Type} (z : α) (x : W) (f : D → α) [_m : Mk f] : α := match x with
  | .t dx => f dx
  | _ => z
def onO {α β : Type} (z : α) (o : Option β) (f : β → α) [_m : Mk f] : α := match o with
  | some x => f x
  | none => z
def ifb {α : Type} (b : Bool) (x y : α) : α := match b with | true => x | false => y
section
variable {α β : Type} {z : α} {S : Store} {ρ : Env'}
theorem lk0 {x : Option W} {r : Env'} : lk (x :: r) 0 = x := (rfl)
theorem lkS {x : Option W} {r : Env'} {n : Nat} : lk (x :: r) (n + 1) = lk r n := (rfl)
theorem okL_some {w : W} : okL (some w) S = .ok w S := (rfl)
theorem bnd_k {a : α} {f : α → Store → Res β} : bx (.ok a S) f = f a S := (rfl)
theorem bnd_exc {c : Nat} {f : α → Store → Res β} : bx (.exc c S) f = .exc c S := (rfl)
theorem bnd_bad {f : α → Store → Res β} : bx .bad f = .bad := (rfl)
theorem lift_ok {a : α} {f : α → Store → FR} : lx ρ (.ok a S) f = f a S := (rfl)
theorem lift_exc {c : Nat} {f : α → Store → FR} : lx ρ (.exc c S) f = .exc c ρ S := (rfl)
theorem sq_next {f : Env' → Store → FR} : sq (.next ρ S) f = f ρ S := (rfl)
theorem sq_ret {w : W} {f : Env' → Store → FR} : sq (.ret w S) f = .ret w S := (rfl)
theorem sq_brk {f : Env' → Store → FR} : sq (.brk ρ S) f = .brk ρ S := (rfl)
theorem sq_cont {f : Env' → Store → FR} : sq (.cont ρ S) f = .cont ρ S := (rfl)
theorem sq_exc {c : Nat} {f : Env' → Store → FR} : sq (.exc c ρ S) f = .exc c ρ S := (rfl)
theorem rd2_t {a b : D} {f : D → D → α} : rd2 z S (.t a) (.t b) f = f a b := (rfl)
theorem rd2_gen {x y : W} {f : D → D → α} : rd2 z S x y f = onO z (rd S x) fun a => onO z (rd S y) fun b => f a b := by
  unfold rd2
  cases rd S x with
  | none => rfl
  | some a => cases rd S y <;> rfl
theorem rd1_t {a : D} {f : D → α} : rd1 z S (.t a) f = f a := (rfl)
theorem onB_t {b : Bool} {x y : α} : onB z (.t (.bl b)) x y = if b = true then x else y := by cases b <;> rfl
theorem onT2_t {a b : D} {f : D → D → α} : onT2 z (.t a) (.t b) f = f a b := (rfl)
theorem onT1_t {a : D} {f : D → α} : onT1 z (.t a) f = f a := (rfl)
theorem onO_some {x : β} {f : β → α} : onO z (some x) f = f x := (rfl)
theorem onO_none {f : β → α} : onO z none f = z := (rfl)
theorem okq_some {d : D} : ok? S (some d) = .ok (.t d) S := (rfl)
theorem rd_t {d : D} : rd S (.t d) = some d := (rfl)
theorem rd_loc {n : Nat} : rd S (.loc n) = (get S n).map Ob.tree := (rfl)
end

theorem at_nil : asTs [] = some [] := (rfl)
theorem at_cons {d : D} {r : List W} : asTs (.t d :: r) = (asTs r).map (d :: ·) := by
  simp only [asTs, W.asT]
  cases asTs r <;> rfl
theorem rds_nil {S : Store} : rds S [] = some [] := (rfl)
theorem rds_cons {S : Store} {w : W} {r : List W} : rds S (w :: r) = (rd S w).bind fun d => (rds S r).map (d :: ·) := by
  simp only [rds]
  cases rd S w with
  | none => rfl
  | some d => cases rds S r <;> rfl
theorem non_non : D.non.isNon = true := (rfl)
theorem non_int {i : Int} : (D.int i).isNon = false := (rfl)
theorem non_str {i : Str} : (D.str i).isNon = false := (rfl)
theorem non_bl {i : Bool} : (D.bl i).isNon = false := (rfl)
theorem non_lst {i : List D} : (D.lst i).isNon = false := (rfl)
theorem non_tup {i : List D} : (D.tup i).isNon = false := (rfl)
theorem non_ins {c : Nat} {i : List (Nat × D)} : (D.ins c i).isNon = false := (rfl)
theorem it_lst {i : List D} : (D.lst i).items = some i := (rfl)
theorem it_ro {i : List D} : (D.ro i).items = some i := (rfl)
theorem it_tup {i : List D} : (D.tup i).items = some i := (rfl)
theorem it_rt {i : List D} : (D.rt i).items = some i := (rfl)
theorem ls_lst {i : List D} : (D.lst i).lsts = some i := (rfl)
theorem ls_ro {i : List D} : (D.ro i).lsts = some i := (rfl)
theorem tr_lst {i : List D} : (Ob.lst i).tree = .lst i := (rfl)
theorem tr_ins {c : Nat} {i : List (Nat × D)} : (Ob.ins c i).tree = .ins c i := (rfl)
theorem tr_dct {c : Bool} {i : List (D × D)} : (Ob.dct c i).tree = .dct c i := (rfl)
theorem ty_non : tyOf .non = some (.ty "NoneType") := (rfl)
theorem ty_bl {i : Bool} : tyOf (.bl i) = some (.ty "bool") := (rfl)
theorem ty_int {i : Int} : tyOf (.int i) = some (.ty "int") := (rfl)
theorem ty_str {i : Str} : tyOf (.str i) = some (.ty "str") := (rfl)
theorem ty_lst {i : List D} : tyOf (.lst i) = some (.ty "list") := (rfl)
theorem ty_tup {i : List D} : tyOf (.tup i) = some (.ty "tuple") := (rfl)
theorem ty_dct {t : Bool} {i : List (D × D)} : tyOf (.dct t i) = some (.ty "dict") := (rfl)
theorem ty_ins {c : Nat} {i : List (Nat × D)} : tyOf (.ins c i) = some (.own c) := (rfl)
theorem ty_exc {c : Nat} : tyOf (.exc c) = some (.exc c) := (rfl)
def kitsR (o : Option Bool) (r : Option Bool) : Option Bool := match o with
  | some true => some true
  | some false => r
  | none => none
theorem kr_t {r : Option Bool} : kitsR (some true) r = some true := (rfl)
theorem kr_f {r : Option Bool} : kitsR (some false) r = r := (rfl)
theorem kits_nil {f : Ty → Cl → Option Bool} {t : Ty} : kits f t [] = some false := (rfl)
theorem kits_cons {f : Ty → Cl → Option Bool} {t : Ty} {c : Cl} {r : List Cl} : kits f t (c :: r) = kitsR (f t c) (kits f t r) := (rfl)
def kitsP (f : Ty → Cl → Option Bool) (t : Ty) (cs : List (Cl × Pos)) : Option Bool := kits f t (cs.map (·.1))
theorem kitsP_nil {f : Ty → Cl → Option Bool} {t : Ty} : kitsP f t [] = some false := (rfl)
theorem kitsP_cons {f : Ty → Cl → Option Bool} {t : Ty} {c : Cl} {p : Pos} {r : List (Cl × Pos)} : kitsP f t ((c, p) :: r) = kitsR (f t c) (kitsP f t r) := (rfl)
def wipeO (ρ : Env') (own : List (Str × Nat)) : Env' := wipeE ρ (own.map (·.2))
theorem wipeO_nil {ρ : Env'} : wipeO ρ [] = ρ := (rfl)
theorem wipeO_cons {ρ : Env'} {x : Str} {i : Nat} {r : List (Str × Nat)} : wipeO ρ ((x, i) :: r) = (wipeO ρ r).set i none := (rfl)
theorem mo_joint : mTyOk .join (some true) = true := (rfl)
theorem mo_stript : mTyOk .strip (some true) = true := (rfl)
theorem mo_startswitht : mTyOk .startswith (some true) = true := (rfl)
theorem mo_endswitht : mTyOk .endswith (some true) = true := (rfl)
theorem mo_countt : mTyOk .count (some true) = true := (rfl)
theorem mo_splitt : mTyOk .split (some true) = true := (rfl)
theorem mo_islowert : mTyOk .islower (some true) = true := (rfl)
theorem mo_countf : mTyOk .count (some false) = true := (rfl)

/-! ### expressions -/
section
variable {T : Nat → List W → Store → Res W} {g : Sig} {ρ : Env'} {S : Store}
theorem ev_var {i p} : (E.var i p).ev T g ρ S = okL (lk ρ i) S := (rfl)
theorem ev_int {i k p} : (E.int i k p).ev T g ρ S = .ok (.t (.int i)) S := (rfl)
theorem ev_str {i k p} : (E.str i k p).ev T g ρ S = .ok (.t (.str i)) S := (rfl)
theorem ev_bl {i k p} : (E.bl i k p).ev T g ρ S = .ok (.t (.bl i)) S := (rfl)
theorem ev_non {k p} : (E.non k p).ev T g ρ S = .ok (.t .non) S := (rfl)
theorem ev_glo {i p} : (E.glo i p).ev T g ρ S = onO .bad g.cst[i]? fun q => .ok (.t q.2) S := by
  show (match g.cst[i]? with | some q => _ | none => _) = _
  cases g.cst[i]? <;> rfl
theorem ev_bin {o a b p} : (E.bin o a b p).ev T g ρ S = bx (a.ev T g ρ S) fun x S1 => bx (b.ev T g ρ S1) fun y S2 => rd2 .bad S2 x y fun dx dy => ok? S2 (bin2 o dx dy) := (rfl)
theorem ev_neg {a p} : (E.neg a p).ev T g ρ S = bx (a.ev T g ρ S) fun x S1 => match x with | .t (.int i) => .ok (.t (.int (-i))) S1 | _ => .bad := (rfl)
theorem ev_cmp {o a b p} : (E.cmp o a b p).ev T g ρ S = bx (a.ev T g ρ S) fun x S1 => bx (b.ev T g ρ S1) fun y S2 => rd2 .bad S2 x y fun dx dy => ok? S2 ((cmp2 o dx dy).map .bl) := (rfl)
def cmpThen (S : Store) (o : Option Bool) (k : Res W) [_m : Mk k] : Res W := match o with | some true => k | some false => .ok (.t (.bl false)) S | none => .bad
theorem cmpThen_b {b : Bool} {k : Res W} : cmpThen S (some b) k = if b = true then k else .ok (.t (.bl false)) S := by cases b <;> rfl
theorem ev_ch2 {o q a b c p} : (E.ch2 o q a b c p).ev T g ρ S = bx (a.ev T g ρ S) fun x S1 => bx (b.ev T g ρ S1) fun y S2 => onT2 .bad x y fun dx dy =>
    cmpThen S2 (cmp2 o dx dy) (bx (c.ev T g ρ S2) fun z S3 => onT1 .bad z fun dz => ok? S3 ((cmp2 q dy dz).map .bl)) := (rfl)
theorem ev_ch3 {o q r a b c d p} : (E.ch3 o q r a b c d p).ev T g ρ S = bx (a.ev T g ρ S) fun x S1 => bx (b.ev T g ρ S1) fun y S2 => onT2 .bad x y fun dx dy =>
    cmpThen S2 (cmp2 o dx dy) (bx (c.ev T g ρ S2) fun z S3 => onT1 .bad z fun dz => cmpThen S3 (cmp2 q dy dz) (bx (d.ev T g ρ S3) fun u S4 => onT1 .bad u fun du => ok? S4 ((cmp2 r dz du).map .bl))) := (rfl)
theorem ev_bop {isAnd es p} : (E.bop isAnd es p).ev T g ρ S = es.bop T g isAnd ρ S := (rfl)
theorem bop_one {isAnd e} : (Es.cons e .nil).bop T g isAnd ρ S = bx (e.ev T g ρ S) fun x S1 => onB .bad x (.ok (.t (.bl true)) S1) (.ok (.t (.bl false)) S1) := by
  show bnd _ _ = bnd _ _
  congr 1
  funext x S1
  cases x with
  | loc n => rfl
  | t d => cases d <;> try rfl
           rename_i b; cases b <;> rfl
theorem bop_and {e e' r} : (Es.cons e (.cons e' r)).bop T g true ρ S = bx (e.ev T g ρ S) fun x S1 => onB .bad x ((Es.cons e' r).bop T g true ρ S1) (.ok (.t (.bl false)) S1) := by
  show bnd _ _ = bnd _ _
  congr 1
  funext x S1
  cases x with
  | loc n => rfl
  | t d => cases d <;> try rfl
           rename_i b; cases b <;> rfl
theorem bop_or {e e' r} : (Es.cons e (.cons e' r)).bop T g false ρ S = bx (e.ev T g ρ S) fun x S1 => onB .bad x (.ok (.t (.bl true)) S1) ((Es.cons e' r).bop T g false ρ S1) := by
  show bnd _ _ = bnd _ _
  congr 1
  funext x S1
  cases x with
  | loc n => rfl
  | t d => cases d <;> try rfl
           rename_i b; cases b <;> rfl
theorem ev_not {a p} : (E.not a p).ev T g ρ S = bx (a.ev T g ρ S) fun x S1 => onB .bad x (.ok (.t (.bl false)) S1) (.ok (.t (.bl true)) S1) := by
  show bnd _ _ = bnd _ _
  congr 1
  funext x S1
  cases x with
  | loc n => rfl
  | t d => cases d <;> try rfl
           rename_i b; cases b <;> rfl
theorem ev_ife {c a b p} : (E.ife c a b p).ev T g ρ S = bx (c.ev T g ρ S) fun x S1 => onB .bad x (a.ev T g ρ S1) (b.ev T g ρ S1) := (rfl)
theorem ev_lst {es p} : (E.lst es p).ev T g ρ S = bx (es.ev T g ρ S) fun ws S1 => onO .bad (asTs ws) fun ds => if ds.length ≤ sizeLine then .ok (.t (.lst ds)) S1 else .bad := by
  show bnd _ _ = bnd _ _
  congr 1
  funext ws S1
  cases asTs ws <;> rfl
theorem ev_tup {es k p} : (E.tup es k p).ev T g ρ S = bx (es.ev T g ρ S) fun ws S1 => onO .bad (asTs ws) fun ds => if ds.length ≤ sizeLine then .ok (.t (.tup ds)) S1 else .bad := by
  show bnd _ _ = bnd _ _
  congr 1
  funext ws S1
  cases asTs ws <;> rfl
theorem ev_dct0 {t p} : (E.dct0 t p).ev T g ρ S = .ok (.t (.dct t [])) S := (rfl)
theorem ev_call {f es pn p} : (E.call f es pn p).ev T g ρ S = bx (es.ev T g ρ S) fun ws S1 => T f ws S1 := (rfl)
def mkEnd (c : Nat) (b : Nat) (r : Res W) : Res W := match r with
  | .ok (.t .non) S2 => if S2.length < b then .bad else match get S2 b with
    | some (.ins c' fs) => if c' = c then .ok (.t (.ins c fs)) (S2.take b) else .bad
    | _ => .bad
  | .exc k S2 => .exc k (S2.take b)
  | _ => .bad
theorem ev_mk {c es nd pn p} : (E.mk c es nd pn p).ev T g ρ S = bx (es.ev T g ρ S) fun ws S1 =>
    mkEnd c S1.length (T ((g.ini[c]?).getD 0) (.loc S1.length :: (ws ++ List.replicate nd (.t .non))) (S1 ++ [some (.ins c [])])) := by
  show bnd _ _ = bnd _ _
  congr 1
theorem ev_bfn {b es pn p} : (E.bfn b es pn p).ev T g ρ S = bx (es.ev T g ρ S) fun ws S1 => onO .bad (rds S1 ws) fun ds => ok? S1 (bf b ds) := by
  show bnd _ _ = bnd _ _
  congr 1
  funext ws S1
  cases rds S1 ws <;> rfl
theorem ev_mth {m o es pa p} : (E.mth m o es pa p).ev T g ρ S = bx (o.ev T g ρ S) fun x S1 => if mTyOk m (mTy S1 x) = true then bx (es.ev T g ρ S1) fun ws S2 => if mTy S2 x = mTy S1 x then onO .bad (rd S2 x) fun d => onO .bad (rds S2 ws) fun ds => ok? S2 (mt m d ds) else .bad else .bad := by
  show bnd _ _ = bnd _ _
  congr 1
  funext x S1
  split
  · congr 1
    funext ws S2
    split
    · cases rd S2 x with
      | none => rfl
      | some d => cases rds S2 ws <;> rfl
    · rfl
  · rfl
theorem ev_ix {a b p} : (E.ix a b p).ev T g ρ S = bx (a.ev T g ρ S) fun x S1 => bx (b.ev T g ρ S1) fun y S2 => onO .bad (rd S2 x) fun dx => onT1 .bad y fun dy => ok? S2 (ix2 dx dy) := by
  show bnd _ _ = bnd _ _
  congr 1
  funext x S1
  congr 1
  funext y S2
  cases rd S2 x with
  | none => rfl
  | some d => cases y <;> rfl
theorem ev_sl {a lo hi ps p} : (E.sl a lo hi ps p).ev T g ρ S = bx (a.ev T g ρ S) fun x S1 => bx (lo.ev T g ρ S1) fun l S2 => bx (hi.ev T g ρ S2) fun h S3 => onO .bad (rd S3 x) fun dx => ok? S3 (slice2 dx l h) := by
  show bnd _ _ = bnd _ _
  congr 1; funext x S1
  congr 1; funext l S2
  congr 1; funext h S3
  cases rd S3 x <;> rfl
theorem ev_fld {o f p} : (E.fld o f p).ev T g ρ S = bx (o.ev T g ρ S) fun x S1 => match rd S1 x with | some (.ins c fs) => if g.na.contains (c, f) then ok? S1 (fs.lookup f) else .bad | _ => .bad := (rfl)
theorem ev_isi {e c pn pc p} : (E.isi e c pn pc p).ev T g ρ S = bx (e.ev T g ρ S) fun x S1 => onO .bad (rd S1 x) fun d => onO .bad (tyOf d) fun t => ok? S1 ((g.kit t c).map .bl) := by
  show bnd _ _ = bnd _ _
  congr 1; funext x S1
  cases rd S1 x with
  | none => rfl
  | some d =>
    simp only [onO]
    cases tyOf d <;> rfl
theorem ev_isis {e cs k pn pt p} : (E.isis e cs k pn pt p).ev T g ρ S = bx (e.ev T g ρ S) fun x S1 => onO .bad (rd S1 x) fun d => onO .bad (tyOf d) fun t => ok? S1 ((kitsP g.kit t cs).map .bl) := by
  show bnd _ _ = bnd _ _
  congr 1; funext x S1
  cases rd S1 x with
  | none => rfl
  | some d =>
    simp only [onO]
    cases tyOf d <;> rfl
def orlD (d : D) (x : W) (S1 : Store) (r : Res W) : Res W := match d with
    | .non => r
    | .lst ds => if ds.isEmpty = true then r else .ok x S1
    | _ => .bad
theorem ev_orl {a b p} : (E.orl a b p).ev T g ρ S = bx (a.ev T g ρ S) fun x S1 => onO .bad (rd S1 x) fun d => orlD d x S1 (b.ev T g ρ S1) := by
  show bnd _ _ = bnd _ _
  congr 1; funext x S1
  cases rd S1 x with
  | none => rfl
  | some d => cases d <;> rfl
theorem or_non {x : W} {r : Res W} : orlD .non x S r = r := (rfl)
theorem or_nil {x : W} {r : Res W} : orlD (.lst []) x S r = r := (rfl)
theorem or_cons {x : W} {r : Res W} {d : D} {ds : List D} : orlD (.lst (d :: ds)) x S r = .ok x S := (rfl)
def lensD (d : D) (S1 : Store) : Res W := match d with
    | .lst ds => match strs? ds with
      | some ys => if ys.length ≤ 1000 then .ok (.t (.int (metS ys).length)) S1 else .bad
      | none => .bad
    | _ => .bad
theorem ev_lens {a p1 p2 q p} : (E.lens a p1 p2 q p).ev T g ρ S = bx (a.ev T g ρ S) fun x S1 => onT1 .bad x fun d => lensD d S1 := by
  show bnd _ _ = bnd _ _
  congr 1; funext x S1
  cases x with
  | t d => cases d <;> rfl
  | loc n => rfl
theorem lens_nil : lensD (.lst []) S = .ok (.t (.int 0)) S := (rfl)
theorem lens_s {ds : List D} {ys : List Str} (h : strs? ds = some ys) (hl : ys.length ≤ 1000) : lensD (.lst ds) S = .ok (.t (.int (metS ys).length)) S := by
  unfold lensD
  simp only [h, hl, if_true]
theorem ev_fmt {e p} : (E.fmt e p).ev T g ρ S = bx (e.ev T g ρ S) fmtW := (rfl)
theorem ev_fstr {es p} : (E.fstr es p).ev T g ρ S = es.js T g Str.empty ρ S := (rfl)
def joinQ (acc : Str) (x : W) (k : Str → Res W) [_m : Mk k] : Res W := joinW acc x k
theorem js_nil {acc : Str} : Es.nil.js T g acc ρ S = .ok (.t (.str acc)) S := (rfl)
theorem js_cons {e r} {acc : Str} : (Es.cons e r).js T g acc ρ S = bx (e.ev T g ρ S) fun x S1 => joinQ acc x fun a => r.js T g a ρ S1 := (rfl)
def popO (n : Nat) (S : Store) (i : Int) (o : Ob) : Res W := match o with
  | .lst ds => match popD ds i with
    | some q => .ok (.t q.1) (S.set n (some (.lst q.2)))
    | none => .bad
  | _ => .bad
theorem popO_l {n : Nat} {i : Int} {ds : List D} : popO n S i (.lst ds) = onO .bad (popD ds i) fun q => .ok (.t q.1) (S.set n (some (.lst q.2))) := by
  show (match popD ds i with | some q => Res.ok (W.t q.1) (S.set n (some (.lst q.2))) | none => .bad) = _
  cases popD ds i <;> rfl
theorem popW_l {n : Nat} {i : Int} : popW S (.loc n) (.t (.int i)) = onO .bad (get S n) (popO n S i) := by
  show (match get S n with | some (.lst ds) => (match popD ds i with | some q => Res.ok (W.t q.1) (S.set n (some (.lst q.2))) | none => .bad) | _ => .bad) = _
  cases get S n with
  | none => rfl
  | some o => cases o <;> rfl
def isLstO : Option Ob → Bool
  | some (.lst _) => true
  | _ => false
theorem isLstO_l {ds : List D} : isLstO (some (.lst ds)) = true := (rfl)
theorem isLstE_l {n : Nat} : isLstE S (.loc n) = isLstO (get S n) := by
  show (match get S n with | some (.lst _) => true | _ => false) = _
  cases get S n with
  | none => rfl
  | some o => cases o <;> rfl
theorem ev_popx {o i pa pc} : (E.popx o i pa pc).ev T g ρ S = bx (o.ev T g ρ S) fun x S1 => if isLstE S1 x = true then bx (i.ev T g ρ S1) fun y S2 => popW S2 x y else .bad := (rfl)
theorem popD_nat {ds : List D} {k : Nat} (h : k < ds.length) (hl : ds.length ≤ 16777216) : popD ds (k : Int) = some (ds[k], ds.eraseIdx k) := by
  unfold popD
  rw [if_pos (by omega)]
  have e : seqIndex? (k : Int) ds.length = some k := by
    unfold seqIndex?
    simp
    omega
  rw [e]
  simp [h]
theorem ev_comp {elt tg src ifs sc own p} : (E.comp elt tg src ifs sc own p).ev T g ρ S = bx (src.ev T g ρ S) fun items S1 =>
    compRes S1.length (turnsL (turn1 (fun x => tg.store x (wipeE ρ (own.map (·.2)))) (fun ρ2 S2 => ifs.all T g ρ2 S2) (fun ρ2 S2 => elt.ev T g ρ2 S2)) S1.length items items.1.length 0 (S1 ++ [some (.lst [])])) := (rfl)
def newW (x : W) (S1 : Store) : Res W := match x with
    | .t (.lst ds) => .ok (.loc S1.length) (S1 ++ [some (.lst ds)])
    | .t (.dct t ds) => .ok (.loc S1.length) (S1 ++ [some (.dct t ds)])
    | _ => .bad
theorem newW_l {ds : List D} : newW (.t (.lst ds)) S = .ok (.loc S.length) (S ++ [some (.lst ds)]) := (rfl)
theorem newW_d {t : Bool} {ds : List (D × D)} : newW (.t (.dct t ds)) S = .ok (.loc S.length) (S ++ [some (.dct t ds)]) := (rfl)
theorem ev_new {e} : (E.new e).ev T g ρ S = bx (e.ev T g ρ S) newW := (rfl)
theorem ev_frz {e} : (E.frz e).ev T g ρ S = bx (e.ev T g ρ S) fun x S1 => frzW S.length x S1 := (rfl)
theorem frzW_t {n : Nat} {d : D} : frzW n (.t d) S = .ok (.t d) S := (rfl)
theorem frzW_l {d : Ob} : frzW S.length (.loc S.length) (S ++ [some d]) = .ok (.t d.tree) S := by
  unfold frzW
  have : get (S ++ [some d]) S.length = some d := by simp [get]
  simp [this]
theorem es_nil : Es.nil.ev T g ρ S = .ok [] S := (rfl)
theorem es_cons {e r} : (Es.cons e r).ev T g ρ S = bx (e.ev T g ρ S) fun x S1 => bx (r.ev T g ρ S1) fun xs S2 => .ok (x :: xs) S2 := (rfl)
theorem all_nil : Es.nil.all T g ρ S = .ok true S := (rfl)
def allR (r : Res W) (k : Store → Res Bool) [_m : Mk k] : Res Bool := match r with
  | .ok (.t (.bl true)) S1 => k S1
  | .ok (.t (.bl false)) S1 => .ok false S1
  | _ => .bad
theorem allR_b {b : Bool} {k : Store → Res Bool} : allR (.ok (.t (.bl b)) S) k = if b = true then k S else .ok false S := by cases b <;> rfl
theorem all_cons {e r} : (Es.cons e r).all T g ρ S = allR (e.ev T g ρ S) fun S1 => r.all T g ρ S1 := by
  rw [Es.all]; unfold allR; rfl
theorem eo_no : Eo.no.ev T g ρ S = .ok none S := (rfl)
def intW (x : W) (S1 : Store) : Res (Option Int) := match x with | .t (.int i) => .ok (some i) S1 | _ => .bad
theorem intW_i {i : Int} : intW (.t (.int i)) S = .ok (some i) S := (rfl)
theorem eo_so {e} : (Eo.so e).ev T g ρ S = bx (e.ev T g ρ S) intW := (rfl)
def seqW (x : W) (S1 : Store) : Res Wk := match x with
    | .t (.str z) => .ok (z.cps.toList.map (fun c => .str ⟨#[c]⟩), none) S1
    | .t d => match d.items with | some xs => .ok (xs, none) S1 | none => .bad
    | .loc n => match get S1 n with | some (.lst xs) => .ok (xs, some n) S1 | _ => .bad
theorem sr_seq {e} : (Sr.seq e).ev T g ρ S = bx (e.ev T g ρ S) seqW := (rfl)
theorem seqW_s {z : Str} : seqW (.t (.str z)) S = .ok (z.cps.toList.map (fun c => .str ⟨#[c]⟩), none) S := (rfl)
theorem seqW_lst {xs : List D} : seqW (.t (.lst xs)) S = .ok (xs, none) S := (rfl)
theorem seqW_ro {xs : List D} : seqW (.t (.ro xs)) S = .ok (xs, none) S := (rfl)
theorem seqW_tup {xs : List D} : seqW (.t (.tup xs)) S = .ok (xs, none) S := (rfl)
theorem seqW_rt {xs : List D} : seqW (.t (.rt xs)) S = .ok (xs, none) S := (rfl)
theorem sr_rng {es pn p} : (Sr.rng es pn p).ev T g ρ S = bx (es.ev T g ρ S) fun ws S1 => onO .bad (asTs ws) fun ds => onO .bad (rngItems ds) fun xs => .ok (xs, none) S1 := by
  show bnd _ _ = bnd _ _
  congr 1; funext ws S1
  cases asTs ws with
  | none => rfl
  | some d =>
    simp only [onO]
    cases rngItems d <;> rfl
theorem sr_enum {e pn p} : (Sr.enum e pn p).ev T g ρ S = bx (e.ev T g ρ S) fun x S1 => onT1 .bad x fun d => onO .bad d.lsts fun xs => .ok (enumD 0 xs, none) S1 := by
  show bnd _ _ = bnd _ _
  congr 1; funext x S1
  cases x with
  | loc n => rfl
  | t d =>
    simp only [onT1]
    cases d.lsts <;> rfl
theorem sr_zip {a b pn p} : (Sr.zip a b pn p).ev T g ρ S = bx (a.ev T g ρ S) fun x S1 => bx (b.ev T g ρ S1) fun y S2 => onT2 .bad x y fun d u => onO .bad d.lsts fun xs => onO .bad u.lsts fun ys => .ok (zipD xs ys, none) S2 := by
  show bnd _ _ = bnd _ _
  congr 1
  funext x S1
  congr 1
  funext y S2
  cases x with
  | loc n => cases y <;> rfl
  | t d =>
    cases y with
    | loc n => rfl
    | t u =>
      show (match d.lsts, u.lsts with | some xs, some ys => Res.ok (zipD xs ys, none) S2 | _, _ => Res.bad) = onO _ _ _
      cases d.lsts with
      | none => rfl
      | some xs => cases u.lsts <;> rfl
theorem sr_rev {e pn p} : (Sr.rev e pn p).ev T g ρ S = bx (e.ev T g ρ S) fun x S1 => onT1 .bad x fun d => onO .bad d.lsts fun xs => .ok (xs.reverse, none) S1 := by
  show bnd _ _ = bnd _ _
  congr 1; funext x S1
  cases x with
  | loc n => rfl
  | t d =>
    simp only [onT1]
    cases d.lsts <;> rfl
end

/-! ### statements -/
section
variable {T : Nat → List W → Store → Res W} {g : Sig} {ρ : Env'} {S : Store}
theorem ss_nil : Ss.nil.ev T g ρ S = .next ρ S := (rfl)
theorem ss_cons {s r} : (Ss.cons s r).ev T g ρ S = sq (s.ev T g ρ S) fun ρ1 S1 => r.ev T g ρ1 S1 := (rfl)
theorem ss_frz {i r} : (Ss.frz i r).ev T g ρ S = frzE i ρ S fun ρ1 S1 => r.ev T g ρ1 S1 := (rfl)
theorem st_set {i e px p} : (St.set i e px p).ev T g ρ S = lx ρ (e.ev T g ρ S) fun w S1 => setE ρ i w S1 := (rfl)
theorem st_unp {l tg e p} : (St.unp l tg e p).ev T g ρ S = lx ρ (e.ev T g ρ S) fun w S1 => onO .bad (rd S1 w) fun d => onO .bad (unpD l d) fun ds => onO .bad (tg.unp ds ρ) fun ρ1 => .next ρ1 S1 := by
  show lift _ _ _ = lift _ _ _
  congr 1; funext w S1
  cases rd S1 w with
  | none => rfl
  | some d =>
    simp only [onO]
    cases unpD l d with
    | none => rfl
    | some ds =>
      dsimp only
      cases tg.unp ds ρ <;> rfl
theorem st_aug {i o e px p} : (St.aug i o e px p).ev T g ρ S = onO .bad (lk ρ i) fun u => onT1 .bad u fun x => lx ρ (e.ev T g ρ S) fun w S1 => augR o x w ρ i S1 := by
  show (match (ρ[i]?).getD none with | some (.t x) => _ | _ => _) = _
  unfold lk
  cases (ρ[i]?).getD none with
  | none => rfl
  | some u => cases u <;> rfl
theorem st_expr {e p} : (St.expr e p).ev T g ρ S = lx ρ (e.ev T g ρ S) fun _ S1 => .next ρ S1 := (rfl)
theorem st_doc {s k p p'} : (St.doc s k p p').ev T g ρ S = .next ρ S := (rfl)
theorem st_ret {e p} : (St.ret e p).ev T g ρ S = lx ρ (e.ev T g ρ S) fun w S1 => .ret w S1 := (rfl)
theorem st_retN {p} : (St.retN p).ev T g ρ S = .ret (.t .non) S := (rfl)
theorem st_ite {c a b p} : (St.ite c a b p).ev T g ρ S = lx ρ (c.ev T g ρ S) fun w S1 => onB .bad w (a.ev T g ρ S1) (b.ev T g ρ S1) := (rfl)
theorem st_forr {tg src body p} : (St.forr tg src body p).ev T g ρ S = lx ρ (src.ev T g ρ S) fun items S1 => forsL (fun x ρ => tg.store x ρ) (fun ρ S => body.ev T g ρ S) items items.1.length 0 ρ S1 := (rfl)
theorem st_whl {n c body p} : (St.whl n c body p).ev T g ρ S = whiles (fun ρ S => c.ev T g ρ S) (fun ρ S => body.ev T g ρ S) n ρ S := (rfl)
theorem st_brk {p} : (St.brk p).ev T g ρ S = .brk ρ S := (rfl)
theorem st_cont {p} : (St.cont p).ev T g ρ S = .cont ρ S := (rfl)
theorem st_pass {p} : (St.pass p).ev T g ρ S = .next ρ S := (rfl)
theorem st_rai {c m k pn p2 pc p} : (St.rai c m k pn p2 pc p).ev T g ρ S = .exc c ρ S := (rfl)
theorem st_tri {body c n y pc py pn pa ph p} : (St.tri body c n y pc py pn pa ph p).ev T g ρ S = triR (fun c' => g.hit c' c) n y (body.ev T g ρ S) := (rfl)
theorem st_mut {m o es pa pc p} : (St.mut m o es pa pc p).ev T g ρ S = lx ρ (o.ev T g ρ S) fun x S1 => if isLst S1 x then lx ρ (es.ev T g ρ S1) fun ws S2 => mutR m x ws S2 fun _ S3 => .next ρ S3 else .bad := (rfl)
theorem st_smu {i m o es pa pc px p} : (St.smu i m o es pa pc px p).ev T g ρ S = lx ρ (o.ev T g ρ S) fun x S1 => if isLst S1 x then lx ρ (es.ev T g ρ S1) fun ws S2 => mutR m x ws S2 fun d S3 => setE ρ i (.t d) S3 else .bad := (rfl)
def sflR (g : Sig) (ρ : Env') (S2 : Store) (f : Nat) (x w : W) : FR := match x, w with
    | .loc n, .t d => match get S2 n with
      | some (.ins c fs) => if g.na.contains (c, f) && decide (fs.length < 1000) then .next ρ (S2.set n (some (.ins c (putFD f d fs)))) else .bad
      | _ => .bad
    | _, _ => .bad
theorem st_sfl {o f e pa p} : (St.sfl o f e pa p).ev T g ρ S = lx ρ (e.ev T g ρ S) fun w S1 => lx ρ (o.ev T g ρ S1) fun x S2 => sflR g ρ S2 f x w := (rfl)
def istR (ρ : Env') (S3 : Store) (x y w : W) : FR := match x, y, w with
    | .loc n, .t dk, .t d => match get S3 n with
      | some ob => match istO ob dk d with | some ob' => .next ρ (S3.set n (some ob')) | none => .bad
      | none => .bad
    | _, _, _ => .bad
theorem st_ist {o k e ps p} : (St.ist o k e ps p).ev T g ρ S = lx ρ (e.ev T g ρ S) fun w S1 => lx ρ (o.ev T g ρ S1) fun x S2 => lx ρ (k.ev T g ρ S2) fun y S3 => istR ρ S3 x y w := (rfl)
theorem setE_ok {i : Nat} {w : W} (h : i < ρ.length) : setE ρ i w S = .next (ρ.set i (some w)) S := by unfold setE; rw [if_pos h]
/-! ### the end of a def -/
theorem endF_ret {b : Nat} {w : W} : endF b (.ret w S) = leave b w S := (rfl)
theorem endF_next {b : Nat} : endF b (.next ρ S) = .ok (.t .non) (S.take b) := (rfl)
theorem endF_exc {b c : Nat} : endF b (.exc c ρ S) = .exc c (S.take b) := (rfl)
theorem leave_t {b : Nat} {d : D} : leave b (.t d) S = .ok (.t d) (S.take b) := (rfl)
theorem leave_new {L : Store} {k : Nat} : leave S.length (.loc (S.length + k)) (S ++ L) = onO .bad (get L k) fun o => .ok (.loc S.length) (S ++ [some o]) := by
  unfold leave
  dsimp only
  rw [if_neg (by omega)]
  have e : get (S ++ L) (S.length + k) = get L k := by
    unfold get
    rw [List.getElem?_append_right (by omega)]
    congr 2
    omega
  rw [e]
  cases get L k with
  | none => rfl
  | some o => simp [onO]
theorem leave_0 {L : Store} : leave S.length (.loc S.length) (S ++ L) = onO .bad (get L 0) fun o => .ok (.loc S.length) (S ++ [some o]) := leave_new (k := 0)
theorem get_app0 {L : Store} : get (S ++ L) S.length = get L 0 := by
  unfold get; rw [List.getElem?_append_right (by omega)]; simp
theorem get_appk {L : Store} {k : Nat} : get (S ++ L) (S.length + k) = get L k := by
  unfold get; rw [List.getElem?_append_right (by omega)]; congr 2; omega
theorem set_c0 {α : Type} {x y : α} {L : List α} : (x :: L).set 0 y = y :: L := (rfl)
theorem set_cS {α : Type} {x y : α} {L : List α} {k : Nat} : (x :: L).set (k + 1) y = x :: L.set k y := (rfl)
theorem get_0 {o : Option Ob} {L : Store} : get (o :: L) 0 = o := by cases o <;> rfl
theorem get_S {o : Option Ob} {L : Store} {k : Nat} : get (o :: L) (k + 1) = get L k := (rfl)
theorem set_app0 {L : Store} {o : Option Ob} : (S ++ L).set S.length o = S ++ L.set 0 o := by
  rw [List.set_append_right _ _ (by omega)]; simp
theorem set_appk {L : Store} {o : Option Ob} {k : Nat} : (S ++ L).set (S.length + k) o = S ++ L.set k o := by
  rw [List.set_append_right _ _ (by omega)]; congr 2; omega
theorem take_app {L : Store} : (S ++ L).take S.length = S := by simp
theorem take_appk {L : Store} {k : Nat} : (S ++ L).take (S.length + k) = S ++ L.take k := by rw [List.take_append, List.take_of_length_le (by omega), Nat.add_sub_cancel_left]
theorem take_appL {L L' : Store} : (S ++ L).take (S ++ L').length = S ++ L.take L'.length := by rw [List.length_append, take_appk]
theorem app_app {L L' : Store} : (S ++ L) ++ L' = S ++ (L ++ L') := List.append_assoc _ _ _
theorem len_app {L : Store} : (S ++ L).length = S.length + L.length := List.length_append
end
end Rf

/-! Pl, part B: the operations over data, bounds of numbers. -/
namespace Rf
open PySem PySem.Spec PyProof.Rows L2

/-! ### bounds, found by the search for instances -/
class Ng (i : Int) : Prop where h : 0 ≤ i
class Ps (i : Int) : Prop where h : 0 < i
class Bd (i : Int) (n : outParam Nat) : Prop where h : i.natAbs < 2 ^ n
theorem bd_log {i : Int} {n : Nat} (h : i.natAbs < 2 ^ n) : i.natAbs.log2 ≤ n := by
  by_cases z : i.natAbs = 0
  · rw [z]; simp
  · exact Nat.le_of_lt ((Nat.log2_lt z).mpr h)
instance {n : Nat} : Ng (no_index (OfNat.ofNat n)) := ⟨Int.natCast_nonneg n⟩
instance {n : Nat} : Ng (n : Int) := ⟨Int.natCast_nonneg n⟩
instance {n : Nat} : Ps (no_index (OfNat.ofNat (n + 1))) := ⟨Int.natCast_pos.mpr (Nat.succ_pos n)⟩
instance (priority := low) {i : Int} [Ps i] : Ng i := ⟨Int.le_of_lt Ps.h⟩
instance {a b : Int} [Ng a] [Ng b] : Ng (a + b) := ⟨Int.add_nonneg Ng.h Ng.h⟩
instance {a b : Int} [Ng a] [Ng b] : Ng (a * b) := ⟨Int.mul_nonneg Ng.h Ng.h⟩
instance {a b : Int} [Ng a] [Ng b] : Ng (a / b) := ⟨Int.ediv_nonneg Ng.h Ng.h⟩
instance {a b : Int} [Ps b] : Ng (a % b) := ⟨Int.emod_nonneg _ (by have := (Ps.h : 0 < b); omega)⟩
instance {a : Int} {n : Nat} [Ng a] : Ng (a ^ n) := ⟨Int.pow_nonneg Ng.h⟩
instance (priority := 900) {a b : Int} [Ps a] [Ng b] : Ps (a + b) := ⟨by have := (Ps.h : 0 < a); have := (Ng.h : 0 ≤ b); omega⟩
instance (priority := 800) {a b : Int} [Ng a] [Ps b] : Ps (a + b) := ⟨by have := (Ng.h : 0 ≤ a); have := (Ps.h : 0 < b); omega⟩
instance {a b : Int} [Ps a] [Ps b] : Ps (a * b) := ⟨Int.mul_pos Ps.h Ps.h⟩
instance {a : Int} {n : Nat} [Ps a] : Ps (a ^ n) := ⟨Int.pow_pos Ps.h⟩
instance {a b : Int} [Ps b] : Ps (b - a % b) := ⟨by have := Int.emod_lt_of_pos a (Ps.h : 0 < b); omega⟩
instance {n : Nat} : Bd (no_index (OfNat.ofNat n)) (n.log2 + 1) := ⟨by show n < _; exact Nat.lt_log2_self⟩
theorem pow_max {m n x y : Nat} (h : x < 2 ^ m) (k : y < 2 ^ n) : x + y < 2 ^ (max m n + 1) := by
  have h1 : 2 ^ m ≤ 2 ^ max m n := Nat.pow_le_pow_right (by omega) (Nat.le_max_left _ _)
  have h2 : 2 ^ n ≤ 2 ^ max m n := Nat.pow_le_pow_right (by omega) (Nat.le_max_right _ _)
  have : 2 ^ (max m n + 1) = 2 ^ max m n + 2 ^ max m n := by rw [Nat.pow_succ]; omega
  omega
instance {a b : Int} {m n : Nat} [Bd a m] [Bd b n] : Bd (a + b) (max m n + 1) := ⟨Nat.lt_of_le_of_lt (Int.natAbs_add_le a b) (pow_max Bd.h Bd.h)⟩
instance {a b : Int} {m n : Nat} [Bd a m] [Bd b n] : Bd (a - b) (max m n + 1) := ⟨Nat.lt_of_le_of_lt (by have := Int.natAbs_add_le a (-b); rw [Int.natAbs_neg] at this; exact this) (pow_max Bd.h Bd.h)⟩
instance {a : Int} {m : Nat} [Bd a m] : Bd (-a) m := ⟨by rw [Int.natAbs_neg]; exact Bd.h⟩
instance {a b : Int} {m n : Nat} [Bd a m] [Bd b n] : Bd (a * b) (m + n) := ⟨by
  rw [Int.natAbs_mul, Nat.pow_add]
  exact Nat.mul_lt_mul'' Bd.h Bd.h⟩
instance {a b : Int} {m : Nat} [Bd a m] : Bd (a / b) m := ⟨Nat.lt_of_le_of_lt (Int.natAbs_ediv_le_natAbs a b) Bd.h⟩
instance {a b : Int} {m : Nat} [Ps b] [Bd b m] : Bd (a % b) m := ⟨by
  have h1 := Int.emod_nonneg a (show b ≠ 0 by have := (Ps.h : 0 < b); omega)
  have h2 := Int.emod_lt_of_pos a (Ps.h : 0 < b)
  have h3 := (Bd.h : b.natAbs < 2 ^ m)
  omega⟩
instance {a : Int} {m n : Nat} [Bd a m] : Bd (a ^ n) (m * n + 1) := ⟨by
  rw [Int.natAbs_pow, Nat.pow_succ, Nat.pow_mul]
  have := Nat.pow_le_pow_left (Nat.le_of_lt (Bd.h : a.natAbs < 2 ^ m)) n
  have : 0 < (2 ^ m) ^ n := Nat.pow_pos (Nat.pow_pos (by omega))
  omega⟩
instance {c : Prop} [Decidable c] {a b : Int} {m n : Nat} [Bd a m] [Bd b n] : Bd (if c then a else b) (max m n) := ⟨by
  split
  · exact Nat.lt_of_lt_of_le Bd.h (Nat.pow_le_pow_right (by omega) (Nat.le_max_left _ _))
  · exact Nat.lt_of_lt_of_le Bd.h (Nat.pow_le_pow_right (by omega) (Nat.le_max_right _ _))⟩
theorem bd_up {i : Int} {m n : Nat} [Bd i m] (h : m < n) : Bd i n := ⟨Nat.lt_of_lt_of_le Bd.h (Nat.pow_le_pow_right (by omega) (Nat.le_of_lt h))⟩
theorem ng {i : Int} (h : 0 ≤ i) : Ng i := ⟨h⟩
theorem ps {i : Int} (h : 0 < i) : Ps i := ⟨h⟩
theorem bd {i : Int} (n : Nat) (h1 : -(2 ^ n) < i) (h2 : i < 2 ^ n) : Bd i n := ⟨by
  have : ((2 ^ n : Nat) : Int) = (2 : Int) ^ n := by simp
  omega⟩

/-! ### numbers -/
section
variable {i j : Int}
theorem b2_add : bin2 .add (.int i) (.int j) = some (.int (i + j)) := (rfl)
theorem b2_sub : bin2 .sub (.int i) (.int j) = some (.int (i - j)) := (rfl)
theorem b2_mul {m n : Nat} [Bd i m] [Bd j n] (h : Nat.blt (m + n) 1000000 = true) : bin2 .mul (.int i) (.int j) = some (.int (i * j)) := by
  have h1 := bd_log (Bd.h : i.natAbs < 2 ^ m)
  have h2 := bd_log (Bd.h : j.natAbs < 2 ^ n)
  have h : m + n < 1000000 := by simpa [Nat.blt_eq] using h
  show (if i.natAbs.log2 + j.natAbs.log2 < 1000000 then some (D.int (i * j)) else none) = _
  rw [if_pos (by omega)]
theorem b2_fdiv {n : Nat} [Ps j] [Bd j n] (h : Nat.blt n 9000 = true) : bin2 .fdiv (.int i) (.int j) = some (.int (i / j)) := by
  have h2 := bd_log (Bd.h : j.natAbs < 2 ^ n)
  have h : n < 9000 := by simpa [Nat.blt_eq] using h
  show (if 0 < j ∧ j.natAbs.log2 < 9000 then some (D.int (i / j)) else none) = _
  rw [if_pos ⟨Ps.h, by omega⟩]
theorem b2_mod [Ps j] : bin2 .mod (.int i) (.int j) = some (.int (i % j)) := by
  show (if 0 < j then some (D.int (i % j)) else none) = _
  rw [if_pos Ps.h]
theorem b2_pow {n k : Nat} [Bd i n] (h : Nat.ble n 64 = true) (hk : Nat.ble k 1000 = true) : bin2 .pow (.int i) (.int (no_index (OfNat.ofNat k))) = some (.int (i ^ k)) := by
  have h1 := (Bd.h : i.natAbs < 2 ^ n)
  have h : n ≤ 64 := Nat.le_of_ble_eq_true h
  have hk : k ≤ 1000 := Nat.le_of_ble_eq_true hk
  have h2 : 2 ^ n ≤ 2 ^ 64 := Nat.pow_le_pow_right (by omega) h
  show (if 0 ≤ ((k : Nat) : Int) ∧ ((k : Nat) : Int) ≤ 1000 ∧ i.natAbs < 2 ^ 64 then some (D.int (i ^ ((k : Nat) : Int).toNat)) else none) = _
  rw [if_pos ⟨by omega, by omega, Nat.lt_of_lt_of_le h1 h2⟩]
  simp
theorem c2_lt : cmp2 .lt (.int i) (.int j) = some (decide (i < j)) := (rfl)
theorem c2_le : cmp2 .le (.int i) (.int j) = some (decide (i ≤ j)) := (rfl)
theorem c2_gt : cmp2 .gt (.int i) (.int j) = some (decide (j < i)) := (rfl)
theorem c2_ge : cmp2 .ge (.int i) (.int j) = some (decide (j ≤ i)) := (rfl)
theorem eqv_int : eqv2 (.int i) (.int j) = some (decide (i = j)) := by
  unfold eqv2 eqv1 D.sc
  simp [scal]
theorem eqv_str {x y : Str} : eqv2 (.str x) (.str y) = some (decide (x = y)) := by
  unfold eqv2 eqv1 D.sc
  simp [scal]
theorem eqv_bl {x y : Bool} : eqv2 (.bl x) (.bl y) = some (decide (x = y)) := by
  unfold eqv2 eqv1 D.sc
  simp [scal]
theorem c2_eq {a b : D} : cmp2 .eq a b = eqv2 a b := (rfl)
theorem c2_ne {a b : D} : cmp2 .ne a b = (eqv2 a b).map (!·) := (rfl)
theorem c2_is {a : D} : cmp2 .is_ a .non = some a.isNon := (rfl)
theorem c2_isn {a : D} : cmp2 .isn a .non = some (!a.isNon) := (rfl)
end
/-! ### lengths, found by the search for instances -/
class Ln {α : Type} (xs : List α) (n : outParam Nat) : Prop where h : xs.length ≤ n
class Ls (x : Str) (n : outParam Nat) : Prop where h : x.length ≤ n
theorem sl_le {n : Nat} (h : Nat.ble n 16777216 = true) : n ≤ sizeLine := by
  have := Nat.le_of_ble_eq_true h
  have e : sizeLine = 16777216 := by decide
  omega
theorem sl_n {n : Nat} (h : n ≤ 16777216) : n ≤ sizeLine := by
  have e : sizeLine = 16777216 := by decide
  omega
section
variable {α β : Type}
instance : Ln ([] : List α) 0 := ⟨Nat.le_refl _⟩
instance {a : α} {r : List α} {n : Nat} [Ln r n] : Ln (a :: r) (n + 1) := ⟨Nat.succ_le_succ Ln.h⟩
instance {a b : List α} {m n : Nat} [Ln a m] [Ln b n] : Ln (a ++ b) (m + n) := ⟨by rw [List.length_append]; exact Nat.add_le_add Ln.h Ln.h⟩
instance {a : List α} {f : α → β} {m : Nat} [Ln a m] : Ln (a.map f) m := ⟨by rw [List.length_map]; exact Ln.h⟩
instance {a : List α} {k m : Nat} [Ln a m] : Ln (a.take k) m := ⟨Nat.le_trans (by rw [List.length_take]; omega) (Ln.h (xs := a))⟩
instance {a : List α} {k m : Nat} [Ln a m] : Ln (a.drop k) m := ⟨Nat.le_trans (by rw [List.length_drop]; omega) (Ln.h (xs := a))⟩
instance {a : List α} {f : α → Bool} {m : Nat} [Ln a m] : Ln (a.filter f) m := ⟨Nat.le_trans (List.length_filter_le _ _) (Ln.h (xs := a))⟩
instance {a : List α} {f : α → Option β} {m : Nat} [Ln a m] : Ln (a.filterMap f) m := ⟨Nat.le_trans (List.length_filterMap_le _ _) (Ln.h (xs := a))⟩
instance {a : List α} {m : Nat} [Ln a m] : Ln a.reverse m := ⟨by rw [List.length_reverse]; exact Ln.h⟩
instance {n : Nat} : Ln (List.range n) n := ⟨by rw [List.length_range]; exact Nat.le_refl _⟩
instance {c : Prop} [Decidable c] {a b : List α} {m n : Nat} [Ln a m] [Ln b n] : Ln (if c then a else b) (max m n) := ⟨by
  split
  · exact Nat.le_trans Ln.h (Nat.le_max_left _ _)
  · exact Nat.le_trans Ln.h (Nat.le_max_right _ _)⟩
instance {x y : Str} {m n : Nat} [Ls x m] [Ls y n] : Ls (x ++ y) (m + n) := ⟨by
  have e : (x ++ y).length = x.length + y.length := by show (x.cps ++ y.cps).size = _; rw [Array.size_append]; rfl
  rw [e]; exact Nat.add_le_add Ls.h Ls.h⟩
instance {c : Nat} : Ls ⟨#[c]⟩ 1 := ⟨Nat.le_refl _⟩
instance {s : String} : Ls (Str.ofString s) (Str.ofString s).length := ⟨Nat.le_refl _⟩
instance : Ls Str.empty 0 := ⟨Nat.le_refl _⟩
instance {x : Str} {lo hi : Option Int} {m : Nat} [Ls x m] : Ls (cutS x lo hi) m := ⟨by
  have := (Ls.h : x.length ≤ m)
  show (List.toArray _).size ≤ m
  rw [List.size_toArray, List.length_take, List.length_drop]
  have e : x.cps.toList.length = x.length := by rw [Array.length_toList]; rfl
  omega⟩
instance {c : Prop} [Decidable c] {a b : Str} {m n : Nat} [Ls a m] [Ls b n] : Ls (if c then a else b) (max m n) := ⟨by
  split
  · exact Nat.le_trans Ls.h (Nat.le_max_left _ _)
  · exact Nat.le_trans Ls.h (Nat.le_max_right _ _)⟩
end
theorem ls {x : Str} (n : Nat) (h : x.length ≤ n) : Ls x n := ⟨h⟩
theorem ln {α : Type} {x : List α} (n : Nat) (h : x.length ≤ n) : Ln x n := ⟨h⟩
/-! ### texts and lists -/
section
variable {x y : Str} {xs ys : List D} {i j : Int}
theorem b2_addS {m n : Nat} [Ls x m] [Ls y n] (h : Nat.ble (m + n) 16777216 = true) : bin2 .add (.str x) (.str y) = some (.str (x ++ y)) := by
  show (if _ then _ else _) = _
  rw [if_pos (Nat.le_trans (Nat.add_le_add Ls.h Ls.h) (sl_le h))]
theorem b2_addL {m n : Nat} [Ln xs m] [Ln ys n] (h : Nat.ble (m + n) 16777216 = true) : bin2 .add (.lst xs) (.lst ys) = some (.lst (xs ++ ys)) := by
  show (if _ then _ else _) = _
  rw [if_pos (Nat.le_trans (Nat.add_le_add Ln.h Ln.h) (sl_le h))]
theorem inSeq_s {ds : List D} (h : (strs? ds).isSome = true) : inSeq (.str x) ds = (strs? ds).map fun ys => decide (x ∈ ys) := by
  have key : ∀ (ds : List D) (ys : List Str), strs? ds = some ys → scs ds = some (ys.map V.str) := by
    intro ds
    induction ds with
    | nil => intro ys e; simp [strs?] at e; subst e; rfl
    | cons d ds ih =>
      intro ys e
      cases d with
      | str s =>
        simp only [strs?] at e
        cases q : strs? ds with
        | none => rw [q] at e; cases e
        | some zs =>
          rw [q] at e; cases e
          simp only [scs, D.sc, ih zs q, List.map_cons]
      | _ => simp [strs?] at e
  cases q : strs? ds with
  | none => rw [q] at h; cases h
  | some ys =>
    unfold inSeq
    rw [key ds ys q]
    simp only [D.sc, Option.map_some]
    congr 1
    clear q h key
    induction ys with
    | nil => rfl
    | cons y ys ih =>
      simp only [List.map_cons, inV, List.any_cons] at ih ⊢
      rw [ih]
      simp only [eqV, List.mem_cons, Bool.decide_or]
      congr 1
      by_cases q : x = y
      · simp [q]
      · simp [q, Ne.symm q]
theorem sx_nil : strs? [] = some [] := (rfl)
theorem sx_cons {ds : List D} : strs? (.str x :: ds) = (strs? ds).map (x :: ·) := by
  simp only [strs?]
  cases strs? ds <;> rfl
theorem sx_map {zs : List Str} : strs? (zs.map .str) = some zs := by
  induction zs with
  | nil => rfl
  | cons z zs ih => rw [List.map_cons, sx_cons, ih]; rfl
theorem sx_app {ds es : List D} : strs? (ds ++ es) = (strs? ds).bind fun a => (strs? es).map fun b => a ++ b := by
  induction ds with
  | nil => cases h : strs? es <;> simp [strs?, h]
  | cons d ds ih =>
    cases d with
    | str s =>
      rw [List.cons_append, sx_cons, sx_cons, ih]
      cases strs? ds with
      | none => rfl
      | some a => cases strs? es <;> simp
    | _ => simp [strs?]
theorem c2_memL : cmp2 .mem (.str x) (.lst xs) = inSeq (.str x) xs := (rfl)
theorem c2_memRo : cmp2 .mem (.str x) (.ro xs) = inSeq (.str x) xs := (rfl)
theorem c2_memT : cmp2 .mem (.str x) (.tup xs) = inSeq (.str x) xs := (rfl)
theorem c2_memRt : cmp2 .mem (.str x) (.rt xs) = inSeq (.str x) xs := (rfl)
theorem c2_nmemL : cmp2 .nmem (.str x) (.lst xs) = (inSeq (.str x) xs).map (!·) := (rfl)
theorem c2_nmemRo : cmp2 .nmem (.str x) (.ro xs) = (inSeq (.str x) xs).map (!·) := (rfl)
theorem c2_nmemT : cmp2 .nmem (.str x) (.tup xs) = (inSeq (.str x) xs).map (!·) := (rfl)
theorem c2_nmemRt : cmp2 .nmem (.str x) (.rt xs) = (inSeq (.str x) xs).map (!·) := (rfl)
theorem c2_memS : cmp2 .mem (.str x) (.str y) = some (strIn x y) := (rfl)
theorem bf_lenS {m : Nat} [Ls x m] (h : Nat.ble m 16777216 = true) : bf .len [.str x] = some (.int x.length) := by
  show (if _ then _ else _) = _
  rw [if_pos (Nat.le_trans Ls.h (sl_le h))]
theorem bf_lenL : bf .len [.lst xs] = some (.int xs.length) := (rfl)
theorem bf_lenRo : bf .len [.ro xs] = some (.int xs.length) := (rfl)
theorem bf_lenT : bf .len [.tup xs] = some (.int xs.length) := (rfl)
theorem bf_lenRt : bf .len [.rt xs] = some (.int xs.length) := (rfl)
theorem bf_list {d : D} : bf .list [d] = d.items.map .lst := (rfl)
theorem bf_listD {kvs : List (D × D)} : bf .listD [.dct false kvs] = some (.lst (kvs.map (·.1))) := (rfl)
theorem bf_divmod {n : Nat} [Ps j] [Bd j n] (h : Nat.blt n 9000 = true) : bf .divmod [.int i, .int j] = some (.tup [.int (i / j), .int (i % j)]) := by
  have h2 := bd_log (Bd.h : j.natAbs < 2 ^ n)
  have h : n < 9000 := by simpa [Nat.blt_eq] using h
  show (if 0 < j ∧ j.natAbs.log2 < 9000 then some (D.tup [.int (i / j), .int (i % j)]) else none) = _
  rw [if_pos ⟨Ps.h, by omega⟩]
theorem bf_max2 : bf .max [.int i, .int j] = some (.int (max i j)) := by
  show some (D.int (if j > i then j else i)) = _
  congr 2; omega
theorem bf_min2 : bf .min [.int i, .int j] = some (.int (min i j)) := by
  show some (D.int (if j < i then j else i)) = _
  congr 2; omega
theorem bls_map {bs : List Bool} : bls? (bs.map .bl) = some bs := by
  induction bs with
  | nil => rfl
  | cons b bs ih => simp only [List.map_cons, bls?, ih]
theorem bx_nil : bls? [] = some [] := (rfl)
theorem bx_cons {b : Bool} {r : List D} : bls? (.bl b :: r) = (bls? r).map (b :: ·) := by
  simp only [bls?]
  cases bls? r <;> rfl
theorem bls_mapf {α : Type} {f : α → Bool} {bs : List α} : bls? (bs.map fun a => .bl (f a)) = some (bs.map f) := by
  induction bs with
  | nil => rfl
  | cons b bs ih => simp only [List.map_cons, bls?, ih]
theorem bf_all : bf .all [.lst xs] = (bls? xs).map fun bs => .bl (bs.all id) := (rfl)
theorem bf_any : bf .any [.lst xs] = (bls? xs).map fun bs => .bl (bs.any id) := (rfl)
theorem bf_str {n : Nat} [Bd i n] (h : Nat.blt n 1900 = true) : bf .str [.int i] = some (.str (toString i)) := by
  have h2 := bd_log (Bd.h : i.natAbs < 2 ^ n)
  have h : n < 1900 := by simpa [Nat.blt_eq] using h
  show (if i.natAbs.log2 < 1920 then some (D.str (toString i)) else none) = _
  rw [if_pos (by omega)]
theorem fmtW_s {S : Store} {m : Nat} [Ls x m] (h : Nat.ble m 16777216 = true) : fmtW (.t (.str x)) S = .ok (.t (.str x)) S := by
  show (if x.length ≤ sizeLine then Res.ok (W.t (.str x)) S else .bad) = _
  rw [if_pos (Nat.le_trans Ls.h (sl_le h))]
theorem fmtW_i {S : Store} {n : Nat} [Bd i n] (h : Nat.blt n 1900 = true) : fmtW (.t (.int i)) S = .ok (.t (.str (toString i))) S := by
  have h2 := bd_log (Bd.h : i.natAbs < 2 ^ n)
  have h : n < 1900 := by simpa [Nat.blt_eq] using h
  show (if i.natAbs.log2 < 1920 then Res.ok (W.t (.str (toString i))) S else .bad) = _
  rw [if_pos (by omega)]
theorem joinQ_s {f : Str → Res W} {m n : Nat} [Ls x m] [Ls y n] (h : Nat.ble (m + n) 16777216 = true) : joinQ x (.t (.str y)) f = f (x ++ y) := by
  show (if (x ++ y).length ≤ sizeLine then f (x ++ y) else .bad) = _
  rw [if_pos (Nat.le_trans (Ls.h : (x ++ y).length ≤ m + n) (sl_le h))]
instance {n : Nat} [Ng i] [Bd i n] : Ls (Str.ofString (toString i)) (n + 1) := ⟨by
  have h0 := (Ng.h : 0 ≤ i)
  have h1 := (Bd.h : i.natAbs < 2 ^ n)
  refine toString_length_le h0 (Nat.succ_pos n) ?_
  have h2 : 2 ^ n ≤ 10 ^ n := Nat.pow_le_pow_left (by omega) n
  have h3 : 10 ^ n ≤ 10 ^ (n + 1) := Nat.pow_le_pow_right (by omega) (by omega)
  have h4 : ((10 ^ (n + 1) : Nat) : Int) = (10 : Int) ^ (n + 1) := by simp
  omega⟩
theorem b2_shr {k : Nat} : bin2 .shr (.int i) (.int (no_index (OfNat.ofNat k))) = some (.int (i / 2 ^ k)) := by
  show (if 0 ≤ ((k : Nat) : Int) then some (D.int (i / 2 ^ ((k : Nat) : Int).toNat)) else none) = _
  rw [if_pos (by omega)]
  simp
theorem xl_str {lo hi : Option Int} {m : Nat} [Ls x m] (h : Nat.ble m 16777216 = true) : slice2 (.str x) lo hi = some (.str (cutS x lo hi)) := by
  show (if _ then _ else _) = _
  rw [if_pos (Nat.le_trans Ls.h (sl_le h))]
theorem xl_lst {lo hi : Option Int} : slice2 (.lst xs) lo hi = some (.lst (cutD xs lo hi)) := (rfl)
theorem xl_ro {lo hi : Option Int} : slice2 (.ro xs) lo hi = some (.lst (cutD xs lo hi)) := (rfl)
theorem xi_lst : ix2 (.lst xs) (.int i) = atI xs i := (rfl)
theorem xi_ro : ix2 (.ro xs) (.int i) = atI xs i := (rfl)
theorem xi_tup : ix2 (.tup xs) (.int i) = atI xs i := (rfl)
theorem xi_rt : ix2 (.rt xs) (.int i) = atI xs i := (rfl)
theorem xi_str {m : Nat} [Ls x m] (h : Nat.ble m 16777216 = true) : ix2 (.str x) (.int i) = (atI x.cps.toList i).map fun c => .str ⟨#[c]⟩ := by
  show (if _ then _ else _) = _
  rw [if_pos (Nat.le_trans Ls.h (sl_le h))]
theorem atI_nat {α : Type} {l : List α} {n : Nat} : atI l (n : Int) = l[n]? := by
  unfold atI ixN
  rw [if_pos (by omega)]
  split
  · simp
  · rename_i h
    rw [List.getElem?_eq_none (by omega)]; rfl
theorem atI_lit {α : Type} {l : List α} {n : Nat} : atI l (no_index (OfNat.ofNat n)) = l[n]? := atI_nat
theorem atI_m1 {α : Type} {l : List α} : atI l (-1) = l.getLast? := by
  unfold atI ixN
  rw [if_neg (by omega)]
  cases l with
  | nil => rfl
  | cons a l =>
    rw [if_pos (by simp only [List.length_cons]; omega)]
    rw [List.getLast?_eq_getElem?]
    simp only [Option.bind_some, List.length_cons]
    congr 1
    omega
end

/-! ### what is walked -/
section
variable {st : D → Env' → Option Env'} {body : Env' → Store → FR} {ρ : Env'} {S : Store}
theorem forsL_t {xs : List D} : forsL st body (xs, none) xs.length 0 ρ S = fors st body xs ρ S := by
  have key : ∀ (k i : Nat) (ρ : Env') (S : Store), k + i = xs.length → forsL st body (xs, none) k i ρ S = fors st body (xs.drop i) ρ S := by
    intro k
    induction k with
    | zero => intro i ρ S h; rw [List.drop_of_length_le (by omega)]; rfl
    | succ k ih =>
      intro i ρ S h
      have hi : i < xs.length := by omega
      rw [List.drop_eq_getElem_cons hi]
      simp only [forsL, fors]
      rw [show itAt (xs, none) S i = some xs[i] from List.getElem?_eq_getElem hi]
      dsimp only
      cases st xs[i] ρ with
      | none => rfl
      | some ρ1 =>
        dsimp only
        unfold loopR
        cases body ρ1 S with
        | next ρ2 S2 => exact ih (i + 1) ρ2 S2 (by omega)
        | cont ρ2 S2 => exact ih (i + 1) ρ2 S2 (by omega)
        | _ => rfl
  have := key xs.length 0 ρ S (by omega)
  rwa [List.drop_zero] at this
def lpR (st : D → Env' → Option Env') (body : Env' → Store → FR) (r : List D) (x : FR) : FR := match x with
  | .next ρ2 S2 => fors st body r ρ2 S2
  | .cont ρ2 S2 => fors st body r ρ2 S2
  | .brk ρ2 S2 => .next ρ2 S2
  | .ret w S2 => .ret w S2
  | .exc c ρ2 S2 => .exc c ρ2 S2
  | .bad => .bad
theorem lp_next {r : List D} : lpR st body r (.next ρ S) = fors st body r ρ S := (rfl)
theorem lp_cont {r : List D} : lpR st body r (.cont ρ S) = fors st body r ρ S := (rfl)
theorem lp_brk {r : List D} : lpR st body r (.brk ρ S) = .next ρ S := (rfl)
theorem lp_ret {r : List D} {w : W} : lpR st body r (.ret w S) = .ret w S := (rfl)
theorem lp_exc {r : List D} {c : Nat} : lpR st body r (.exc c ρ S) = .exc c ρ S := (rfl)
theorem fors_nil : fors st body [] ρ S = .next ρ S := (rfl)
theorem fors_cons {x : D} {r : List D} : fors st body (x :: r) ρ S = onO .bad (st x ρ) fun ρ1 => lpR st body r (body ρ1 S) := by
  rw [fors]
  cases st x ρ <;> rfl
/-- a comprehension over items -/
theorem comp_fm {α : Type} {F : D → Store → Res (Option D)} (xs : List α) (enc : α → D) (f : α → Option D) (h : ∀ x ∈ xs, ∀ acc, F (enc x) (S ++ [some (.lst acc)]) = .ok (f x) (S ++ [some (.lst acc)])) (hl : xs.length ≤ sizeLine) :
    compRes S.length (turnsL F S.length (xs.map enc, none) (xs.map enc).length 0 (S ++ [some (.lst [])])) = .ok (.t (.lst (xs.filterMap f))) S := by
  have key : ∀ (k i : Nat) (acc : List D), k + i = xs.length → acc.length ≤ i → turnsL F S.length (xs.map enc, none) k i (S ++ [some (.lst acc)]) = .ok () (S ++ [some (.lst (acc ++ (xs.drop i).filterMap f))]) := by
    intro k
    induction k with
    | zero => intro i acc h1 h2; rw [List.drop_of_length_le (by omega)]; simp [turnsL, itOk]
    | succ k ih =>
      intro i acc h1 h2
      have hi : i < xs.length := by omega
      rw [List.drop_eq_getElem_cons hi]
      simp only [turnsL]
      rw [show itAt (xs.map enc, none) (S ++ [some (.lst acc)]) i = some (enc xs[i]) by simp [itAt, hi]]
      simp only [h xs[i] (List.getElem_mem hi) acc]
      cases q : f xs[i] with
      | none =>
        simp only [List.filterMap_cons, q]
        exact ih (i + 1) acc (by omega) (by omega)
      | some d =>
        have e1 : get (S ++ [some (.lst acc)]) S.length = some (.lst acc) := by rw [get_app0]; rfl
        have e2 : (S ++ [some (Ob.lst acc)]).set S.length (some (.lst (acc ++ [d]))) = S ++ [some (.lst (acc ++ [d]))] := by rw [set_app0]; rfl
        simp only [e1, if_pos (show acc.length < sizeLine by omega), e2, List.filterMap_cons, q]
        rw [ih (i + 1) (acc ++ [d]) (by omega) (by simp; omega)]
        simp
  have := key (xs.map enc).length 0 [] (by simp) (by simp)
  rw [this]
  simp only [List.drop_zero, List.nil_append, compRes]
  rw [get_app0]
  simp [get_0]
theorem comp_map {α : Type} {F : D → Store → Res (Option D)} (xs : List α) (enc : α → D) (f : α → D) (h : ∀ x ∈ xs, ∀ acc, F (enc x) (S ++ [some (.lst acc)]) = .ok (some (f x)) (S ++ [some (.lst acc)])) (hl : xs.length ≤ sizeLine) :
    compRes S.length (turnsL F S.length (xs.map enc, none) (xs.map enc).length 0 (S ++ [some (.lst [])])) = .ok (.t (.lst (xs.map f))) S := by
  rw [comp_fm xs enc (fun x => some (f x)) h hl]
  simp
def t1C (T1 : Env' → Store → Res Bool) (el : Env' → Store → Res W) (S : Store) (o : Option Env') : Res (Option D) := onO .bad o fun ρ => match T1 ρ S with
    | .ok true S1 => match el ρ S1 with
      | .ok (.t d) S2 => .ok (some d) S2
      | _ => .bad
    | .ok false S1 => .ok none S1
    | _ => .bad
def elR (r : Res W) : Res (Option D) := match r with
  | .ok (.t d) S2 => .ok (some d) S2
  | _ => .bad
theorem elR_ok {d : D} : elR (.ok (.t d) S) = .ok (some d) S := (rfl)
def tsR (r : Res Bool) (k : Store → Res (Option D)) [_m : Mk k] : Res (Option D) := match r with
  | .ok true S1 => k S1
  | .ok false S1 => .ok none S1
  | _ => .bad
theorem tsR_b {b : Bool} {k : Store → Res (Option D)} : tsR (.ok b S) k = if b = true then k S else .ok none S := by cases b <;> rfl
theorem turn1_eq {st : D → Option Env'} {T1 : Env' → Store → Res Bool} {el : Env' → Store → Res W} {x : D} : turn1 st T1 el x S = onO .bad (st x) fun ρ => tsR (T1 ρ S) fun S1 => elR (el ρ S1) := by
  unfold turn1
  cases st x with
  | none => rfl
  | some ρ =>
    simp only [onO]
    cases T1 ρ S with
    | ok b S1 =>
      cases b with
      | true =>
        simp only [tsR]
        cases el ρ S1 with
        | ok w S2 => cases w <;> rfl
        | _ => rfl
      | false => rfl
    | _ => rfl
theorem tg_nm {i : Nat} {p : Pos} {d : D} : (Tg.nm i p).store d ρ = if i < ρ.length then some (ρ.set i (some (.t d))) else none := (rfl)
theorem tg_tp {is : List (Nat × Pos)} {k : Nat} {p : Pos} {ds : List D} : (Tg.tp is k p).store (.tup ds) ρ = if is.length = ds.length then Tg.store.go is ds ρ else none := (rfl)
theorem go_nil : Tg.store.go [] [] ρ = some ρ := (rfl)
theorem go_cons {i : Nat} {p : Pos} {r : List (Nat × Pos)} {d : D} {ds : List D} : Tg.store.go ((i, p) :: r) (d :: ds) ρ = if i < ρ.length then Tg.store.go r ds (ρ.set i (some (.t d))) else none := (rfl)
theorem unp_tup {ds : List D} : unpD false (.tup ds) = some ds := (rfl)
theorem unp_rt {ds : List D} : unpD false (.rt ds) = some ds := (rfl)
theorem unp_lst {ds : List D} : unpD true (.lst ds) = some ds := (rfl)
theorem unp_ro {ds : List D} : unpD true (.ro ds) = some ds := (rfl)
theorem tgu_tp {is : List (Nat × Pos)} {k : Nat} {p : Pos} {ds : List D} : (Tg.tp is k p).unp ds ρ = if is.length = ds.length then Tg.store.go is ds ρ else none := (rfl)
end
end Rf

/-! Pl, part C: loops and comprehensions by their text, objects that change, equality of data. -/
namespace Rf
open PySem PySem.Spec PyProof.Rows L2

section
variable {T : Nat → List W → Store → Res W} {g : Sig} {ρ : Env'} {S : Store}
/-! ### for -/
def fl (T : Nat → List W → Store → Res W) (g : Sig) (tg : Tg) (b : Ss) (xs : List D) (ρ : Env') (S : Store) : FR := fors (fun x ρ => tg.store x ρ) (fun ρ S => b.ev T g ρ S) xs ρ S
def flL (T : Nat → List W → Store → Res W) (g : Sig) (tg : Tg) (b : Ss) (it : Wk) (ρ : Env') (S : Store) : FR := forsL (fun x ρ => tg.store x ρ) (fun ρ S => b.ev T g ρ S) it it.1.length 0 ρ S
theorem st_for {tg src body p} : (St.forr tg src body p).ev T g ρ S = lx ρ (src.ev T g ρ S) fun items S1 => flL T g tg body items ρ S1 := (rfl)
theorem flL_t {tg b} {xs : List D} : flL T g tg b (xs, none) ρ S = fl T g tg b xs ρ S := forsL_t
def lpq (T : Nat → List W → Store → Res W) (g : Sig) (tg : Tg) (b : Ss) (r : List D) (x : FR) : FR := lpR (fun x ρ => tg.store x ρ) (fun ρ S => b.ev T g ρ S) r x
theorem lq_next {tg b} {r : List D} : lpq T g tg b r (.next ρ S) = fl T g tg b r ρ S := (rfl)
theorem lq_cont {tg b} {r : List D} : lpq T g tg b r (.cont ρ S) = fl T g tg b r ρ S := (rfl)
theorem lq_brk {tg b} {r : List D} : lpq T g tg b r (.brk ρ S) = .next ρ S := (rfl)
theorem lq_ret {tg b} {r : List D} {w : W} : lpq T g tg b r (.ret w S) = .ret w S := (rfl)
theorem lq_exc {tg b} {r : List D} {c : Nat} : lpq T g tg b r (.exc c ρ S) = .exc c ρ S := (rfl)
theorem fl_nil {tg b} : fl T g tg b [] ρ S = .next ρ S := (rfl)
theorem fl_cons {tg b} {x : D} {r : List D} : fl T g tg b (x :: r) ρ S = onO .bad (tg.store x ρ) fun ρ1 => lpq T g tg b r (b.ev T g ρ1 S) := by
  unfold fl lpq
  rw [fors_cons]
/-! ### while -/
def wl (T : Nat → List W → Store → Res W) (g : Sig) (n : Nat) (c : E) (b : Ss) (ρ : Env') (S : Store) : FR := whiles (fun ρ S => c.ev T g ρ S) (fun ρ S => b.ev T g ρ S) n ρ S
theorem st_wl {n c body p} : (St.whl n c body p).ev T g ρ S = wl T g n c body ρ S := (rfl)
theorem wl_done {n : Nat} {c b} {S1 : Store} (h : (c : E).ev T g ρ S = .ok (.t (.bl false)) S1) : wl T g (n + 1) c b ρ S = .next ρ S1 := by
  unfold wl whiles
  simp only [h]
theorem wl_next {n : Nat} {c b} {S1 S2 : Store} {ρ2 : Env'} (h : (c : E).ev T g ρ S = .ok (.t (.bl true)) S1) (hb : (b : Ss).ev T g ρ S1 = .next ρ2 S2) : wl T g (n + 1) c b ρ S = wl T g n c b ρ2 S2 := by
  unfold wl
  rw [whiles]
  simp only [h, hb]
/-! ### comprehensions -/
def ct (T : Nat → List W → Store → Res W) (g : Sig) (elt : E) (tg : Tg) (ifs : Es) (ρw : Env') (x : D) (S : Store) : Res (Option D) := turn1 (fun x => tg.store x ρw) (fun ρ2 S2 => ifs.all T g ρ2 S2) (fun ρ2 S2 => elt.ev T g ρ2 S2) x S
def cq (T : Nat → List W → Store → Res W) (g : Sig) (elt : E) (tg : Tg) (ifs : Es) (ρw : Env') (items : Wk) (S : Store) : Res W := compRes S.length (turnsL (ct T g elt tg ifs ρw) S.length items items.1.length 0 (S ++ [some (.lst [])]))
theorem ev_cmpr {elt tg src ifs sc own p} : (E.comp elt tg src ifs sc own p).ev T g ρ S = bx (src.ev T g ρ S) fun items S1 => cq T g elt tg ifs (wipeO ρ own) items S1 := (rfl)
theorem ct_eq {elt tg ifs} {x : D} : ct T g elt tg ifs ρ x S = onO .bad (tg.store x ρ) fun ρ1 => tsR (ifs.all T g ρ1 S) fun S1 => elR (elt.ev T g ρ1 S1) := by
  unfold ct
  rw [turn1_eq]
theorem wipe_nil : wipeE ρ [] = ρ := (rfl)
theorem wipe_cons {v : Nat} {vs : List Nat} : wipeE ρ (v :: vs) = (wipeE ρ vs).set v none := (rfl)
theorem cq_map {α : Type} {elt tg ifs} (xs : List α) (enc f : α → D) (h : ∀ x ∈ xs, ∀ acc, ct T g elt tg ifs ρ (enc x) (S ++ [some (.lst acc)]) = .ok (some (f x)) (S ++ [some (.lst acc)])) (hl : xs.length ≤ sizeLine) :
    cq T g elt tg ifs ρ (xs.map enc, none) S = .ok (.t (.lst (xs.map f))) S := comp_map xs enc f h hl
theorem cq_fm {α : Type} {elt tg ifs} (xs : List α) (enc : α → D) (f : α → Option D) (h : ∀ x ∈ xs, ∀ acc, ct T g elt tg ifs ρ (enc x) (S ++ [some (.lst acc)]) = .ok (f x) (S ++ [some (.lst acc)])) (hl : xs.length ≤ sizeLine) :
    cq T g elt tg ifs ρ (xs.map enc, none) S = .ok (.t (.lst (xs.filterMap f))) S := comp_fm xs enc f h hl
/-- over a list that lies at a location -/
theorem cq_fmL {α : Type} {elt tg ifs} {n : Nat} (xs : List α) (enc : α → D) (f : α → Option D) (hg : get S n = some (.lst (xs.map enc))) (h : ∀ x ∈ xs, ∀ acc, ct T g elt tg ifs ρ (enc x) (S ++ [some (.lst acc)]) = .ok (f x) (S ++ [some (.lst acc)])) (hl : xs.length ≤ sizeLine) :
    cq T g elt tg ifs ρ (xs.map enc, some n) S = .ok (.t (.lst (xs.filterMap f))) S := by
  have hn : n < S.length := by
    unfold get at hg
    by_cases q : n < S.length
    · exact q
    · rw [List.getElem?_eq_none (by omega)] at hg; cases hg
  have hga : ∀ acc, get (S ++ [some (.lst acc)]) n = some (.lst (xs.map enc)) := fun acc => by
    unfold get at hg ⊢
    rw [List.getElem?_append_left hn]; exact hg
  have key : ∀ (k i : Nat) (acc : List D), k + i = xs.length → acc.length ≤ i → turnsL (ct T g elt tg ifs ρ) S.length (xs.map enc, some n) k i (S ++ [some (.lst acc)]) = .ok () (S ++ [some (.lst (acc ++ (xs.drop i).filterMap f))]) := by
    intro k
    induction k with
    | zero => intro i acc h1 h2; rw [List.drop_of_length_le (by omega)]; simp [turnsL, itOk, hga]
    | succ k ih =>
      intro i acc h1 h2
      have hi : i < xs.length := by omega
      rw [List.drop_eq_getElem_cons hi]
      simp only [turnsL]
      rw [show itAt (xs.map enc, some n) (S ++ [some (.lst acc)]) i = some (enc xs[i]) by simp [itAt, hga, hi]]
      simp only [h xs[i] (List.getElem_mem hi) acc]
      cases q : f xs[i] with
      | none =>
        simp only [List.filterMap_cons, q]
        exact ih (i + 1) acc (by omega) (by omega)
      | some d =>
        have e1 : get (S ++ [some (.lst acc)]) S.length = some (.lst acc) := by rw [get_app0]; rfl
        have e2 : (S ++ [some (Ob.lst acc)]).set S.length (some (.lst (acc ++ [d]))) = S ++ [some (.lst (acc ++ [d]))] := by rw [set_app0]; rfl
        simp only [e1, if_pos (show acc.length < sizeLine by omega), e2, List.filterMap_cons, q]
        rw [ih (i + 1) (acc ++ [d]) (by omega) (by simp; omega)]
        simp
  have := key (xs.map enc).length 0 [] (by simp) (by simp)
  unfold cq
  rw [this]
  simp only [List.drop_zero, List.nil_append, compRes]
  rw [get_app0]
  simp [get_0]
theorem cq_mapL {α : Type} {elt tg ifs} {n : Nat} (xs : List α) (enc f : α → D) (hg : get S n = some (.lst (xs.map enc))) (h : ∀ x ∈ xs, ∀ acc, ct T g elt tg ifs ρ (enc x) (S ++ [some (.lst acc)]) = .ok (some (f x)) (S ++ [some (.lst acc)])) (hl : xs.length ≤ sizeLine) :
    cq T g elt tg ifs ρ (xs.map enc, some n) S = .ok (.t (.lst (xs.map f))) S := by
  rw [cq_fmL xs enc (fun x => some (f x)) hg h hl]
  simp
def seqO (n : Nat) (S : Store) (o : Ob) : Res Wk := match o with | .lst xs => .ok (xs, some n) S | _ => .bad
theorem seqO_l {n : Nat} {xs : List D} : seqO n S (.lst xs) = .ok (xs, some n) S := (rfl)
theorem seqW_loc {n : Nat} : seqW (.loc n) S = onO .bad (get S n) (seqO n S) := by
  show (match get S n with | some (.lst xs) => Res.ok (xs, some n) S | _ => .bad) = _
  cases get S n with
  | none => rfl
  | some o => cases o <;> rfl
/-! ### fields -/
def fldR (g : Sig) (f : Nat) (S : Store) (o : Option D) : Res W := match o with | some (.ins c fs) => if g.na.contains (c, f) then ok? S (fs.lookup f) else .bad | _ => .bad
theorem ev_fld2 {o f p} : (E.fld o f p).ev T g ρ S = bx (o.ev T g ρ S) fun x S1 => fldR g f S1 (rd S1 x) := (rfl)
theorem fldR_ins {f c : Nat} {fs : List (Nat × D)} : fldR g f S (some (.ins c fs)) = if g.na.contains (c, f) = true then ok? S (fs.lookup f) else .bad := (rfl)
theorem lku_hit {α : Type} {f : Nat} {d : α} {r : List (Nat × α)} : List.lookup f ((f, d) :: r) = some d := by simp
theorem lku_miss {α : Type} {f k : Nat} {d : α} {r : List (Nat × α)} (h : f ≠ k) : List.lookup f ((k, d) :: r) = List.lookup f r := by
  rw [List.lookup_cons]
  have : (f == k) = false := by simp [h]
  rw [this]
theorem put_nil {f : Nat} {v : D} : putFD f v [] = [(f, v)] := (rfl)
theorem put_hit {f : Nat} {v w : D} {r : List (Nat × D)} : putFD f v ((f, w) :: r) = (f, v) :: r := by simp [putFD]
theorem put_miss {f k : Nat} {v w : D} {r : List (Nat × D)} (h : f ≠ k) : putFD f v ((k, w) :: r) = (k, w) :: putFD f v r := by simp [putFD, Ne.symm h]
theorem sflR_l {f n : Nat} {d : D} : sflR g ρ S f (.loc n) (.t d) = match get S n with
      | some (.ins c fs) => if g.na.contains (c, f) && decide (fs.length < 1000) then .next ρ (S.set n (some (.ins c (putFD f d fs)))) else .bad
      | _ => .bad := (rfl)
theorem sflR_0 {f c : Nat} {d : D} {fs : List (Nat × D)} (h1 : g.na.contains (c, f) = true) (h2 : fs.length < 1000) : sflR g ρ (S ++ [some (.ins c fs)]) f (.loc S.length) (.t d) = .next ρ (S ++ [some (.ins c (putFD f d fs))]) := by
  rw [sflR_l, get_app0, get_0]
  simp only [h1, h2, decide_true, Bool.and_self, if_true]
  rw [set_app0]; rfl
/-! ### new objects of a class -/
theorem mkEnd_ok {c : Nat} {fs : List (Nat × D)} : mkEnd c S.length (.ok (.t .non) (S ++ [some (.ins c fs)])) = .ok (.t (.ins c fs)) S := by
  unfold mkEnd
  simp only
  rw [if_neg (by simp), get_app0, get_0]
  simp
theorem mkEnd_exc {c k : Nat} {L : Store} : mkEnd c S.length (.exc k (S ++ L)) = .exc k S := by
  unfold mkEnd
  simp
theorem take_le {n : Nat} (h : S.length ≤ n) : S.take n = S := List.take_of_length_le h
theorem rep0 {α : Type} {x : α} : List.replicate 0 x = [] := (rfl)
/-! ### try -/
variable {hit : Nat → Option Bool} {n y : Nat}
theorem tri_next : triR hit n y (.next ρ S) = .next ρ S := (rfl)
theorem tri_ret {w : W} : triR hit n y (.ret w S) = .ret w S := (rfl)
theorem tri_brk : triR hit n y (.brk ρ S) = .brk ρ S := (rfl)
theorem tri_cont : triR hit n y (.cont ρ S) = .cont ρ S := (rfl)
theorem tri_exc {c : Nat} (h : hit c = some true) (h1 : n < ρ.length) (h2 : y < ρ.length) (h3 : n ≠ y) : triR hit n y (.exc c ρ S) = .next ((ρ.set y (some (.t (.exc c)))).set n none) S := by
  unfold triR
  simp only [h, h1, h2, h3, true_and, ne_eq, not_false_eq_true, if_true]
/-! ### what lies at a location -/
def frzR (i : Nat) (ρ : Env') (S : Store) (f : Env' → Store → FR) (o : Option W) [_m : Mk f] : FR := match o with
  | some (.loc n) => onO .bad (get S n) fun o => f (ρ.set i (some (.t o.tree))) (S.set n none)
  | some (.t _) => f ρ S
  | none => .bad
theorem frzE_eq {i : Nat} {f : Env' → Store → FR} : frzE i ρ S f = frzR i ρ S f (lk ρ i) := by
  unfold frzE frzR lk
  cases (ρ[i]?).getD none with
  | none => rfl
  | some w =>
    cases w with
    | t d => rfl
    | loc n => dsimp only; cases get S n <;> rfl
def stE (ρ : Env') (i : Nat) (w : Option W) : Env' := ρ.set i w
theorem stE_0 {x w : Option W} {r : Env'} : stE (x :: r) 0 w = w :: r := (rfl)
theorem stE_S {x w : Option W} {r : Env'} {n : Nat} : stE (x :: r) (n + 1) w = x :: stE r n w := (rfl)
theorem frzR_l {i n : Nat} {f : Env' → Store → FR} : frzR i ρ S f (some (.loc n)) = onO .bad (get S n) fun o => f (stE ρ i (some (.t o.tree))) (S.set n none) := (rfl)
theorem frzR_t {i : Nat} {d : D} {f : Env' → Store → FR} : frzR i ρ S f (some (.t d)) = f ρ S := (rfl)
theorem mutR_l {m : Mu} {n : Nat} {ws : List W} {f : D → Store → FR} : mutR m (.loc n) ws S f = onO .bad (get S n) fun o => onO .bad (mArgs m S ws) fun ds => onO .bad (mutO m o ds) fun q => f q.1 (S.set n (some q.2)) := by
  unfold mutR
  dsimp only
  cases get S n with
  | none => rfl
  | some o =>
    simp only [onO]
    cases mArgs m S ws with
    | none => rfl
    | some ds =>
      dsimp only
      cases mutO m o ds with
      | none => rfl
      | some q => cases q; rfl
theorem isLst_l {n : Nat} : isLst S (.loc n) = match get S n with | some (.lst _) => true | _ => false := (rfl)
theorem ma_app {ws : List W} : mArgs .append S ws = asTs ws := (rfl)
theorem ma_pop {ws : List W} : mArgs .pop S ws = asTs ws := (rfl)
theorem ma_ins {ws : List W} : mArgs .insert S ws = asTs ws := (rfl)
theorem ma_rev {ws : List W} : mArgs .reverse S ws = asTs ws := (rfl)
theorem ma_ext {ws : List W} : mArgs .extend S ws = rds S ws := (rfl)
theorem mu_app {ds : List D} {d : D} {m : Nat} [Ln ds m] (h : Nat.ble (m + 1) 16777216 = true) : mutO .append (.lst ds) [d] = some (.non, .lst (ds ++ [d])) := by
  show (if _ then _ else _) = _
  rw [if_pos (show ds.length < sizeLine from Nat.le_trans (Nat.succ_le_succ Ln.h) (sl_le h))]
theorem mu_ext {ds zs : List D} {m n : Nat} [Ln ds m] [Ln zs n] (h : Nat.ble (m + n) 16777216 = true) : mutO .extend (.lst ds) [.lst zs] = some (.non, .lst (ds ++ zs)) := by
  show (if _ then _ else _) = _
  rw [if_pos (Nat.le_trans (Nat.add_le_add Ln.h Ln.h) (sl_le h))]
theorem mu_pop {ds : List D} {d : D} : mutO .pop (.lst (ds ++ [d])) [] = some (d, .lst ds) := by
  show Option.map _ ((ds ++ [d])[(ds ++ [d]).length - 1]?) = _
  simp
theorem mu_ins {ds : List D} {d : D} {i : Int} {m : Nat} [Ln ds m] (h : Nat.ble (m + 1) 16777216 = true) (h1 : 0 ≤ i) (h2 : i < 2 ^ 63) : mutO .insert (.lst ds) [.int i, d] = some (.non, .lst (ds.take i.toNat ++ [d] ++ ds.drop i.toNat)) := by
  show (if _ then _ else _) = _
  rw [if_pos (⟨Nat.le_trans (Nat.succ_le_succ Ln.h) (sl_le h), h1, h2⟩ : ds.length < sizeLine ∧ 0 ≤ i ∧ i < 2 ^ 63)]
theorem mu_rev {ds : List D} : mutO .reverse (.lst ds) [] = some (.non, .lst ds.reverse) := (rfl)
theorem istR_l {n : Nat} {k d : D} : istR ρ S (.loc n) (.t k) (.t d) = onO .bad (get S n) fun ob => onO .bad (istO ob k d) fun ob' => .next ρ (S.set n (some ob')) := by
  show (match get S n with | some ob => (match istO ob k d with | some ob' => FR.next ρ (S.set n (some ob')) | none => .bad) | none => .bad) = _
  cases get S n with
  | none => rfl
  | some o =>
    simp only [onO]
    cases istO o k d <;> rfl
end
/-! ### methods -/
section
variable {S : Store} {a b : Str}
theorem mty_s : mTy S (.t (.str a)) = some true := (rfl)
theorem mty_l {xs : List D} : mTy S (.t (.lst xs)) = some false := (rfl)
theorem mty_ro {xs : List D} : mTy S (.t (.ro xs)) = some false := (rfl)
theorem xm_strip {m : Nat} [Ls a m] (h : Nat.ble m 16777216 = true) : mt .strip (.str a) [.str b] = some (.str (Txt.stripChars a b)) := by
  show (if _ then _ else _) = _
  rw [if_pos (Nat.le_trans Ls.h (sl_le h))]
theorem xm_sw : mt .startswith (.str a) [.str b] = some (.bl (Txt.startswith a b)) := (rfl)
theorem xm_ew : mt .endswith (.str a) [.str b] = some (.bl (Txt.endswith a b)) := (rfl)
theorem xm_join {xs : List D} {ys : List Str} (h : strs? xs = some ys) (k : joinLen a ys ≤ 16777216) : mt .join (.str a) [.lst xs] = some (.str (Txt.join a ys)) := by
  show (match strs? xs with | some ys => (if joinLen a ys ≤ 16777216 then some (D.str (Txt.join a ys)) else none) | none => none) = _
  rw [h]
  show (if _ then _ else _) = _
  rw [if_pos k]
theorem scs_strs {ds : List D} {ys : List Str} (h : strs? ds = some ys) : scs ds = some (ys.map V.str) := by
  induction ds generalizing ys with
  | nil => simp [strs?] at h; subst h; rfl
  | cons d ds ih =>
    cases d with
    | str s =>
      simp only [strs?] at h
      cases q : strs? ds with
      | none => rw [q] at h; cases h
      | some zs =>
        rw [q] at h; cases h
        simp only [scs, D.sc, ih q, List.map_cons]
    | _ => simp [strs?] at h
theorem xm_countL {xs : List D} {ys : List Str} (h : strs? xs = some ys) : mt .count (.lst xs) [.str a] = some (.int (ys.count a)) := by
  show (match scs xs, (D.str a).sc with | some vs, some v => some (D.int (vs.countP fun z => eqV z v : Nat)) | _, _ => none) = _
  rw [scs_strs h]
  simp only [D.sc]
  congr 2
  rw [List.countP_map, List.count_eq_countP]
  congr 1
end
/-! ### equality of data -/
theorem xm_countS {a : Str} {xs : List D} (h : (Rf.strs? xs).isSome = true) : mt .count (.lst xs) [.str a] = (Rf.strs? xs).map fun ys => .int (ys.count a) := by
  cases q : Rf.strs? xs with
  | none => rw [q] at h; cases h
  | some ys => rw [xm_countL q]; rfl
def clnd : Nat → D → Bool
  | _, .non => true
  | _, .int _ => true
  | _, .str _ => true
  | n + 1, .lst xs => xs.all (clnd n)
  | n + 1, .tup xs => xs.all (clnd n)
  | _, _ => false
theorem eqv_all : ∀ (n : Nat) (xs ys : List D), (∀ a b, clnd n a = true → clnd n b = true → ∃ p q, a.py? = some p ∧ b.py? = some q ∧ p.depth ≤ n ∧ (PyData.eqv p q = true ↔ a = b)) →
    xs.all (clnd n) = true → ys.all (clnd n) = true → ∃ ps qs, pys? xs = some ps ∧ pys? ys = some qs ∧ PyData.depthAll ps ≤ n ∧ (PyData.eqvAll ps qs = true ↔ xs = ys)
  | n, [], [], _, _, _ => ⟨[], [], rfl, rfl, by simp [PyData.depthAll], by simp [PyData.eqvAll]⟩
  | n, [], y :: ys, h, _, h2 => by
    simp only [List.all_cons, Bool.and_eq_true] at h2
    obtain ⟨p, q, e1, e2, _⟩ := h y y h2.1 h2.1
    obtain ⟨ps, qs, e3, e4, _⟩ := eqv_all n [] ys h rfl h2.2
    exact ⟨[], q :: qs, rfl, by simp only [pys?, e2, e4], by simp [PyData.depthAll], by simp [PyData.eqvAll]⟩
  | n, x :: xs, [], h, h1, _ => by
    simp only [List.all_cons, Bool.and_eq_true] at h1
    obtain ⟨p, q, e1, e2, hd, _⟩ := h x x h1.1 h1.1
    obtain ⟨ps, qs, e3, e4, hd2, _⟩ := eqv_all n xs [] h h1.2 rfl
    exact ⟨p :: ps, [], by simp only [pys?, e1, e3], rfl, by simp only [PyData.depthAll]; omega, by simp [PyData.eqvAll]⟩
  | n, x :: xs, y :: ys, h, h1, h2 => by
    simp only [List.all_cons, Bool.and_eq_true] at h1 h2
    obtain ⟨p, q, e1, e2, hd, k⟩ := h x y h1.1 h2.1
    obtain ⟨ps, qs, e3, e4, hd2, k2⟩ := eqv_all n xs ys h h1.2 h2.2
    refine ⟨p :: ps, q :: qs, by simp only [pys?, e1, e3], by simp only [pys?, e2, e4], by simp only [PyData.depthAll]; omega, ?_⟩
    simp only [PyData.eqvAll, Bool.and_eq_true, k, k2, List.cons.injEq]
theorem all_py (n : Nat) (h : ∀ a, clnd n a = true → ∃ p, a.py? = some p ∧ p.depth ≤ n) : ∀ xs : List D, xs.all (clnd n) = true → ∃ ps, pys? xs = some ps ∧ PyData.depthAll ps ≤ n
  | [], _ => ⟨[], rfl, by simp [PyData.depthAll]⟩
  | x :: xs, h1 => by
    simp only [List.all_cons, Bool.and_eq_true] at h1
    obtain ⟨p, e1, hd⟩ := h x h1.1
    obtain ⟨ps, e2, hd2⟩ := all_py n h xs h1.2
    exact ⟨p :: ps, by simp only [pys?, e1, e2], by simp only [PyData.depthAll]; omega⟩
theorem ex_py (n : Nat) : ∀ (b : D), clnd n b = true → ∃ q, b.py? = some q ∧ q.depth ≤ n := by
  induction n with
  | zero => intro b h; cases b <;> first | (exfalso; simp [clnd] at h; done) | exact ⟨_, rfl, by simp [PyData.depth]⟩
  | succ n ih =>
    intro b h
    cases b with
    | lst xs =>
      obtain ⟨ps, e, hd⟩ := all_py n ih xs h
      exact ⟨.list ps, by simp only [D.py?, e], by simp only [PyData.depth]; omega⟩
    | tup xs =>
      obtain ⟨ps, e, hd⟩ := all_py n ih xs h
      exact ⟨.tuple ps, by simp only [D.py?, e], by simp only [PyData.depth]; omega⟩
    | _ => first | (exfalso; simp [clnd] at h; done) | exact ⟨_, rfl, by simp [PyData.depth]⟩
theorem eqv_py (n : Nat) : ∀ (a b : D), clnd n a = true → clnd n b = true → ∃ p q, a.py? = some p ∧ b.py? = some q ∧ p.depth ≤ n ∧ (PyData.eqv p q = true ↔ a = b) := by
  induction n with
  | zero =>
    intro a b h1 h2
    cases a <;> cases b <;> first | (exfalso; simp [clnd] at h1; done) | (exfalso; simp [clnd] at h2; done) | exact ⟨_, _, rfl, rfl, by simp [PyData.depth], by simp [PyData.eqv]⟩
  | succ n ih =>
    intro a b h1 h2
    obtain ⟨pa, ea, da⟩ := ex_py (n + 1) a h1
    obtain ⟨pb, eb, db⟩ := ex_py (n + 1) b h2
    cases a with
    | lst xs =>
      cases b with
      | lst ys =>
        obtain ⟨ps, qs, e1, e2, hd, k⟩ := eqv_all n xs ys ih h1 h2
        exact ⟨.list ps, .list qs, by simp only [D.py?, e1], by simp only [D.py?, e2], by simp only [PyData.depth]; omega, by simp only [PyData.eqv, k, D.lst.injEq]⟩
      | _ =>
        refine ⟨pa, pb, ea, eb, da, ?_⟩
        simp only [D.py?] at ea eb
        split at ea <;> first | (exfalso; simp [clnd] at h2; done) | (cases ea; (try split at eb); all_goals first | (cases eb; simp [PyData.eqv]) | (simp at eb))
    | tup xs =>
      cases b with
      | tup ys =>
        obtain ⟨ps, qs, e1, e2, hd, k⟩ := eqv_all n xs ys ih h1 h2
        exact ⟨.tuple ps, .tuple qs, by simp only [D.py?, e1], by simp only [D.py?, e2], by simp only [PyData.depth]; omega, by simp only [PyData.eqv, k, D.tup.injEq]⟩
      | _ =>
        refine ⟨pa, pb, ea, eb, da, ?_⟩
        simp only [D.py?] at ea eb
        split at ea <;> first | (exfalso; simp [clnd] at h2; done) | (cases ea; (try split at eb); all_goals first | (cases eb; simp [PyData.eqv]) | (simp at eb))
    | _ =>
      first
      | (exfalso; simp [clnd] at h1; done)
      | (refine ⟨pa, pb, ea, eb, da, ?_⟩
         cases ea
         cases b with
         | lst ys => (simp only [D.py?] at eb; split at eb <;> (cases eb; try simp [PyData.eqv]))
         | tup ys => (simp only [D.py?] at eb; split at eb <;> (cases eb; try simp [PyData.eqv]))
         | _ => first | (exfalso; simp [clnd] at h2; done) | (cases eb; simp [PyData.eqv]))
open Classical in
/-- == of data without truth values, dicts, objects -/
theorem eqv_cln (n : Nat) {a b : D} (h1 : clnd n a = true) (h2 : clnd n b = true) (h0 : a.sc = none) (hn : n ≤ 64) : eqv2 a b = some (decide (a = b)) := by
  obtain ⟨p, q, e1, e2, hd, k⟩ := eqv_py n a b h1 h2
  have e0 : eqv2 a b = eqv1 a b := by
    unfold eqv2
    split
    · simp [clnd] at h1
    · rfl
  rw [e0]
  unfold eqv1
  rw [h0]
  simp only [e1, e2]
  rw [if_pos (by omega)]
  congr 1
  by_cases z : a = b
  · rw [k.mpr z]; simp [z]
  · rw [decide_eq_false z]
    cases r : PyData.eqv p q with
    | false => rfl
    | true => exact absurd (k.mp r) z
theorem cln_strs {n : Nat} {xs : List Str} : (xs.map D.str).all (clnd n) = true := by
  rw [List.all_map, List.all_eq_true]
  intro x _
  cases n <;> rfl
theorem eqv_strs0 {xs : List Str} : eqv2 (.lst (xs.map .str)) (.lst []) = some (decide (xs = [])) := by
  rw [eqv_cln 1 (show clnd 1 (.lst (xs.map .str)) = true from cln_strs (n := 0)) (show clnd 1 (.lst []) = true from rfl) rfl (by omega)]
  congr 1
  rw [decide_eq_decide]
  simp
/-- two lists of texts -/
theorem eqv_strs {xs ys : List Str} : eqv2 (.lst (xs.map .str)) (.lst (ys.map .str)) = some (decide (xs = ys)) := by
  rw [eqv_cln 1 (show clnd 1 (.lst (xs.map .str)) = true from cln_strs (n := 0)) (show clnd 1 (.lst (ys.map .str)) = true from cln_strs (n := 0)) rfl (by omega)]
  congr 1
  rw [decide_eq_decide]
  constructor
  · intro h
    simp only [D.lst.injEq] at h
    exact (List.map_inj_right (fun a b h => by simpa using h)).mp h
  · rintro rfl; rfl
end Rf

/-! Pl, part T: choices; texts. -/
namespace Rf
open PySem PySem.Spec PyProof.Rows L2
section
variable {S S' : Store} {ρ : Env'} {b : Bool} {c : Prop} [Decidable c]
theorem m_and {p : Bool} : (if c then Res.ok (W.t (.bl p)) S else .ok (.t (.bl false)) S) = .ok (.t (.bl (decide c && p))) S := by split <;> simp [*]
theorem m_or {p : Bool} : (if c then Res.ok (W.t (.bl true)) S else .ok (.t (.bl p)) S) = .ok (.t (.bl (decide c || p))) S := by split <;> simp [*]
theorem m_not : (if c then Res.ok (W.t (.bl false)) S else .ok (.t (.bl true)) S) = .ok (.t (.bl (!decide c))) S := by split <;> simp [*]
theorem m_id : (if c then Res.ok (W.t (.bl true)) S else .ok (.t (.bl false)) S) = .ok (.t (.bl (decide c))) S := by split <;> simp [*]
theorem sq_ret_if {w : W} {r : FR} {f : Env' → Store → FR} : sq (if c then .ret w S else r) f = if c then .ret w S else sq r f := by split <;> rfl
theorem sq_exc_if {k : Nat} {r : FR} {f : Env' → Store → FR} : sq (if c then .exc k ρ S else r) f = if c then .exc k ρ S else sq r f := by split <;> rfl
theorem sq_if {a r : FR} {f : Env' → Store → FR} : sq (if c then a else r) f = if c then sq a f else sq r f := by split <;> rfl
theorem end_if {n : Nat} {a r : FR} : endF n (if c then a else r) = if c then endF n a else endF n r := by split <;> rfl
theorem lift_if {α : Type} {a r : Res α} {f : α → Store → FR} : lx ρ (if c then a else r) f = if c then lift ρ a f else lift ρ r f := by split <;> rfl
theorem bnd_if {α β : Type} {a r : Res α} {f : α → Store → Res β} : bx (if c then a else r) f = if c then bnd a f else bnd r f := by split <;> rfl
theorem tri_if {hit : Nat → Option Bool} {n y : Nat} {a r : FR} : triR hit n y (if c then a else r) = if c then triR hit n y a else triR hit n y r := by split <;> rfl
theorem lq_ret_if {T g tg bd} {r : List D} {w : W} {x : FR} : lpq T g tg bd r (if c then .ret w S else x) = if c then .ret w S else lpq T g tg bd r x := by split <;> rfl
theorem lq_if {T g tg bd} {r : List D} {x y : FR} : lpq T g tg bd r (if c then x else y) = if c then lpq T g tg bd r x else lpq T g tg bd r y := by split <;> rfl
theorem mk_if {k n : Nat} {a r : Res W} : mkEnd k n (if c then a else r) = if c then mkEnd k n a else mkEnd k n r := by split <;> rfl
end

/-! ### texts -/
theorem getD_mem {x : Str} {k : Nat} (h : k < x.length) : x.cps.getD k 0 ∈ x.cps.toList := by
  have h' : k < x.cps.size := h
  simp [Array.getD, h']
theorem mem_getD {x : Str} {c : Nat} (h : c ∈ x.cps.toList) : ∃ k, k < x.length ∧ x.cps.getD k 0 = c := by
  obtain ⟨k, hk, e⟩ := List.getElem_of_mem h
  have h' : k < x.cps.size := by simpa using hk
  refine ⟨k, h', ?_⟩
  rw [← e]
  simp [Array.getD, h']
/-- nothing is left when a text's ends are stripped of the signs of s: every sign of it is one of s -/
theorem strip_nil (x s : Str) : Txt.stripChars x s = Str.empty ↔ ∀ c ∈ x.cps.toList, s.cps.contains c = true := by
  unfold Txt.stripChars
  rw [stripBy_eq]
  obtain ⟨l1, l2, l3⟩ := lo_facts s.cps.contains x
  obtain ⟨h1, h2, h3, h4⟩ := hi_facts s.cps.contains x (stripLo s.cps.contains true x) l1
  generalize stripLo s.cps.contains true x = lo at *
  generalize stripHi s.cps.contains true x lo = hi at *
  have hl : (Builtin.Str.strSub x lo hi).length = hi - lo := by
    show (Builtin.Str.strSub x lo hi).cps.size = hi - lo
    unfold Builtin.Str.strSub
    have : hi ≤ x.cps.size := h2
    simp
    omega
  constructor
  · intro e c hc
    rw [e] at hl
    have hl : 0 = hi - lo := hl
    obtain ⟨k, hk, rfl⟩ := mem_getD hc
    by_cases q : k < lo
    · exact l2 k q
    · exact h3 k (by omega) hk
  · intro h
    have all : ∀ k, k < x.length → s.cps.contains (x.cps.getD k 0) = true := fun k hk => h _ (getD_mem hk)
    have e : lo = x.length := by
      rcases l3 with q | q
      · exact q
      · by_cases z : lo < x.length
        · rw [all lo z] at q; cases q
        · omega
    have hz : (Builtin.Str.strSub x lo hi).length = 0 := by rw [hl]; omega
    have : (Builtin.Str.strSub x lo hi).cps = #[] := Array.eq_empty_of_size_eq_zero hz
    show Builtin.Str.strSub x lo hi = ⟨#[]⟩
    generalize Builtin.Str.strSub x lo hi = z at this
    obtain ⟨z⟩ := z
    subst this
    rfl
/-- a text of its signs -/
abbrev ch (c : Nat) : Str := ⟨#[c]⟩
theorem strIn_ch {c : Nat} {y : Str} : strIn ⟨#[c]⟩ y = y.cps.toList.contains c := by
  have := SX.in_one y.cps.toList c
  unfold strIn
  have e : (SX.S y.cps.toList) = y := by cases y; rfl
  rw [e] at this
  have e2 : (SX.S [c]) = ⟨#[c]⟩ := (rfl)
  rw [e2] at this
  rw [this, List.contains_eq_mem]
def SMALL : Str := "abcdefghijklmnopqrstuvwxyz"
def isWord (x : Str) : Bool := decide ((2 : Int) ≤ x.length) && decide ((x.length : Int) ≤ 10) && x.cps.toList.all fun c => SMALL.cps.toList.contains c
theorem strip_small {x : Str} : (Txt.stripChars x "abcdefghijklmnopqrstuvwxyz" = ("" : Str)) = (x.cps.toList.all (fun c => SMALL.cps.toList.contains c) = true) := by
  have e : ("" : Str) = Str.empty := by decide +kernel
  rw [e, strip_nil, List.all_eq_true]
  have : ∀ c, (Str.ofString "abcdefghijklmnopqrstuvwxyz").cps.contains c = SMALL.cps.toList.contains c := fun c => by
    unfold SMALL; simp
  simp only [this]
theorem cast_le {a b : Nat} : ((a : Int) ≤ (b : Int)) = (a ≤ b) := by simp
end Rf

/-! Pl, part U: picked items, slices, texts by their signs. -/
namespace Rf
open PySem PySem.Spec PyProof.Rows L2
/-! ### picked by a rest -/
@[irreducible] def pick {α : Type} (z : α) (l : List α) (i : Int) : α := l.getD i.toNat z
theorem pick_mem {α : Type} {z : α} {l : List α} {i : Int} (h0 : 0 ≤ i) (h1 : i < l.length) : pick z l i ∈ l := by
  unfold pick
  have : i.toNat < l.length := by omega
  rw [List.getD_eq_getElem?_getD, List.getElem?_eq_getElem this]
  exact List.getElem_mem this
theorem pick_nat {α : Type} {z : α} {l : List α} {n : Nat} (h1 : n < l.length) : pick z l (n : Int) = l[n] := by
  unfold pick
  rw [List.getD_eq_getElem?_getD]
  simp [h1]
theorem atI_pick {α : Type} (z : α) {l : List α} {i : Int} (h0 : 0 ≤ i) (h1 : i < l.length) : atI l i = some (pick z l i) := by
  unfold atI ixN pick
  have : i.toNat < l.length := by omega
  rw [if_pos h0, if_pos h1]
  simp [List.getD_eq_getElem?_getD, this]
theorem ix_nil : ints? [] = some [] := (rfl)
theorem ix_cons {i : Int} {ds : List D} : ints? (.int i :: ds) = (ints? ds).map (i :: ·) := by
  simp only [ints?]
  cases ints? ds <;> rfl
theorem ix_map {zs : List Int} : ints? (zs.map .int) = some zs := by
  induction zs with
  | nil => rfl
  | cons z zs ih => rw [List.map_cons, ix_cons, ih]; rfl
theorem ints_eq : ∀ {ds : List D} {zs : List Int}, ints? ds = some zs → ds = zs.map .int
  | [], zs, h => by simp [ints?] at h; subst h; rfl
  | d :: ds, zs, h => by
    cases d with
    | int i =>
      rw [ix_cons] at h
      cases q : ints? ds with
      | none => rw [q] at h; cases h
      | some ys => rw [q] at h; cases h; rw [ints_eq q]; rfl
    | _ => simp [ints?] at h
theorem strs_eq : ∀ {ds : List D} {zs : List Str}, Rf.strs? ds = some zs → ds = zs.map .str
  | [], zs, h => by simp [Rf.strs?] at h; subst h; rfl
  | d :: ds, zs, h => by
    cases d with
    | str i =>
      rw [sx_cons] at h
      cases q : Rf.strs? ds with
      | none => rw [q] at h; cases h
      | some ys => rw [q] at h; cases h; rw [strs_eq q]; rfl
    | _ => simp [Rf.strs?] at h
theorem mod_rng {m : Int} {k : Nat} (hk : 0 < k) : 0 ≤ m % (k : Int) ∧ m % (k : Int) < k := ⟨Int.emod_nonneg _ (by omega), Int.emod_lt_of_pos _ (by omega)⟩
theorem atI_modI {l : List D} {m : Int} {k : Nat} (h : (ints? l).isSome = true) (hl : l.length = k) (hk : 0 < k) : atI l (m % (no_index (OfNat.ofNat k))) = some (.int (pick 0 ((ints? l).getD []) (m % (OfNat.ofNat k)))) := by
  cases q : ints? l with
  | none => rw [q] at h; cases h
  | some zs =>
    have e := ints_eq q
    subst e
    rw [List.length_map] at hl
    obtain ⟨h0, h1⟩ := mod_rng (m := m) hk
    show atI (zs.map D.int) (m % (k : Int)) = some (.int (pick 0 zs (m % (k : Int))))
    rw [atI_pick (.int 0) h0 (by rw [List.length_map, hl]; exact h1)]
    unfold pick
    rw [List.getD_eq_getElem?_getD, List.getD_eq_getElem?_getD, List.getElem?_map]
    have : (m % (k : Int)).toNat < zs.length := by omega
    simp [this]
theorem atI_modS {l : List D} {m : Int} {k : Nat} (h : (Rf.strs? l).isSome = true) (hl : l.length = k) (hk : 0 < k) : atI l (m % (no_index (OfNat.ofNat k))) = some (.str (pick Str.empty ((Rf.strs? l).getD []) (m % (OfNat.ofNat k)))) := by
  cases q : Rf.strs? l with
  | none => rw [q] at h; cases h
  | some zs =>
    have e := strs_eq q
    subst e
    rw [List.length_map] at hl
    obtain ⟨h0, h1⟩ := mod_rng (m := m) hk
    show atI (zs.map D.str) (m % (k : Int)) = some (.str (pick Str.empty zs (m % (k : Int))))
    rw [atI_pick (.str Str.empty) h0 (by rw [List.length_map, hl]; exact h1)]
    unfold pick
    rw [List.getD_eq_getElem?_getD, List.getD_eq_getElem?_getD, List.getElem?_map]
    have : (m % (k : Int)).toNat < zs.length := by omega
    simp [this]
theorem atI_modL {l : List Nat} {m : Int} {k : Nat} (hl : l.length = k) (hk : 0 < k) : atI l (m % (no_index (OfNat.ofNat k))) = some (pick 0 l (m % (OfNat.ofNat k))) := by
  obtain ⟨h0, h1⟩ := mod_rng (m := m) hk
  exact atI_pick 0 h0 (by rw [hl]; exact h1)
theorem atI_modG {α : Type} (z : α) {l : List α} {m : Int} (k : Nat) (hl : l.length = k) (hk : 0 < k) : atI l (m % (no_index (OfNat.ofNat k))) = some (pick z l (m % (OfNat.ofNat k))) := by
  obtain ⟨h0, h1⟩ := mod_rng (m := m) hk
  exact atI_pick z h0 (by rw [hl]; exact h1)
theorem pick_indG {α : Type} {z : α} {l : List α} {m : Int} (k : Nat) {P : α → Prop} (hl : l.length = k) (hk : 0 < k) (h : ∀ x ∈ l, P x) : P (pick z l (m % (no_index (OfNat.ofNat k)))) := by
  obtain ⟨h0, h1⟩ := mod_rng (m := m) hk
  exact h _ (pick_mem h0 (by rw [hl]; exact h1))
theorem pickI_mem {l : List Int} {m : Int} {k : Nat} (hl : l.length = k) (hk : 0 < k) : pick 0 l (m % (k : Int)) ∈ l := by
  obtain ⟨h0, h1⟩ := mod_rng (m := m) hk
  exact pick_mem h0 (by rw [hl]; exact h1)
theorem pick_ind {l : List Int} {m : Int} (k : Nat) {P : Int → Prop} (hl : l.length = k) (hk : 0 < k) (h : ∀ x ∈ l, P x) : P (pick 0 l (m % (no_index (OfNat.ofNat k)))) := h _ (pickI_mem hl hk)
class BdL (xs : List Int) (n : outParam Nat) : Prop where h : ∀ x ∈ xs, x.natAbs < 2 ^ n
class PsL (xs : List Int) : Prop where h : ∀ x ∈ xs, 0 < x
class NgL (xs : List Int) : Prop where h : ∀ x ∈ xs, 0 ≤ x
instance : BdL [] 0 := ⟨fun _ h => nomatch h⟩
instance : PsL [] := ⟨fun _ h => nomatch h⟩
instance : NgL [] := ⟨fun _ h => nomatch h⟩
instance {a : Int} {r : List Int} {m n : Nat} [Bd a m] [BdL r n] : BdL (a :: r) (max m n) := ⟨fun x h => by
  rcases List.mem_cons.mp h with rfl | h
  · exact Nat.lt_of_lt_of_le Bd.h (Nat.pow_le_pow_right (by omega) (Nat.le_max_left _ _))
  · exact Nat.lt_of_lt_of_le (BdL.h x h) (Nat.pow_le_pow_right (by omega) (Nat.le_max_right _ _))⟩
instance {a : Int} {r : List Int} [Ps a] [PsL r] : PsL (a :: r) := ⟨fun x h => by
  rcases List.mem_cons.mp h with rfl | h
  · exact Ps.h
  · exact PsL.h x h⟩
instance {a : Int} {r : List Int} [Ng a] [NgL r] : NgL (a :: r) := ⟨fun x h => by
  rcases List.mem_cons.mp h with rfl | h
  · exact Ng.h
  · exact NgL.h x h⟩
theorem pick_or {α : Type} {z : α} {l : List α} {i : Int} : pick z l i ∈ l ∨ pick z l i = z := by
  unfold pick
  rw [List.getD_eq_getElem?_getD]
  by_cases h : i.toNat < l.length
  · left; simp [h]
  · right; simp [Nat.le_of_not_lt h]
instance {l : List Int} {i : Int} {n : Nat} [BdL l n] : Bd (pick 0 l i) n := ⟨by
  rcases pick_or (z := (0 : Int)) (l := l) (i := i) with h | h
  · exact BdL.h _ h
  · rw [h]; exact Nat.pow_pos (by omega)⟩
instance {l : List Int} {i : Int} [NgL l] : Ng (pick 0 l i) := ⟨by
  rcases pick_or (z := (0 : Int)) (l := l) (i := i) with h | h
  · exact NgL.h _ h
  · rw [h]; exact Int.le_refl 0⟩
class Len (xs : List Int) (n : outParam Nat) : Prop where h : xs.length = n
instance : Len [] 0 := ⟨rfl⟩
instance {a : Int} {r : List Int} {n : Nat} [Len r n] : Len (a :: r) (n + 1) := ⟨by rw [List.length_cons, Len.h (xs := r)]⟩
theorem ps_pick {l : List Int} {m : Int} {k : Nat} [PsL l] (hl : l.length = k) (hk : 0 < k) : Ps (pick 0 l (m % (k : Int))) := ⟨PsL.h _ (pickI_mem hl hk)⟩
instance {a b c : Int} {m : Int} [Ps a] [Ps b] [Ps c] : Ps (pick 0 [a, b, c] (m % 3)) := ps_pick (k := 3) rfl (by omega)
instance {a b c d : Int} {m : Int} [Ps a] [Ps b] [Ps c] [Ps d] : Ps (pick 0 [a, b, c, d] (m % 4)) := ps_pick (k := 4) rfl (by omega)
instance {a b c d e : Int} {m : Int} [Ps a] [Ps b] [Ps c] [Ps d] [Ps e] : Ps (pick 0 [a, b, c, d, e] (m % 5)) := ps_pick (k := 5) rfl (by omega)
/-! ### ranges -/
theorem rangeD_eq : ∀ (n : Nat) (lo c : Int), rangeD lo c n = (List.range n).map fun k : Nat => .int (lo + k * c)
  | 0, _, _ => rfl
  | n + 1, lo, c => by
    rw [rangeD, rangeD_eq n, List.range_succ_eq_map]
    simp only [List.map_cons, List.map_map]
    congr 1
    · simp
    · apply List.map_congr_left
      intro k _
      simp only [Function.comp]
      congr 1
      simp only [Nat.succ_eq_add_one, Int.natCast_add, Int.natCast_one, Int.add_mul, Int.one_mul]
      omega
theorem rng1 {n : Int} (h : -(2 ^ 62) ≤ n ∧ n < 2 ^ 62) : rngItems [.int n] = some ((List.range n.toNat).map fun k : Nat => .int k) := by
  show (if -(2 ^ 62) ≤ n ∧ n < 2 ^ 62 then some (rangeD 0 1 n.toNat) else none) = _
  rw [if_pos h, rangeD_eq]
  simp
theorem rng2 {a b : Int} (h : -(2 ^ 62) ≤ a ∧ a < 2 ^ 62 ∧ -(2 ^ 62) ≤ b ∧ b < 2 ^ 62) : rngItems [.int a, .int b] = some ((List.range (b - a).toNat).map fun k : Nat => .int (a + k)) := by
  show (if -(2 ^ 62) ≤ a ∧ a < 2 ^ 62 ∧ -(2 ^ 62) ≤ b ∧ b < 2 ^ 62 then some (rangeD a 1 (b - a).toNat) else none) = _
  rw [if_pos h, rangeD_eq]
  simp
theorem rng3 {a b c : Int} (h : -1000000 ≤ a ∧ a < 1000000 ∧ -1000000 ≤ b ∧ b < 1000000) (hc : 0 < c ∧ c < 1000000) : rngItems [.int a, .int b, .int c] = some ((List.range (if a < b then (b - a - 1) / c + 1 else 0).toNat).map fun k : Nat => .int (a + k * c)) := by
  have e : Builtin.Range.rangeSize a b c = if a < b then (b - a - 1) / c + 1 else 0 := by
    unfold Builtin.Range.rangeSize
    rw [if_pos (show c > 0 from hc.1)]
  have h0 : 0 ≤ Builtin.Range.rangeSize a b c ∧ Builtin.Range.rangeSize a b c ≤ 2000000 := by
    rw [e]
    split
    · have h1 := Int.ediv_nonneg (show 0 ≤ b - a - 1 by omega) (show 0 ≤ c by omega)
      have h2 := Int.ediv_le_self c (show 0 ≤ b - a - 1 by omega)
      omega
    · omega
  have hs : Builtin.Range.small a b c = true := by
    unfold Builtin.Range.small Builtin.Range.rangeFitsLong
    rw [e, if_pos (show c > 0 from hc.1)] at *
    simp only [Bool.and_eq_true, decide_eq_true_eq, Bool.or_eq_true, beq_iff_eq]
    refine ⟨⟨⟨⟨?_, ?_⟩, ?_⟩, ?_⟩, .inr ?_⟩ <;> constructor <;> omega
  show (if c ≠ 0 ∧ c.natAbs < 1073741824 ∧ Builtin.Range.small a b c = true ∧ 0 ≤ Builtin.Range.rangeSize a b c then some (rangeD a c (Builtin.Range.rangeSize a b c).toNat) else none) = _
  rw [if_pos ⟨by omega, by omega, hs, h0.1⟩, rangeD_eq, e]
/-! ### slices -/
def cutL {α : Type} (xs : List α) (lo hi : Option Int) : List α := (xs.drop (HT.sIx xs.length 0 lo)).take (HT.sIx xs.length xs.length hi - HT.sIx xs.length 0 lo)
instance {α : Type} {a : List α} {lo hi : Option Int} {m : Nat} [Ln a m] : Ln (cutL a lo hi) m := by unfold cutL; infer_instance
theorem cutD_eq {xs : List D} {lo hi : Option Int} : cutD xs lo hi = cutL xs lo hi := (rfl)
theorem cutL_map {α β : Type} {f : α → β} {xs : List α} {lo hi : Option Int} : cutL (xs.map f) lo hi = (cutL xs lo hi).map f := by
  unfold cutL
  rw [List.length_map, List.map_take, List.map_drop]
theorem cutL_mem {α : Type} {xs : List α} {lo hi : Option Int} {x : α} (h : x ∈ cutL xs lo hi) : x ∈ xs := List.mem_of_mem_drop (List.mem_of_mem_take h)
theorem cutL_le {α : Type} {xs : List α} {lo hi : Option Int} : (cutL xs lo hi).length ≤ xs.length := by
  unfold cutL; rw [List.length_take, List.length_drop]; omega
theorem cutL_to {α : Type} {xs : List α} {n : Nat} : cutL xs none (some (n : Int)) = xs.take n := by
  unfold cutL
  rw [HT.sIx_none, HT.sIx_nat, List.drop_zero, Nat.sub_zero]
  by_cases h : n ≤ xs.length
  · rw [Nat.min_eq_left h]
  · rw [Nat.min_eq_right (by omega), List.take_of_length_le (Nat.le_refl _), List.take_of_length_le (by omega)]
theorem cutL_from {α : Type} {xs : List α} {n : Nat} : cutL xs (some (n : Int)) none = xs.drop n := by
  unfold cutL
  rw [HT.sIx_none, HT.sIx_nat]
  by_cases h : n ≤ xs.length
  · rw [Nat.min_eq_left h, List.take_of_length_le (by rw [List.length_drop]; omega)]
  · rw [Nat.min_eq_right (by omega), List.drop_of_length_le (Nat.le_refl _), List.drop_of_length_le (by omega), List.take_nil]
theorem cutL_both {α : Type} {xs : List α} {a b : Nat} : cutL xs (some (a : Int)) (some (b : Int)) = (xs.drop a).take (b - a) := by
  unfold cutL
  rw [HT.sIx_nat, HT.sIx_nat]
  by_cases h : a ≤ xs.length
  · rw [Nat.min_eq_left h]
    by_cases k : b ≤ xs.length
    · rw [Nat.min_eq_left k]
    · rw [Nat.min_eq_right (by omega), List.take_of_length_le (by rw [List.length_drop]; omega), List.take_of_length_le (by rw [List.length_drop]; omega)]
  · rw [Nat.min_eq_right (show xs.length ≤ a by omega), List.drop_of_length_le (Nat.le_refl _), List.drop_of_length_le (show xs.length ≤ a by omega)]; simp
/-! ### lists of texts of bounded lengths -/
class Al (xs : List Str) (k : outParam Nat) : Prop where h : ∀ x ∈ xs, x.length ≤ k
class SL (l : List D) (m k : outParam Nat) : Prop where h : ∃ ys : List Str, l = ys.map .str ∧ ys.length ≤ m ∧ ∀ y ∈ ys, y.length ≤ k
section
variable {l l' : List D} {m k m' k' : Nat}
instance : SL [] 0 0 := ⟨[], rfl, Nat.le_refl _, fun _ h => by cases h⟩
instance {x : Str} [Ls x k'] [SL l m k] : SL (.str x :: l) (m + 1) (max k' k) := ⟨by
  obtain ⟨ys, rfl, h1, h2⟩ := (SL.h : ∃ ys : List Str, l = ys.map .str ∧ _)
  refine ⟨x :: ys, rfl, Nat.succ_le_succ h1, fun y hy => ?_⟩
  rcases List.mem_cons.mp hy with rfl | hy
  · exact Nat.le_trans Ls.h (Nat.le_max_left _ _)
  · exact Nat.le_trans (h2 y hy) (Nat.le_max_right _ _)⟩
instance [SL l m k] [SL l' m' k'] : SL (l ++ l') (m + m') (max k k') := ⟨by
  obtain ⟨ys, rfl, h1, h2⟩ := (SL.h : ∃ ys : List Str, l = ys.map .str ∧ _)
  obtain ⟨zs, rfl, h3, h4⟩ := (SL.h : ∃ ys : List Str, l' = ys.map .str ∧ _)
  refine ⟨ys ++ zs, by simp, by simp; omega, fun y hy => ?_⟩
  rcases List.mem_append.mp hy with hy | hy
  · exact Nat.le_trans (h2 y hy) (Nat.le_max_left _ _)
  · exact Nat.le_trans (h4 y hy) (Nat.le_max_right _ _)⟩
instance {xs : List Str} [Ln xs m] [Al xs k] : SL (xs.map .str) m k := ⟨xs, rfl, Ln.h, Al.h⟩
instance {lo hi : Option Int} [SL l m k] : SL (cutL l lo hi) m k := ⟨by
  obtain ⟨ys, rfl, h1, h2⟩ := (SL.h : ∃ ys : List Str, l = ys.map .str ∧ _)
  exact ⟨cutL ys lo hi, cutL_map, Nat.le_trans cutL_le h1, fun y hy => h2 y (cutL_mem hy)⟩⟩
instance {n : Nat} [SL l m k] : SL (l.take n) m k := ⟨by
  obtain ⟨ys, rfl, h1, h2⟩ := (SL.h : ∃ ys : List Str, l = ys.map .str ∧ _)
  exact ⟨ys.take n, by simp, Nat.le_trans (by simp; omega) h1, fun y hy => h2 y (List.mem_of_mem_take hy)⟩⟩
instance {n : Nat} [SL l m k] : SL (l.drop n) m k := ⟨by
  obtain ⟨ys, rfl, h1, h2⟩ := (SL.h : ∃ ys : List Str, l = ys.map .str ∧ _)
  exact ⟨ys.drop n, by simp, Nat.le_trans (by simp) h1, fun y hy => h2 y (List.mem_of_mem_drop hy)⟩⟩
instance {n : Nat} [SL l m k] : SL (List.replicate n l).flatten (n * m) k := ⟨by
  obtain ⟨ys, rfl, h1, h2⟩ := (SL.h : ∃ ys : List Str, l = ys.map .str ∧ _)
  refine ⟨(List.replicate n ys).flatten, ?_, ?_, fun y hy => ?_⟩
  · induction n with
    | zero => rfl
    | succ n ih => simp only [List.replicate_succ, List.flatten_cons, ih, List.map_append]
  · simp only [List.length_flatten, List.map_replicate, List.sum_replicate_nat]
    exact Nat.mul_le_mul_left n h1
  · obtain ⟨z, hz, hy⟩ := List.mem_flatten.mp hy
    rw [(List.mem_replicate.mp hz).2] at hy
    exact h2 y hy⟩
instance {xs : List Str} {f : Str → Bool} [Al xs k] : Al (xs.filter f) k := ⟨fun x hx => Al.h x (List.mem_filter.mp hx).1⟩
instance {z : Str} {xs : List Str} {i : Int} [Al xs k] [Ls z k'] : Ls (pick z xs i) (max k k') := ⟨by
  rcases pick_or (z := z) (l := xs) (i := i) with h | h
  · exact Nat.le_trans (Al.h _ h) (Nat.le_max_left _ _)
  · rw [h]; exact Nat.le_trans Ls.h (Nat.le_max_right _ _)⟩
instance {xs : List Str} {lo hi : Option Int} [Al xs k] : Al (cutL xs lo hi) k := ⟨fun x hx => Al.h x (cutL_mem hx)⟩
instance {xs : List Str} {n : Nat} [Al xs k] : Al (xs.take n) k := ⟨fun x hx => Al.h x (List.mem_of_mem_take hx)⟩
instance {xs : List Str} {n : Nat} [Al xs k] : Al (xs.drop n) k := ⟨fun x hx => Al.h x (List.mem_of_mem_drop hx)⟩
instance {xs ys : List Str} [Al xs k] [Al ys k'] : Al (xs ++ ys) (max k k') := ⟨fun x hx => by
  rcases List.mem_append.mp hx with hx | hx
  · exact Nat.le_trans (Al.h x hx) (Nat.le_max_left _ _)
  · exact Nat.le_trans (Al.h x hx) (Nat.le_max_right _ _)⟩
instance : Al [] 0 := ⟨fun _ h => by cases h⟩
instance {x : Str} {xs : List Str} [Ls x k'] [Al xs k] : Al (x :: xs) (max k' k) := ⟨fun y hy => by
  rcases List.mem_cons.mp hy with rfl | hy
  · exact Nat.le_trans Ls.h (Nat.le_max_left _ _)
  · exact Nat.le_trans (Al.h y hy) (Nat.le_max_right _ _)⟩
end
class IL (l : List D) (n : outParam Nat) : Prop where h : ∃ zs : List Int, l = zs.map .int ∧ ∀ z ∈ zs, z.natAbs < 2 ^ n
instance : IL [] 0 := ⟨[], rfl, fun _ h => by cases h⟩
instance {i : Int} {l : List D} {m n : Nat} [Bd i m] [IL l n] : IL (.int i :: l) (max m n) := ⟨by
  obtain ⟨zs, rfl, h⟩ := (IL.h : ∃ zs : List Int, l = zs.map .int ∧ _)
  refine ⟨i :: zs, rfl, fun z hz => ?_⟩
  rcases List.mem_cons.mp hz with rfl | hz
  · exact Nat.lt_of_lt_of_le Bd.h (Nat.pow_le_pow_right (by omega) (Nat.le_max_left _ _))
  · exact Nat.lt_of_lt_of_le (h z hz) (Nat.pow_le_pow_right (by omega) (Nat.le_max_right _ _))⟩
instance {l l' : List D} {m n : Nat} [IL l m] [IL l' n] : IL (l ++ l') (max m n) := ⟨by
  obtain ⟨zs, rfl, h⟩ := (IL.h : ∃ zs : List Int, l = zs.map .int ∧ _)
  obtain ⟨ys, rfl, h'⟩ := (IL.h : ∃ zs : List Int, l' = zs.map .int ∧ _)
  refine ⟨zs ++ ys, by simp, fun z hz => ?_⟩
  rcases List.mem_append.mp hz with hz | hz
  · exact Nat.lt_of_lt_of_le (h z hz) (Nat.pow_le_pow_right (by omega) (Nat.le_max_left _ _))
  · exact Nat.lt_of_lt_of_le (h' z hz) (Nat.pow_le_pow_right (by omega) (Nat.le_max_right _ _))⟩
theorem il_ex {l : List D} {m : Nat} {S : Store} [IL l m] (n : Nat) (h : m ≤ n) : ∃ zs : List Int, Res.ok (W.t (.lst l)) S = .ok (.t (.lst (zs.map .int))) S ∧ ∀ z ∈ zs, z.natAbs < 2 ^ n := by
  obtain ⟨zs, rfl, h'⟩ := (IL.h : ∃ zs : List Int, l = zs.map .int ∧ _)
  exact ⟨zs, rfl, fun z hz => Nat.lt_of_lt_of_le (h' z hz) (Nat.pow_le_pow_right (by omega) h)⟩
theorem sl_ex {l : List D} {m k : Nat} [SL l m k] (a b : Nat) (h1 : m ≤ a) (h2 : k ≤ b) : ∃ ys : List Str, D.lst l = .lst (ys.map .str) ∧ ys.length ≤ a ∧ ∀ y ∈ ys, y.length ≤ b := by
  obtain ⟨ys, e, h3, h4⟩ := (SL.h : ∃ ys : List Str, l = ys.map .str ∧ _)
  exact ⟨ys, by rw [e], Nat.le_trans h3 h1, fun y hy => Nat.le_trans (h4 y hy) h2⟩
theorem ex_pick {z : D} {L : List D} {m : Int} {S : Store} {P : List Str → Prop} (k : Nat) (hl : L.length = k) (hk : 0 < k) (h : ∀ d ∈ L, ∃ ys : List Str, d = .lst (ys.map .str) ∧ P ys) :
    ∃ ys : List Str, Res.ok (W.t (pick z L (m % (no_index (OfNat.ofNat k))))) S = .ok (.t (.lst (ys.map .str))) S ∧ P ys := by
  obtain ⟨ys, e, hp⟩ := pick_indG (z := z) (m := m) k (P := fun d => ∃ ys : List Str, d = .lst (ys.map .str) ∧ P ys) hl hk h
  exact ⟨ys, by rw [e], hp⟩
theorem fm_filter {xs : List Str} {c : Str → Prop} [DecidablePred c] : xs.filterMap (fun x => if c x then some (D.str x) else none) = (xs.filter fun x => decide (c x)).map .str := by
  induction xs with
  | nil => rfl
  | cons x xs ih => by_cases h : c x <;> simp [List.filterMap_cons, List.filter_cons, h, ih]
theorem b2_repL {xs : List D} {m k : Nat} [Ln xs m] (h : Nat.ble m 1000 = true) (hk : Nat.blt k 1000 = true) : bin2 .mul (.lst xs) (.int (no_index (OfNat.ofNat k))) = some (.lst (List.replicate k xs).flatten) := by
  have h1 := Nat.le_of_ble_eq_true h
  have h2 : k < 1000 := by simpa [Nat.blt_eq] using hk
  show (if 0 ≤ ((k : Nat) : Int) ∧ ((k : Nat) : Int) < 1000 ∧ xs.length ≤ 1000 then some (D.lst (List.replicate ((k : Nat) : Int).toNat xs).flatten) else none) = _
  rw [if_pos ⟨by omega, by omega, Nat.le_trans Ln.h h1⟩]
  simp
theorem b2_repS {x : Str} {m : Nat} {k : Int} [Ls x m] (h : Nat.ble m 1000 = true) (h0 : 0 ≤ k) (h1 : k < 1000) : bin2 .mul (.str x) (.int k) = some (.str (repS x k.toNat)) := by
  have h2 := Nat.le_of_ble_eq_true h
  show (if 0 ≤ k ∧ k < 1000 ∧ x.length ≤ 1000 then some (D.str (repS x k.toNat)) else none) = _
  rw [if_pos ⟨h0, h1, Nat.le_trans Ls.h h2⟩]
instance {xs : List D} {n m : Nat} [Ln xs m] : Ln (List.replicate n xs).flatten (n * m) := ⟨by
  simp only [List.length_flatten, List.map_replicate, List.sum_replicate_nat]
  exact Nat.mul_le_mul_left n Ln.h⟩
theorem repS_len {x : Str} {k : Nat} : (repS x k).length = k * x.length := by
  show (List.toArray _).size = _
  rw [List.size_toArray, List.length_flatten, List.map_replicate, List.sum_replicate_nat, Array.length_toList]
  rfl
/-! ### texts by their signs -/
abbrev tl (x : Str) : List Nat := x.cps.toList
theorem tl_app {x y : Str} : tl (x ++ y) = tl x ++ tl y := by
  show (x.cps ++ y.cps).toList = _
  simp
theorem tl_mk {l : List Nat} : tl ⟨l.toArray⟩ = l := (rfl)
theorem tl_ch {c : Nat} : tl ⟨#[c]⟩ = [c] := (rfl)
theorem tl_len {x : Str} : x.length = (tl x).length := by
  show x.cps.size = _
  simp
theorem str_ext {x y : Str} (h : tl x = tl y) : x = y := by
  cases x; cases y
  congr 1
  exact Array.toList_inj.mp h
theorem len_append {x y : Str} : (x ++ y).length = x.length + y.length := by
  rw [tl_len, tl_app, List.length_append, ← tl_len, ← tl_len]
theorem cutS_tl {x : Str} {lo hi : Option Int} : tl (cutS x lo hi) = cutL (tl x) lo hi := by
  unfold cutS cutL
  rw [tl_mk, tl_len]
theorem join_tl : ∀ {ys : List Str}, tl (Txt.join Str.empty ys) = (ys.map tl).flatten := by
  intro ys
  show tl (Builtin.Str.glued _ ys) = _
  rw [StrLaws.glued_eq_join]
  induction ys with
  | nil => rfl
  | cons y r ih =>
    cases r with
    | nil => simp [Str.join]
    | cons z r =>
      show tl (y ++ Str.empty ++ Str.join Str.empty (z :: r)) = _
      rw [tl_app, tl_app, ih]
      simp [Str.empty]
theorem sx_mapf {α : Type} {f : α → Str} {xs : List α} : Rf.strs? (xs.map fun a => .str (f a)) = some (xs.map f) := by
  rw [show (xs.map fun a => D.str (f a)) = (xs.map f).map .str by simp, sx_map]
theorem len_join {ys : List Str} : (Txt.join Str.empty ys).length = (ys.map (·.length)).sum := by
  rw [tl_len, join_tl, List.length_flatten, List.map_map]
  congr 1
theorem joinLen_e {ys : List Str} : joinLen Str.empty ys = (ys.map (·.length)).sum := by
  unfold joinLen
  simp [Str.empty, Str.length]
theorem isWord_of {w : Str} (h1 : 2 ≤ (tl w).length) (h2 : (tl w).length ≤ 10) (h : ∀ c ∈ tl w, c ∈ tl SMALL) : isWord w = true := by
  unfold isWord
  rw [tl_len]
  simp only [Bool.and_eq_true, decide_eq_true_eq, List.all_eq_true]
  refine ⟨⟨by omega, by omega⟩, fun c hc => ?_⟩
  rw [List.contains_eq_mem]
  exact decide_eq_true (h c hc)
theorem isWord_len {w : Str} (h : isWord w = true) : 2 ≤ w.length ∧ w.length ≤ 10 := by
  unfold isWord at h
  simp only [Bool.and_eq_true, decide_eq_true_eq] at h
  omega
theorem sum_ones {α : Type} {l : List α} : (l.map fun _ => 1).sum = l.length := by
  induction l with
  | nil => rfl
  | cons a l ih => simp only [List.map_cons, List.sum_cons, ih, List.length_cons]; omega
theorem emp : (Str.ofString "") = Str.empty := by decide +kernel
end Rf

/-! Pl, part V: a list that is a value or lies at a location. -/
namespace Rf
open PySem PySem.Spec PyProof.Rows L2
/-! ### dicts of texts -/
abbrev kvS (l : List (Str × D)) : List (D × D) := l.map fun p => (.str p.1, p.2)
theorem lookK_nil {k : Key} : lookK k [] = none := (rfl)
theorem lookK_hit {x : Str} {d : D} {r : List (D × D)} : lookK (.inr x) ((.str x, d) :: r) = some d := by simp [lookK, D.key?]
theorem lookK_miss {x y : Str} {d : D} {r : List (D × D)} (h : x ≠ y) : lookK (.inr x) ((.str y, d) :: r) = lookK (.inr x) r := by
  have : ¬ ((D.str y).key? = some (.inr x)) := fun e => h (by cases e; rfl)
  show (if (D.str y).key? = some (.inr x) then some d else lookK (.inr x) r) = _
  rw [if_neg this]
theorem lookK_map {l : List (Str × D)} {x : Str} : lookK (.inr x) (kvS l) = l.lookup x := by
  induction l with
  | nil => rfl
  | cons p l ih =>
    obtain ⟨y, d⟩ := p
    by_cases h : x = y
    · subst h; simp [kvS, lookK_hit]
    · have : (x == y) = false := by simp [h]
      rw [List.lookup_cons, this]
      simp only [kvS, List.map_cons]
      rw [lookK_miss h]
      exact ih
theorem c2_memD {x : Str} {kvs : List (D × D)} : cmp2 .mem (.str x) (.dct false kvs) = some (lookK (.inr x) kvs).isSome := (rfl)
theorem c2_nmemD {x : Str} {kvs : List (D × D)} : cmp2 .nmem (.str x) (.dct false kvs) = some (!(lookK (.inr x) kvs).isSome) := (rfl)
theorem xi_dct {x : Str} {kvs : List (D × D)} : ix2 (.dct false kvs) (.str x) = lookK (.inr x) kvs := (rfl)
theorem putD_new {l : List (Str × D)} {x : Str} {d : D} (h : ∀ p ∈ l, p.1 ≠ x) : putD false (.str x) d (kvS l) = kvS (l ++ [(x, d)]) := by
  unfold putD
  have : ((kvS l).any fun q => sameKey false q.1 (.str x)) = false := by
    rw [List.any_eq_false]
    intro q hq
    obtain ⟨p, hp, rfl⟩ := List.mem_map.mp hq
    simp [sameKey, D.key?]
    exact h p hp
  rw [this]
  simp [kvS]
theorem ist_dct {l : List (Str × D)} {x : Str} {d : D} {m : Nat} [Ln l m] (hm : Nat.ble (m + 1) 16777216 = true) (h : ∀ p ∈ l, p.1 ≠ x) : istO (.dct false (kvS l)) (.str x) d = some (.dct false (kvS (l ++ [(x, d)]))) := by
  show (if hasKey false (.str x) && decide ((kvS l).length < sizeLine) then some (Ob.dct false (putD false (.str x) d (kvS l))) else none) = _
  have : (kvS l).length < sizeLine := by
    rw [List.length_map]
    exact Nat.le_trans (Nat.succ_le_succ Ln.h) (sl_le hm)
  rw [putD_new h, show hasKey false (.str x) = true from rfl, decide_eq_true this]
  rfl
theorem ist_dctG {kvs : List (D × D)} {x : Str} {d : D} {m : Nat} [Ln kvs m] (hm : Nat.ble (m + 1) 16777216 = true) : istO (.dct false kvs) (.str x) d = some (.dct false (putD false (.str x) d kvs)) := by
  show (if hasKey false (.str x) && decide (kvs.length < sizeLine) then some (Ob.dct false (putD false (.str x) d kvs)) else none) = _
  rw [show hasKey false (.str x) = true from rfl, decide_eq_true (show kvs.length < sizeLine from Nat.le_trans (Nat.succ_le_succ Ln.h) (sl_le hm))]
  rfl
instance {kvs : List (D × D)} {x d : D} {t : Bool} {m : Nat} [Ln kvs m] : Ln (putD t x d kvs) (m + 1) := ⟨by
  have := (Ln.h : kvs.length ≤ m)
  unfold putD
  split
  · rw [List.length_map]; omega
  · rw [List.length_append, List.length_singleton]; omega⟩
theorem eqv_dct {ks ls : List (D × D)} (h : sameD ks ls = true) : eqv2 (.dct false ks) (.dct false ls) = some true := by
  show (if sameD ks ls = true then some true else none) = _
  rw [if_pos h]
theorem ist_lit {ds : List D} {d : D} {k : Nat} (h : k < ds.length) : istO (.lst ds) (.int (no_index (OfNat.ofNat k))) d = some (.lst (ds.set k d)) := by
  show (ixN ds.length (k : Int)).map _ = _
  unfold ixN
  rw [if_pos (by omega), if_pos (by omega)]
  simp
theorem ist_m1 {ds : List D} {x d : D} : istO (.lst (ds ++ [x])) (.int (-1)) d = some (.lst (ds ++ [d])) := by
  show (ixN (ds ++ [x]).length (-1)).map _ = _
  unfold ixN
  rw [if_neg (by omega), if_pos (by rw [List.length_append, List.length_singleton]; omega)]
  simp
  rw [show (-1 + ((ds.length : Int) + 1)).toNat = ds.length by omega]
  simp
theorem eqv_self {a : D} (h : clnd 8 a = true) (h0 : a.sc = none) : eqv2 a a = some true := by
  rw [eqv_cln 8 h h h0 (by omega)]
  simp
theorem rep1 {α : Type} {x : α} : List.replicate 1 x = [x] := (rfl)
theorem rep2 {α : Type} {x : α} : List.replicate 2 x = [x, x] := (rfl)
theorem cq_nil {T : Nat → List W → Store → Res W} {g : Sig} {ρ : Env'} {S : Store} {elt : E} {tg : Tg} {ifs : Es} : cq T g elt tg ifs ρ ([], none) S = .ok (.t (.lst [])) S := cq_map (α := D) [] id id (fun _ h => nomatch h) (by decide)
def IsL (S : Store) (w : W) (ds : List D) : Prop := match w with
  | .t d => d = .lst ds
  | .loc n => get S n = some (.lst ds)
def lo : W → Option Nat
  | .t _ => none
  | .loc n => some n
section
variable {S : Store} {w : W} {ds : List D} {T : Nat → List W → Store → Res W} {g : Sig} {ρ : Env'}
theorem isl_t : IsL S (.t (.lst ds)) ds := rfl
theorem isl_0 {L : Store} : IsL (S ++ some (.lst ds) :: L) (.loc S.length) ds := by
  show get _ _ = _
  rw [get_app0, get_0]
theorem IsL.app {L : Store} (h : IsL S w ds) : IsL (S ++ L) w ds := by
  cases w with
  | t d => exact h
  | loc n => show get _ _ = _; rw [get_append_lt (get_lt h)]; exact h
theorem rd_app {L : Store} {d : D} (h : rd S w = some d) : rd (S ++ L) w = some d := by
  cases w with
  | t x => exact h
  | loc n =>
    obtain ⟨o, g, e⟩ := Option.map_eq_some_iff.mp (show (get S n).map Ob.tree = some d from h)
    show (get (S ++ L) n).map Ob.tree = _
    rw [get_append_lt (get_lt g), g, ← e]; rfl
theorem rd_isl (h : IsL S w ds) : rd S w = some (.lst ds) := by
  cases w with
  | t d => rw [show d = .lst ds from h]; rfl
  | loc n => show (get S n).map _ = _; rw [show get S n = _ from h]; rfl
theorem seqW_isl (h : IsL S w ds) : seqW w S = .ok (ds, lo w) S := by
  cases w with
  | t d => rw [show d = .lst ds from h]; rfl
  | loc n => rw [seqW_loc, show get S n = _ from h]; rfl
theorem mty_isl (h : IsL S w ds) : mTy S w = some false := by
  cases w with
  | t d => rw [show d = .lst ds from h]; rfl
  | loc n => show (match get S n with | some (.lst _) => some false | _ => none) = _; rw [show get S n = _ from h]
theorem cq_isl {α : Type} {elt tg ifs} (xs : List α) (enc f : α → D) (h : IsL S w (xs.map enc)) (k : ∀ x ∈ xs, ∀ acc, ct T g elt tg ifs ρ (enc x) (S ++ [some (.lst acc)]) = .ok (some (f x)) (S ++ [some (.lst acc)])) (hl : xs.length ≤ sizeLine) :
    cq T g elt tg ifs ρ (xs.map enc, lo w) S = .ok (.t (.lst (xs.map f))) S := by
  cases w with
  | t d => exact cq_map xs enc f k hl
  | loc n => exact cq_mapL xs enc f h k hl
/-- a turn leaves the store alone -/
def Kps (I : Env' → Prop) (S : Store) : FR → Prop
  | .next ρ S' => I ρ ∧ S' = S
  | .cont ρ S' => I ρ ∧ S' = S
  | _ => True
theorem flL_isl {tg b} (I : Env' → Prop) (h : IsL S w ds) (h0 : I ρ) (k : ∀ x ∈ ds, ∀ ρ, I ρ → ∀ ρ1, tg.store x ρ = some ρ1 → Kps I S (b.ev T g ρ1 S)) : flL T g tg b (ds, lo w) ρ S = fl T g tg b ds ρ S := by
  cases w with
  | t d => exact forsL_t
  | loc n =>
    have hg : get S n = some (.lst ds) := h
    have key : ∀ (m i : Nat) (ρ : Env'), m + i = ds.length → I ρ → forsL (fun x ρ => tg.store x ρ) (fun ρ S => b.ev T g ρ S) (ds, some n) m i ρ S = fors (fun x ρ => tg.store x ρ) (fun ρ S => b.ev T g ρ S) (ds.drop i) ρ S := by
      intro m
      induction m with
      | zero =>
        intro i ρ e _
        rw [List.drop_of_length_le (by omega)]
        simp [forsL, fors, itOk, hg]
      | succ m ih =>
        intro i ρ e hI
        have hi : i < ds.length := by omega
        rw [List.drop_eq_getElem_cons hi]
        simp only [forsL, fors]
        rw [show itAt (ds, some n) S i = some ds[i] by simp [itAt, hg, hi]]
        dsimp only
        cases q : tg.store ds[i] ρ with
        | none => rfl
        | some ρ1 =>
          dsimp only
          have := k _ (List.getElem_mem hi) ρ hI ρ1 q
          unfold loopR
          cases r : b.ev T g ρ1 S with
          | next ρ2 S2 =>
            rw [r] at this
            obtain ⟨h1, rfl⟩ := this
            exact ih (i + 1) ρ2 (by omega) h1
          | cont ρ2 S2 =>
            rw [r] at this
            obtain ⟨h1, rfl⟩ := this
            exact ih (i + 1) ρ2 (by omega) h1
          | _ => rfl
    have := key ds.length 0 ρ (by omega) h0
    rw [List.drop_zero] at this
    exact this
/-- a turn keeps an invariant of slots and store, in which the walked list stands -/
def KpI (I : Env' → Store → Prop) : FR → Prop
  | .next ρ S' => I ρ S'
  | .cont ρ S' => I ρ S'
  | _ => True
theorem flL_isl2 {tg b} (I : Env' → Store → Prop) (hI : ∀ ρ S, I ρ S → IsL S w ds) (h0 : I ρ S) (k : ∀ x ∈ ds, ∀ ρ S, I ρ S → ∀ ρ1, tg.store x ρ = some ρ1 → KpI I (b.ev T g ρ1 S)) : flL T g tg b (ds, lo w) ρ S = fl T g tg b ds ρ S := by
  cases w with
  | t d => exact forsL_t
  | loc n =>
    have key : ∀ (m i : Nat) (ρ : Env') (S : Store), m + i = ds.length → I ρ S → forsL (fun x ρ => tg.store x ρ) (fun ρ S => b.ev T g ρ S) (ds, some n) m i ρ S = fors (fun x ρ => tg.store x ρ) (fun ρ S => b.ev T g ρ S) (ds.drop i) ρ S := by
      intro m
      induction m with
      | zero =>
        intro i ρ S e h
        have hg : get S n = some (.lst ds) := hI ρ S h
        rw [List.drop_of_length_le (by omega)]
        simp [forsL, fors, itOk, hg]
      | succ m ih =>
        intro i ρ S e h
        have hg : get S n = some (.lst ds) := hI ρ S h
        have hi : i < ds.length := by omega
        rw [List.drop_eq_getElem_cons hi]
        simp only [forsL, fors]
        rw [show itAt (ds, some n) S i = some ds[i] by simp [itAt, hg, hi]]
        dsimp only
        cases q : tg.store ds[i] ρ with
        | none => rfl
        | some ρ1 =>
          dsimp only
          have := k _ (List.getElem_mem hi) ρ S h ρ1 q
          unfold loopR
          cases r : b.ev T g ρ1 S with
          | next ρ2 S2 => rw [r] at this; exact ih (i + 1) ρ2 S2 (by omega) this
          | cont ρ2 S2 => rw [r] at this; exact ih (i + 1) ρ2 S2 (by omega) this
          | _ => rfl
    have := key ds.length 0 ρ S (by omega) h0
    rw [List.drop_zero] at this
    exact this
theorem kpi_next {I : Env' → Store → Prop} : KpI I (.next ρ S) = I ρ S := (rfl)
theorem kpi_ret {I : Env' → Store → Prop} {u : W} : KpI I (.ret u S) = True := (rfl)
theorem keeps_next {I : Env' → Prop} : Kps I S (.next ρ S) = I ρ := by simp [Kps]
theorem keeps_cont {I : Env' → Prop} : Kps I S (.cont ρ S) = I ρ := by simp [Kps]
theorem keeps_ret {I : Env' → Prop} {S' : Store} {u : W} : Kps I S (.ret u S') = True := by simp [Kps]
theorem keeps_exc {I : Env' → Prop} {S' : Store} {c : Nat} : Kps I S (.exc c ρ S') = True := by simp [Kps]
theorem keeps_brk {I : Env' → Prop} {S' : Store} : Kps I S (.brk ρ S') = True := by simp [Kps]
theorem keeps_if {I : Env' → Prop} {c : Prop} [Decidable c] {a b : FR} : Kps I S (if c then a else b) = if c then Kps I S a else Kps I S b := by split <;> rfl
end
end Rf

namespace K32
open PySem PySem.Spec PyProof.Rows L2 Rf
/-! the text of the law's defs -/
def top (i : Nat) : Stmt := PySem.Challenge.pw_numbersay_k32_tongues_written.main.body.getD i (.Pass ⟨0, 0, 0, 0⟩)
def kitT : List ((Ty × Cl) × Bool) := [((.own 8, .own 8), true), ((.own 6, .own 6), true), ((.own 7, .own 7), true), ((.ty "int", .ty "bool" "bool"), false), ((.ty "int", .ty "int" "int"), true), ((.ty "list", .ty "list" "list"), true), ((.ty "str", .ty "str" "str"), true)]
def hitT : List ((Nat × Nat) × Bool) := []
def G : Sig where
  fnm := ["is_word", "ties_stand", "items_fit", "rule_tells", "is_melt", "is_title", "are_turns", "rule_row", "tongue_text", "_law_begin", "_law_next", "_law_words", "_law_melt", "_law_melts", "_law_great", "_law_items", "_law_rule", "_law_kind", "_law_data", "_law_tongue", "_law_rule_row", "_law_rows", "_law_whole", "_law_is_rule", "_law_is_tongue", "law", "", "", ""]
  cnm := ["SayError", "BadRule", "BadBound", "BadMelt", "Twice", "BadKind", "Rule", "Tongue", "Kind"]
  ini := [0, 0, 0, 0, 0, 0, 26, 27, 28]
  cst := [("SMALL", .str "abcdefghijklmnopqrstuvwxyz"), ("TIE", .str "+"), ("MOST_ITEMS", .int 8), ("SIGNS", .rt [.str "Q", .str "N", .str "W", .str "U", .str "R", .str "K"]), ("LETTERS", .str "abcdefghijklmnopqrstuvwxyz")]
  kit := fun t c => kitT.lookup (t, c)
  fld := ["first", "last", "pieces", "low", "base", "high", "bound", "rules", "melts", "kinds", "title", "ending", "turns"]
  na := [(7, 6), (7, 7), (7, 8), (7, 9), (8, 10), (8, 11), (8, 12), (6, 0), (6, 1), (6, 2), (6, 3), (6, 4), (6, 5)]
  mkn := [(6, 0), (7, 0), (8, 0)]
  hit := fun c d => hitT.lookup (c, d)
  rz := [1, 2, 3, 4, 5]
  bi := ["all", "any", "bool", "int", "isinstance", "len", "list", "max", "min", "range", "set", "str"]
/-- is_word -/
abbrev s0 : Stmt := top 12
def N0 : List Str := ["text"]
def c0 : Scope := ⟨.function, [("text", .local), ("len", .globalImplicit), ("SMALL", .globalImplicit)], false, false, []⟩
def b_is_word : Ss := (.cons (.ret (.bop true (.cons (.ch2 .le .le (.int 2 0 ⟨20, 11, 20, 12⟩) (.bfn .len (.cons (.var 0 ⟨20, 20, 20, 24⟩) .nil) ⟨20, 16, 20, 19⟩ ⟨20, 16, 20, 25⟩) (.int 10 0 ⟨20, 29, 20, 31⟩) ⟨20, 11, 20, 31⟩) (.cons (.cmp .eq (.mth .strip (.var 0 ⟨20, 36, 20, 40⟩) (.cons (.glo 0 ⟨20, 47, 20, 52⟩) .nil) ⟨20, 36, 20, 46⟩ ⟨20, 36, 20, 53⟩) (.str "" 0 ⟨20, 57, 20, 59⟩) ⟨20, 36, 20, 59⟩) .nil)) ⟨20, 11, 20, 59⟩) ⟨20, 4, 20, 59⟩)
 .nil)
theorem py0 : defBody s0 = b_is_word.py G N0 := by kernel_rfl
theorem sc0 : defScope s0 = c0 := by kernel_rfl
theorem wf0 : b_is_word.wf G N0 c0 = true := by kernel_rfl
theorem fs0 : FnScope N0 ["text"] c0 := ⟨rfl, rfl, rfl, by decide +kernel, by kernel_rfl, by decide +kernel, by decide +kernel⟩
/-- ties_stand -/
abbrev s1 : Stmt := top 13
def N1 : List Str := ["items", "ahead", "item"]
def c1 : Scope := ⟨.function, [("items", .local), ("ahead", .local), ("item", .local), ("TIE", .globalImplicit)], false, false, []⟩
def ties_stand_I0a : Rf.Ss := (.cons (.ret (.bl false 0 ⟨25, 19, 25, 24⟩) ⟨25, 12, 25, 24⟩)
 .nil)
def ties_stand_I0 : Rf.St := (.ite (.bop true (.cons (.cmp .eq (.var 2 ⟨24, 11, 24, 15⟩) (.glo 1 ⟨24, 19, 24, 22⟩) ⟨24, 11, 24, 22⟩) (.cons (.cmp .eq (.var 1 ⟨24, 27, 24, 32⟩) (.glo 1 ⟨24, 36, 24, 39⟩) ⟨24, 27, 24, 39⟩) .nil)) ⟨24, 11, 24, 39⟩)
 ties_stand_I0a
 .nil ⟨24, 8, 25, 24⟩)
def ties_stand_F0b : Rf.Ss := (.cons ties_stand_I0
 (.cons (.set 1 (.var 2 ⟨26, 16, 26, 20⟩) ⟨26, 8, 26, 13⟩ ⟨26, 8, 26, 20⟩)
 .nil))
def ties_stand_F0 : Rf.St := (.forr (.nm 2 ⟨23, 8, 23, 12⟩) (.seq (.var 0 ⟨23, 16, 23, 21⟩))
 ties_stand_F0b ⟨23, 4, 26, 20⟩)
def b_ties_stand : Ss := (.cons (.set 1 (.glo 1 ⟨22, 12, 22, 15⟩) ⟨22, 4, 22, 9⟩ ⟨22, 4, 22, 15⟩)
 (.cons ties_stand_F0
 (.cons (.ret (.cmp .ne (.var 1 ⟨27, 11, 27, 16⟩) (.glo 1 ⟨27, 20, 27, 23⟩) ⟨27, 11, 27, 23⟩) ⟨27, 4, 27, 23⟩)
 .nil)))
theorem py1 : defBody s1 = b_ties_stand.py G N1 := by kernel_rfl
theorem sc1 : defScope s1 = c1 := by kernel_rfl
theorem wf1 : b_ties_stand.wf G N1 c1 = true := by kernel_rfl
theorem fs1 : FnScope N1 ["items"] c1 := ⟨rfl, rfl, rfl, by decide +kernel, by kernel_rfl, by decide +kernel, by decide +kernel⟩
/-- items_fit -/
abbrev s2 : Stmt := top 14
def N2 : List Str := ["items", "item", ".0", "sign"]
def c2 : Scope := ⟨.function, [("items", .cell), ("item", .local), ("len", .globalImplicit), ("MOST_ITEMS", .globalImplicit), ("TIE", .globalImplicit), ("SIGNS", .globalImplicit), ("is_word", .globalImplicit), ("any", .globalImplicit), ("ties_stand", .globalImplicit)], false, false, [("fast", .str "items"), ("fast", .str "item"), ("fast", .str "sign")]⟩
def items_fit_I0a : Rf.Ss := (.cons (.ret (.bl false 0 ⟨30, 15, 30, 20⟩) ⟨30, 8, 30, 20⟩)
 .nil)
def items_fit_I0 : Rf.St := (.ite (.not (.ch2 .le .le (.int 1 0 ⟨29, 11, 29, 12⟩) (.bfn .len (.cons (.var 0 ⟨29, 20, 29, 25⟩) .nil) ⟨29, 16, 29, 19⟩ ⟨29, 16, 29, 26⟩) (.glo 2 ⟨29, 30, 29, 40⟩) ⟨29, 11, 29, 40⟩) ⟨29, 7, 29, 40⟩)
 items_fit_I0a
 .nil ⟨29, 4, 30, 20⟩)
def items_fit_I1a : Rf.Ss := (.cons (.ret (.bl false 0 ⟨33, 19, 33, 24⟩) ⟨33, 12, 33, 24⟩)
 .nil)
def items_fit_I1 : Rf.St := (.ite (.bop true (.cons (.cmp .ne (.var 1 ⟨32, 11, 32, 15⟩) (.glo 1 ⟨32, 19, 32, 22⟩) ⟨32, 11, 32, 22⟩) (.cons (.cmp .nmem (.var 1 ⟨32, 27, 32, 31⟩) (.glo 3 ⟨32, 39, 32, 44⟩) ⟨32, 27, 32, 44⟩) (.cons (.not (.call 0 (.cons (.var 1 ⟨32, 62, 32, 66⟩) .nil) ⟨32, 54, 32, 61⟩ ⟨32, 54, 32, 67⟩) ⟨32, 50, 32, 67⟩) .nil))) ⟨32, 11, 32, 68⟩)
 items_fit_I1a
 .nil ⟨32, 8, 33, 24⟩)
def items_fit_F0b : Rf.Ss := (.cons items_fit_I1
 .nil)
def items_fit_F0 : Rf.St := (.forr (.nm 1 ⟨31, 8, 31, 12⟩) (.seq (.var 0 ⟨31, 16, 31, 21⟩))
 items_fit_F0b ⟨31, 4, 33, 24⟩)
def items_fit_C0 : Rf.E := (.call 0 (.cons (.var 1 ⟨34, 24, 34, 28⟩) .nil) ⟨34, 16, 34, 23⟩ ⟨34, 16, 34, 29⟩)
def items_fit_C1 : Rf.E := (.cmp .gt (.mth .count (.var 0 ⟨34, 58, 34, 63⟩) (.cons (.var 3 ⟨34, 70, 34, 74⟩) .nil) ⟨34, 58, 34, 69⟩ ⟨34, 58, 34, 75⟩) (.int 1 0 ⟨34, 78, 34, 79⟩) ⟨34, 58, 34, 79⟩)
def items_fit_I2a : Rf.Ss := (.cons (.ret (.bl false 0 ⟨35, 15, 35, 20⟩) ⟨35, 8, 35, 20⟩)
 .nil)
def items_fit_I2 : Rf.St := (.ite (.bop false (.cons (.not (.bfn .any (.cons (.comp items_fit_C0 (.nm 1 ⟨34, 34, 34, 38⟩) (.seq (.var 0 ⟨34, 42, 34, 47⟩)) .nil ⟨.function, [(".0", .local), ("item", .local), ("is_word", .globalImplicit)], false, false, []⟩ [(".0", 2), ("item", 1)] ⟨34, 15, 34, 48⟩) .nil) ⟨34, 11, 34, 14⟩ ⟨34, 11, 34, 49⟩) ⟨34, 7, 34, 49⟩) (.cons (.bfn .any (.cons (.comp items_fit_C1 (.nm 3 ⟨34, 84, 34, 88⟩) (.seq (.glo 3 ⟨34, 92, 34, 97⟩)) .nil ⟨.function, [(".0", .local), ("sign", .local), ("items", .free)], false, false, []⟩ [(".0", 2), ("sign", 3)] ⟨34, 57, 34, 98⟩) .nil) ⟨34, 53, 34, 56⟩ ⟨34, 53, 34, 99⟩) .nil)) ⟨34, 7, 34, 99⟩)
 items_fit_I2a
 .nil ⟨34, 4, 35, 20⟩)
def b_items_fit : Ss := (.cons items_fit_I0
 (.cons items_fit_F0
 (.cons items_fit_I2
 (.cons (.ret (.call 1 (.cons (.var 0 ⟨36, 22, 36, 27⟩) .nil) ⟨36, 11, 36, 21⟩ ⟨36, 11, 36, 28⟩) ⟨36, 4, 36, 28⟩)
 .nil))))
theorem py2 : defBody s2 = b_items_fit.py G N2 := by kernel_rfl
theorem sc2 : defScope s2 = c2 := by kernel_rfl
theorem wf2 : b_items_fit.wf G N2 c2 = true := by kernel_rfl
theorem fs2 : FnScope N2 ["items"] c2 := ⟨rfl, rfl, rfl, by decide +kernel, by kernel_rfl, by decide +kernel, by decide +kernel⟩
/-- rule_tells -/
abbrev s3 : Stmt := top 15
def N3 : List Str := ["rule", "rest", "times", ".0", "sign"]
def c3 : Scope := ⟨.function, [("rule", .cell), ("rest", .local), ("times", .local), ("any", .globalImplicit)], false, false, [("fast", .str "rule"), ("fast", .str "rest"), ("fast", .str "times"), ("fast", .str "sign")]⟩
def rule_tells_C0 : Rf.E := (.cmp .mem (.var 4 ⟨40, 35, 40, 39⟩) (.fld (.var 0 ⟨40, 43, 40, 47⟩) 2 ⟨40, 43, 40, 54⟩) ⟨40, 35, 40, 54⟩)
def b_rule_tells : Ss := (.cons (.set 1 (.bop false (.cons (.cmp .eq (.fld (.var 0 ⟨38, 11, 38, 15⟩) 0 ⟨38, 11, 38, 21⟩) (.fld (.var 0 ⟨38, 25, 38, 29⟩) 1 ⟨38, 25, 38, 34⟩) ⟨38, 11, 38, 34⟩) (.cons (.cmp .mem (.str "R" 0 ⟨38, 38, 38, 41⟩) (.fld (.var 0 ⟨38, 45, 38, 49⟩) 2 ⟨38, 45, 38, 56⟩) ⟨38, 38, 38, 56⟩) (.cons (.cmp .mem (.str "K" 0 ⟨38, 60, 38, 63⟩) (.fld (.var 0 ⟨38, 67, 38, 71⟩) 2 ⟨38, 67, 38, 78⟩) ⟨38, 60, 38, 78⟩) .nil))) ⟨38, 11, 38, 78⟩) ⟨38, 4, 38, 8⟩ ⟨38, 4, 38, 78⟩)
 (.cons (.set 2 (.cmp .eq (.bin .fdiv (.fld (.var 0 ⟨39, 12, 39, 16⟩) 3 ⟨39, 12, 39, 20⟩) (.fld (.var 0 ⟨39, 24, 39, 28⟩) 4 ⟨39, 24, 39, 33⟩) ⟨39, 12, 39, 33⟩) (.bin .fdiv (.fld (.var 0 ⟨39, 37, 39, 41⟩) 5 ⟨39, 37, 39, 46⟩) (.fld (.var 0 ⟨39, 50, 39, 54⟩) 4 ⟨39, 50, 39, 59⟩) ⟨39, 37, 39, 59⟩) ⟨39, 12, 39, 59⟩) ⟨39, 4, 39, 9⟩ ⟨39, 4, 39, 59⟩)
 (.cons (.ret (.bop true (.cons (.var 1 ⟨40, 11, 40, 15⟩) (.cons (.bop false (.cons (.var 2 ⟨40, 21, 40, 26⟩) (.cons (.bfn .any (.cons (.comp rule_tells_C0 (.nm 4 ⟨40, 59, 40, 63⟩) (.seq (.tup (.cons (.str "Q" 0 ⟨40, 68, 40, 71⟩) (.cons (.str "N" 0 ⟨40, 73, 40, 76⟩) (.cons (.str "W" 0 ⟨40, 78, 40, 81⟩) (.cons (.str "U" 0 ⟨40, 83, 40, 86⟩) .nil)))) 0 ⟨40, 67, 40, 87⟩)) .nil ⟨.function, [(".0", .local), ("sign", .local), ("rule", .free)], false, false, []⟩ [(".0", 3), ("sign", 4)] ⟨40, 34, 40, 88⟩) .nil) ⟨40, 30, 40, 33⟩ ⟨40, 30, 40, 89⟩) .nil)) ⟨40, 21, 40, 89⟩) .nil)) ⟨40, 11, 40, 90⟩) ⟨40, 4, 40, 90⟩)
 .nil)))
theorem py3 : defBody s3 = b_rule_tells.py G N3 := by kernel_rfl
theorem sc3 : defScope s3 = c3 := by kernel_rfl
theorem wf3 : b_rule_tells.wf G N3 c3 = true := by kernel_rfl
theorem fs3 : FnScope N3 ["rule"] c3 := ⟨rfl, rfl, rfl, by decide +kernel, by kernel_rfl, by decide +kernel, by decide +kernel⟩
/-- is_melt -/
abbrev s4 : Stmt := top 18
def N4 : List Str := ["melt", "ahead", "behind", "made", ".0", "text"]
def c4 : Scope := ⟨.function, [("melt", .local), ("ahead", .local), ("behind", .local), ("made", .local), ("len", .globalImplicit), ("any", .globalImplicit), ("max", .globalImplicit)], false, false, [("fast", .str "melt"), ("fast", .str "text"), ("fast", .str "ahead"), ("fast", .str "behind"), ("fast", .str "made")]⟩
def is_melt_C0 : Rf.E := (.cmp .ne (.mth .strip (.var 5 ⟨58, 30, 58, 34⟩) (.cons (.glo 0 ⟨58, 41, 58, 46⟩) .nil) ⟨58, 30, 58, 40⟩ ⟨58, 30, 58, 47⟩) (.str "" 0 ⟨58, 51, 58, 53⟩) ⟨58, 30, 58, 53⟩)
def is_melt_I0a : Rf.Ss := (.cons (.ret (.bl false 0 ⟨59, 15, 59, 20⟩) ⟨59, 8, 59, 20⟩)
 .nil)
def is_melt_I0 : Rf.St := (.ite (.bop false (.cons (.cmp .ne (.bfn .len (.cons (.var 0 ⟨58, 11, 58, 15⟩) .nil) ⟨58, 7, 58, 10⟩ ⟨58, 7, 58, 16⟩) (.int 3 0 ⟨58, 20, 58, 21⟩) ⟨58, 7, 58, 21⟩) (.cons (.bfn .any (.cons (.comp is_melt_C0 (.nm 5 ⟨58, 58, 58, 62⟩) (.seq (.var 0 ⟨58, 66, 58, 70⟩)) .nil ⟨.function, [(".0", .local), ("text", .local), ("SMALL", .globalImplicit)], false, false, []⟩ [(".0", 4), ("text", 5)] ⟨58, 29, 58, 71⟩) .nil) ⟨58, 25, 58, 28⟩ ⟨58, 25, 58, 72⟩) .nil)) ⟨58, 7, 58, 72⟩)
 is_melt_I0a
 .nil ⟨58, 4, 59, 20⟩)
def is_melt_C1 : Rf.E := (.bfn .len (.cons (.var 5 ⟨60, 31, 60, 35⟩) .nil) ⟨60, 27, 60, 30⟩ ⟨60, 27, 60, 36⟩)
def b_is_melt : Ss := (.cons is_melt_I0
 (.cons (.unp true (.tp [(1, ⟨60, 4, 60, 9⟩), (2, ⟨60, 11, 60, 17⟩), (3, ⟨60, 19, 60, 23⟩)] 0 ⟨60, 4, 60, 23⟩) (.comp is_melt_C1 (.nm 5 ⟨60, 41, 60, 45⟩) (.seq (.var 0 ⟨60, 49, 60, 53⟩)) .nil ⟨.function, [(".0", .local), ("text", .local), ("len", .globalImplicit)], false, false, []⟩ [(".0", 4), ("text", 5)] ⟨60, 26, 60, 54⟩) ⟨60, 4, 60, 54⟩)
 (.cons (.ret (.bop true (.cons (.ch2 .le .le (.int 1 0 ⟨61, 11, 61, 12⟩) (.var 1 ⟨61, 16, 61, 21⟩) (.int 3 0 ⟨61, 25, 61, 26⟩) ⟨61, 11, 61, 26⟩) (.cons (.ch2 .le .le (.int 1 0 ⟨61, 31, 61, 32⟩) (.var 2 ⟨61, 36, 61, 42⟩) (.int 3 0 ⟨61, 46, 61, 47⟩) ⟨61, 31, 61, 47⟩) (.cons (.ch2 .le .le (.bfn .max (.cons (.int 1 0 ⟨61, 57, 61, 58⟩) (.cons (.bin .sub (.bin .add (.var 1 ⟨61, 60, 61, 65⟩) (.var 2 ⟨61, 68, 61, 74⟩) ⟨61, 60, 61, 74⟩) (.int 1 0 ⟨61, 77, 61, 78⟩) ⟨61, 60, 61, 78⟩) .nil)) ⟨61, 53, 61, 56⟩ ⟨61, 53, 61, 79⟩) (.var 3 ⟨61, 83, 61, 87⟩) (.int 6 0 ⟨61, 91, 61, 92⟩) ⟨61, 53, 61, 92⟩) .nil))) ⟨61, 11, 61, 93⟩) ⟨61, 4, 61, 93⟩)
 .nil)))
theorem py4 : defBody s4 = b_is_melt.py G N4 := by kernel_rfl
theorem sc4 : defScope s4 = c4 := by kernel_rfl
theorem wf4 : b_is_melt.wf G N4 c4 = true := by kernel_rfl
theorem fs4 : FnScope N4 ["melt"] c4 := ⟨rfl, rfl, rfl, by decide +kernel, by kernel_rfl, by decide +kernel, by decide +kernel⟩
/-- is_title -/
abbrev s5 : Stmt := top 22
def N5 : List Str := ["text", ".0", "sign"]
def c5 : Scope := ⟨.function, [("text", .local), ("len", .globalImplicit), ("all", .globalImplicit)], false, false, [("fast", .str "text"), ("fast", .str "sign")]⟩
def is_title_I0a : Rf.Ss := (.cons (.ret (.bl false 0 ⟨81, 15, 81, 20⟩) ⟨81, 8, 81, 20⟩)
 .nil)
def is_title_I0 : Rf.St := (.ite (.not (.ch2 .le .le (.int 1 0 ⟨80, 11, 80, 12⟩) (.bfn .len (.cons (.var 0 ⟨80, 20, 80, 24⟩) .nil) ⟨80, 16, 80, 19⟩ ⟨80, 16, 80, 25⟩) (.int 8 0 ⟨80, 29, 80, 30⟩) ⟨80, 11, 80, 30⟩) ⟨80, 7, 80, 30⟩)
 is_title_I0a
 .nil ⟨80, 4, 81, 20⟩)
def is_title_C0 : Rf.E := (.cmp .mem (.var 2 ⟨82, 16, 82, 20⟩) (.glo 4 ⟨82, 24, 82, 31⟩) ⟨82, 16, 82, 31⟩)
def b_is_title : Ss := (.cons is_title_I0
 (.cons (.ret (.bfn .all (.cons (.comp is_title_C0 (.nm 2 ⟨82, 36, 82, 40⟩) (.seq (.var 0 ⟨82, 44, 82, 48⟩)) .nil ⟨.function, [(".0", .local), ("sign", .local), ("LETTERS", .globalImplicit)], false, false, []⟩ [(".0", 1), ("sign", 2)] ⟨82, 15, 82, 49⟩) .nil) ⟨82, 11, 82, 14⟩ ⟨82, 11, 82, 50⟩) ⟨82, 4, 82, 50⟩)
 .nil))
theorem py5 : defBody s5 = b_is_title.py G N5 := by kernel_rfl
theorem sc5 : defScope s5 = c5 := by kernel_rfl
theorem wf5 : b_is_title.wf G N5 c5 = true := by kernel_rfl
theorem fs5 : FnScope N5 ["text"] c5 := ⟨rfl, rfl, rfl, by decide +kernel, by kernel_rfl, by decide +kernel, by decide +kernel⟩
/-- are_turns -/
abbrev s6 : Stmt := top 23
def N6 : List Str := ["turns", "firsts", "pair"]
def c6 : Scope := ⟨.function, [("turns", .local), ("firsts", .local), ("pair", .local), ("len", .globalImplicit), ("is_word", .globalImplicit)], false, false, []⟩
def are_turns_I0a : Rf.Ss := (.cons (.ret (.bl false 0 ⟨87, 19, 87, 24⟩) ⟨87, 12, 87, 24⟩)
 .nil)
def are_turns_I0 : Rf.St := (.ite (.bop false (.cons (.cmp .ne (.bfn .len (.cons (.var 2 ⟨86, 15, 86, 19⟩) .nil) ⟨86, 11, 86, 14⟩ ⟨86, 11, 86, 20⟩) (.int 2 0 ⟨86, 24, 86, 25⟩) ⟨86, 11, 86, 25⟩) (.cons (.not (.call 0 (.cons (.ix (.var 2 ⟨86, 41, 86, 45⟩) (.int 0 0 ⟨86, 46, 86, 47⟩) ⟨86, 41, 86, 48⟩) .nil) ⟨86, 33, 86, 40⟩ ⟨86, 33, 86, 49⟩) ⟨86, 29, 86, 49⟩) (.cons (.not (.call 0 (.cons (.ix (.var 2 ⟨86, 66, 86, 70⟩) (.int 1 0 ⟨86, 71, 86, 72⟩) ⟨86, 66, 86, 73⟩) .nil) ⟨86, 58, 86, 65⟩ ⟨86, 58, 86, 74⟩) ⟨86, 54, 86, 74⟩) (.cons (.cmp .mem (.ix (.var 2 ⟨86, 80, 86, 84⟩) (.int 0 0 ⟨86, 85, 86, 86⟩) ⟨86, 80, 86, 87⟩) (.var 1 ⟨86, 91, 86, 97⟩) ⟨86, 80, 86, 97⟩) .nil)))) ⟨86, 11, 86, 98⟩)
 are_turns_I0a
 .nil ⟨86, 8, 87, 24⟩)
def are_turns_F0b : Rf.Ss := (.cons are_turns_I0
 (.cons (.mut .append (.var 1 ⟨88, 8, 88, 14⟩) (.cons (.ix (.var 2 ⟨88, 22, 88, 26⟩) (.int 0 0 ⟨88, 27, 88, 28⟩) ⟨88, 22, 88, 29⟩) .nil) ⟨88, 8, 88, 21⟩ ⟨88, 8, 88, 30⟩ ⟨88, 8, 88, 30⟩)
 .nil))
def are_turns_F0 : Rf.St := (.forr (.nm 2 ⟨85, 8, 85, 12⟩) (.seq (.var 0 ⟨85, 16, 85, 21⟩))
 are_turns_F0b ⟨85, 4, 88, 30⟩)
def b_are_turns : Ss := (.cons (.set 1 (.new (.lst .nil ⟨84, 13, 84, 15⟩)) ⟨84, 4, 84, 10⟩ ⟨84, 4, 84, 15⟩)
 (.cons are_turns_F0
 (.frz 1 (.cons (.ret (.bl true 0 ⟨89, 11, 89, 15⟩) ⟨89, 4, 89, 15⟩)
 .nil))))
theorem py6 : defBody s6 = b_are_turns.py G N6 := by kernel_rfl
theorem sc6 : defScope s6 = c6 := by kernel_rfl
theorem wf6 : b_are_turns.wf G N6 c6 = true := by kernel_rfl
theorem fs6 : FnScope N6 ["turns"] c6 := ⟨rfl, rfl, rfl, by decide +kernel, by kernel_rfl, by decide +kernel, by decide +kernel⟩
/-- rule_row -/
abbrev s7 : Stmt := top 26
def N7 : List Str := ["rule", "low", "alone", "numbers", ".0", "number"]
def c7 : Scope := ⟨.function, [("rule", .local), ("low", .local), ("alone", .local), ("numbers", .local), ("len", .globalImplicit), ("is_word", .globalImplicit)], false, false, [("fast", .str "rule"), ("fast", .str "low"), ("fast", .str "alone"), ("fast", .str "numbers"), ("fast", .str "number")]⟩
def rule_row_I0a : Rf.Ss := (.cons (.ret (.fstr (.cons (.str "word " 0 ⟨103, 17, 103, 22⟩) (.cons (.fmt (.var 1 ⟨103, 23, 103, 26⟩) ⟨103, 22, 103, 27⟩) (.cons (.str " " 0 ⟨103, 27, 103, 28⟩) (.cons (.fmt (.ix (.fld (.var 0 ⟨103, 29, 103, 33⟩) 2 ⟨103, 29, 103, 40⟩) (.int 0 0 ⟨103, 41, 103, 42⟩) ⟨103, 29, 103, 43⟩) ⟨103, 28, 103, 44⟩) .nil)))) ⟨103, 15, 103, 45⟩) ⟨103, 8, 103, 45⟩)
 .nil)
def rule_row_I0 : Rf.St := (.ite (.bop true (.cons (.var 2 ⟨102, 7, 102, 12⟩) (.cons (.cmp .eq (.lst (.cons (.fld (.var 0 ⟨102, 18, 102, 22⟩) 5 ⟨102, 18, 102, 27⟩) (.cons (.fld (.var 0 ⟨102, 29, 102, 33⟩) 4 ⟨102, 29, 102, 38⟩) (.cons (.fld (.var 0 ⟨102, 40, 102, 44⟩) 0 ⟨102, 40, 102, 50⟩) (.cons (.fld (.var 0 ⟨102, 52, 102, 56⟩) 1 ⟨102, 52, 102, 61⟩) .nil)))) ⟨102, 17, 102, 62⟩) (.lst (.cons (.var 1 ⟨102, 67, 102, 70⟩) (.cons (.int 2 0 ⟨102, 72, 102, 73⟩) (.cons (.bin .mod (.var 1 ⟨102, 75, 102, 78⟩) (.int 2 0 ⟨102, 81, 102, 82⟩) ⟨102, 75, 102, 82⟩) (.cons (.bin .mod (.var 1 ⟨102, 84, 102, 87⟩) (.int 2 0 ⟨102, 90, 102, 91⟩) ⟨102, 84, 102, 91⟩) .nil)))) ⟨102, 66, 102, 92⟩) ⟨102, 17, 102, 92⟩) .nil)) ⟨102, 7, 102, 92⟩)
 rule_row_I0a
 .nil ⟨102, 4, 103, 45⟩)
def rule_row_C0 : Rf.E := (.bfn .str (.cons (.var 5 ⟨105, 36, 105, 42⟩) .nil) ⟨105, 32, 105, 35⟩ ⟨105, 32, 105, 43⟩)
def b_rule_row : Ss := (.cons (.set 1 (.fld (.var 0 ⟨100, 10, 100, 14⟩) 3 ⟨100, 10, 100, 18⟩) ⟨100, 4, 100, 7⟩ ⟨100, 4, 100, 18⟩)
 (.cons (.set 2 (.bop true (.cons (.cmp .eq (.bfn .len (.cons (.fld (.var 0 ⟨101, 16, 101, 20⟩) 2 ⟨101, 16, 101, 27⟩) .nil) ⟨101, 12, 101, 15⟩ ⟨101, 12, 101, 28⟩) (.int 1 0 ⟨101, 32, 101, 33⟩) ⟨101, 12, 101, 33⟩) (.cons (.call 0 (.cons (.ix (.fld (.var 0 ⟨101, 46, 101, 50⟩) 2 ⟨101, 46, 101, 57⟩) (.int 0 0 ⟨101, 58, 101, 59⟩) ⟨101, 46, 101, 60⟩) .nil) ⟨101, 38, 101, 45⟩ ⟨101, 38, 101, 61⟩) .nil)) ⟨101, 12, 101, 61⟩) ⟨101, 4, 101, 9⟩ ⟨101, 4, 101, 61⟩)
 (.cons rule_row_I0
 (.cons (.set 3 (.lst (.cons (.var 1 ⟨104, 15, 104, 18⟩) (.cons (.fld (.var 0 ⟨104, 20, 104, 24⟩) 5 ⟨104, 20, 104, 29⟩) (.cons (.fld (.var 0 ⟨104, 31, 104, 35⟩) 4 ⟨104, 31, 104, 40⟩) (.cons (.fld (.var 0 ⟨104, 42, 104, 46⟩) 0 ⟨104, 42, 104, 52⟩) (.cons (.fld (.var 0 ⟨104, 54, 104, 58⟩) 1 ⟨104, 54, 104, 63⟩) .nil))))) ⟨104, 14, 104, 64⟩) ⟨104, 4, 104, 11⟩ ⟨104, 4, 104, 64⟩)
 (.cons (.ret (.mth .join (.str " " 0 ⟨105, 11, 105, 14⟩) (.cons (.bin .add (.bin .add (.bin .add (.lst (.cons (.str "rule" 0 ⟨105, 21, 105, 27⟩) .nil) ⟨105, 20, 105, 28⟩) (.comp rule_row_C0 (.nm 5 ⟨105, 48, 105, 54⟩) (.seq (.var 3 ⟨105, 58, 105, 65⟩)) .nil ⟨.function, [(".0", .local), ("number", .local), ("str", .globalImplicit)], false, false, []⟩ [(".0", 4), ("number", 5)] ⟨105, 31, 105, 66⟩) ⟨105, 20, 105, 66⟩) (.lst (.cons (.str ":" 0 ⟨105, 70, 105, 73⟩) .nil) ⟨105, 69, 105, 74⟩) ⟨105, 20, 105, 74⟩) (.fld (.var 0 ⟨105, 77, 105, 81⟩) 2 ⟨105, 77, 105, 88⟩) ⟨105, 20, 105, 88⟩) .nil) ⟨105, 11, 105, 19⟩ ⟨105, 11, 105, 89⟩) ⟨105, 4, 105, 89⟩)
 .nil)))))
theorem py7 : defBody s7 = b_rule_row.py G N7 := by kernel_rfl
theorem sc7 : defScope s7 = c7 := by kernel_rfl
theorem wf7 : b_rule_row.wf G N7 c7 = true := by kernel_rfl
theorem fs7 : FnScope N7 ["rule"] c7 := ⟨rfl, rfl, rfl, by decide +kernel, by kernel_rfl, by decide +kernel, by decide +kernel⟩
/-- tongue_text -/
abbrev s8 : Stmt := top 27
def N8 : List Str := ["tongue", "rows", "kind", ".0", "rule", "melt", "pair", "row"]
def c8 : Scope := ⟨.function, [("tongue", .local), ("rows", .local), ("kind", .local)], false, false, [("fast", .str "tongue"), ("fast", .str "rule"), ("fast", .str "rows"), ("fast", .str "melt"), ("fast", .str "kind"), ("fast", .str "pair"), ("fast", .str "row")]⟩
def tongue_text_C0 : Rf.E := (.call 7 (.cons (.var 4 ⟨107, 49, 107, 53⟩) .nil) ⟨107, 40, 107, 48⟩ ⟨107, 40, 107, 54⟩)
def tongue_text_C1 : Rf.E := (.mth .join (.str " " 0 ⟨108, 17, 108, 20⟩) (.cons (.bin .add (.lst (.cons (.str "melt" 0 ⟨108, 27, 108, 33⟩) .nil) ⟨108, 26, 108, 34⟩) (.bfn .list (.cons (.var 5 ⟨108, 42, 108, 46⟩) .nil) ⟨108, 37, 108, 41⟩ ⟨108, 37, 108, 47⟩) ⟨108, 26, 108, 47⟩) .nil) ⟨108, 17, 108, 25⟩ ⟨108, 17, 108, 48⟩)
def tongue_text_C2 : Rf.E := (.mth .join (.str " " 0 ⟨111, 21, 111, 24⟩) (.cons (.bin .add (.lst (.cons (.str "turn" 0 ⟨111, 31, 111, 37⟩) .nil) ⟨111, 30, 111, 38⟩) (.bfn .list (.cons (.var 6 ⟨111, 46, 111, 50⟩) .nil) ⟨111, 41, 111, 45⟩ ⟨111, 41, 111, 51⟩) ⟨111, 30, 111, 51⟩) .nil) ⟨111, 21, 111, 29⟩ ⟨111, 21, 111, 52⟩)
def tongue_text_F0b : Rf.Ss := (.cons (.mut .append (.var 1 ⟨110, 8, 110, 12⟩) (.cons (.fstr (.cons (.str "kind " 0 ⟨110, 22, 110, 27⟩) (.cons (.fmt (.fld (.var 2 ⟨110, 28, 110, 32⟩) 10 ⟨110, 28, 110, 38⟩) ⟨110, 27, 110, 39⟩) (.cons (.str " " 0 ⟨110, 39, 110, 40⟩) (.cons (.fmt (.fld (.var 2 ⟨110, 41, 110, 45⟩) 11 ⟨110, 41, 110, 52⟩) ⟨110, 40, 110, 53⟩) .nil)))) ⟨110, 20, 110, 54⟩) .nil) ⟨110, 8, 110, 19⟩ ⟨110, 8, 110, 55⟩ ⟨110, 8, 110, 55⟩)
 (.cons (.mut .extend (.var 1 ⟨111, 8, 111, 12⟩) (.cons (.comp tongue_text_C2 (.nm 6 ⟨111, 57, 111, 61⟩) (.seq (.fld (.var 2 ⟨111, 65, 111, 69⟩) 12 ⟨111, 65, 111, 75⟩)) .nil ⟨.function, [(".0", .local), ("pair", .local), ("list", .globalImplicit)], false, false, []⟩ [(".0", 3), ("pair", 6)] ⟨111, 20, 111, 76⟩) .nil) ⟨111, 8, 111, 19⟩ ⟨111, 8, 111, 77⟩ ⟨111, 8, 111, 77⟩)
 .nil))
def tongue_text_F0 : Rf.St := (.forr (.nm 2 ⟨109, 8, 109, 12⟩) (.seq (.fld (.var 0 ⟨109, 16, 109, 22⟩) 9 ⟨109, 16, 109, 28⟩))
 tongue_text_F0b ⟨109, 4, 111, 77⟩)
def tongue_text_C3 : Rf.E := (.bin .add (.var 7 ⟨112, 20, 112, 23⟩) (.str "\n" 0 ⟨112, 26, 112, 30⟩) ⟨112, 20, 112, 30⟩)
def b_tongue_text : Ss := (.cons (.set 1 (.new (.bin .add (.lst (.cons (.fstr (.cons (.str "bound " 0 ⟨107, 14, 107, 20⟩) (.cons (.fmt (.fld (.var 0 ⟨107, 21, 107, 27⟩) 6 ⟨107, 21, 107, 33⟩) ⟨107, 20, 107, 34⟩) .nil)) ⟨107, 12, 107, 35⟩) .nil) ⟨107, 11, 107, 36⟩) (.comp tongue_text_C0 (.nm 4 ⟨107, 59, 107, 63⟩) (.seq (.fld (.var 0 ⟨107, 67, 107, 73⟩) 7 ⟨107, 67, 107, 79⟩)) .nil ⟨.function, [(".0", .local), ("rule", .local), ("rule_row", .globalImplicit)], false, false, []⟩ [(".0", 3), ("rule", 4)] ⟨107, 39, 107, 80⟩) ⟨107, 11, 107, 80⟩)) ⟨107, 4, 107, 8⟩ ⟨107, 4, 107, 80⟩)
 (.cons (.mut .extend (.var 1 ⟨108, 4, 108, 8⟩) (.cons (.comp tongue_text_C1 (.nm 5 ⟨108, 53, 108, 57⟩) (.seq (.fld (.var 0 ⟨108, 61, 108, 67⟩) 8 ⟨108, 61, 108, 73⟩)) .nil ⟨.function, [(".0", .local), ("melt", .local), ("list", .globalImplicit)], false, false, []⟩ [(".0", 3), ("melt", 5)] ⟨108, 16, 108, 74⟩) .nil) ⟨108, 4, 108, 15⟩ ⟨108, 4, 108, 75⟩ ⟨108, 4, 108, 75⟩)
 (.cons tongue_text_F0
 (.frz 1 (.cons (.ret (.mth .join (.str "" 0 ⟨112, 11, 112, 13⟩) (.cons (.comp tongue_text_C3 (.nm 7 ⟨112, 35, 112, 38⟩) (.seq (.var 1 ⟨112, 42, 112, 46⟩)) .nil ⟨.function, [(".0", .local), ("row", .local)], false, false, []⟩ [(".0", 3), ("row", 7)] ⟨112, 19, 112, 47⟩) .nil) ⟨112, 11, 112, 18⟩ ⟨112, 11, 112, 48⟩) ⟨112, 4, 112, 48⟩)
 .nil)))))
theorem py8 : defBody s8 = b_tongue_text.py G N8 := by kernel_rfl
theorem sc8 : defScope s8 = c8 := by kernel_rfl
theorem wf8 : b_tongue_text.wf G N8 c8 = true := by kernel_rfl
theorem fs8 : FnScope N8 ["tongue"] c8 := ⟨rfl, rfl, rfl, by decide +kernel, by kernel_rfl, by decide +kernel, by decide +kernel⟩
/-- _law_begin -/
abbrev s9 : Stmt := top 29
def N9 : List Str := ["_law_script", "_law_number", "_law_cell"]
def c9 : Scope := ⟨.function, [("_law_script", .local), ("_law_number", .local), ("_law_cell", .local)], false, false, []⟩
def l_begin_F0b : Rf.Ss := (.cons (.set 1 (.bin .mod (.bin .add (.bin .add (.bin .mul (.var 1 ⟨117, 23, 117, 34⟩) (.int 69621 0 ⟨117, 37, 117, 42⟩) ⟨117, 23, 117, 42⟩) (.bin .mod (.var 2 ⟨117, 45, 117, 54⟩) (.int 2147483647 0 ⟨117, 57, 117, 67⟩) ⟨117, 45, 117, 67⟩) ⟨117, 23, 117, 67⟩) (.int 11 0 ⟨117, 70, 117, 72⟩) ⟨117, 23, 117, 72⟩) (.int 2147483647 0 ⟨117, 76, 117, 86⟩) ⟨117, 22, 117, 86⟩) ⟨117, 8, 117, 19⟩ ⟨117, 8, 117, 86⟩)
 .nil)
def l_begin_F0 : Rf.St := (.forr (.nm 2 ⟨116, 8, 116, 17⟩) (.seq (.var 0 ⟨116, 21, 116, 32⟩))
 l_begin_F0b ⟨116, 4, 117, 86⟩)
def b_l_begin : Ss := (.cons (.set 1 (.int 7 0 ⟨115, 18, 115, 19⟩) ⟨115, 4, 115, 15⟩ ⟨115, 4, 115, 19⟩)
 (.cons l_begin_F0
 (.cons (.ret (.new (.lst (.cons (.int 0 0 ⟨118, 12, 118, 13⟩) (.cons (.var 1 ⟨118, 15, 118, 26⟩) .nil)) ⟨118, 11, 118, 27⟩)) ⟨118, 4, 118, 27⟩)
 .nil)))
theorem py9 : defBody s9 = b_l_begin.py G N9 := by kernel_rfl
theorem sc9 : defScope s9 = c9 := by kernel_rfl
theorem wf9 : b_l_begin.wf G N9 c9 = true := by kernel_rfl
theorem fs9 : FnScope N9 ["_law_script"] c9 := ⟨rfl, rfl, rfl, by decide +kernel, by kernel_rfl, by decide +kernel, by decide +kernel⟩
/-- _law_next -/
abbrev s10 : Stmt := top 30
def N10 : List Str := ["_law_script", "_law_at", "_law_cell"]
def c10 : Scope := ⟨.function, [("_law_script", .local), ("_law_at", .local), ("_law_cell", .local), ("len", .globalImplicit)], false, false, []⟩
def l_next_I0a : Rf.Ss := (.cons (.set 2 (.ix (.var 0 ⟨123, 20, 123, 31⟩) (.bin .mod (.ix (.var 1 ⟨123, 32, 123, 39⟩) (.int 0 0 ⟨123, 40, 123, 41⟩) ⟨123, 32, 123, 42⟩) (.bfn .len (.cons (.var 0 ⟨123, 49, 123, 60⟩) .nil) ⟨123, 45, 123, 48⟩ ⟨123, 45, 123, 61⟩) ⟨123, 32, 123, 61⟩) ⟨123, 20, 123, 62⟩) ⟨123, 8, 123, 17⟩ ⟨123, 8, 123, 62⟩)
 .nil)
def l_next_I0 : Rf.St := (.ite (.cmp .gt (.bfn .len (.cons (.var 0 ⟨122, 11, 122, 22⟩) .nil) ⟨122, 7, 122, 10⟩ ⟨122, 7, 122, 23⟩) (.int 0 0 ⟨122, 26, 122, 27⟩) ⟨122, 7, 122, 27⟩)
 l_next_I0a
 .nil ⟨122, 4, 123, 62⟩)
def b_l_next : Ss := (.cons (.ist (.var 1 ⟨120, 4, 120, 11⟩) (.int 0 0 ⟨120, 12, 120, 13⟩) (.bin .add (.ix (.var 1 ⟨120, 17, 120, 24⟩) (.int 0 0 ⟨120, 25, 120, 26⟩) ⟨120, 17, 120, 27⟩) (.int 1 0 ⟨120, 30, 120, 31⟩) ⟨120, 17, 120, 31⟩) ⟨120, 4, 120, 14⟩ ⟨120, 4, 120, 31⟩)
 (.cons (.set 2 (.int 0 0 ⟨121, 16, 121, 17⟩) ⟨121, 4, 121, 13⟩ ⟨121, 4, 121, 17⟩)
 (.cons l_next_I0
 (.cons (.ist (.var 1 ⟨124, 4, 124, 11⟩) (.int 1 0 ⟨124, 12, 124, 13⟩) (.bin .mod (.bin .mul (.bin .add (.bin .add (.ix (.var 1 ⟨124, 18, 124, 25⟩) (.int 1 0 ⟨124, 26, 124, 27⟩) ⟨124, 18, 124, 28⟩) (.bin .mod (.var 2 ⟨124, 31, 124, 40⟩) (.int 2147483647 0 ⟨124, 43, 124, 53⟩) ⟨124, 31, 124, 53⟩) ⟨124, 18, 124, 53⟩) (.bin .mul (.ix (.var 1 ⟨124, 56, 124, 63⟩) (.int 0 0 ⟨124, 64, 124, 65⟩) ⟨124, 56, 124, 66⟩) (.ix (.var 1 ⟨124, 69, 124, 76⟩) (.int 0 0 ⟨124, 77, 124, 78⟩) ⟨124, 69, 124, 79⟩) ⟨124, 56, 124, 79⟩) ⟨124, 18, 124, 79⟩) (.int 48271 0 ⟨124, 83, 124, 88⟩) ⟨124, 17, 124, 88⟩) (.int 2147483629 0 ⟨124, 91, 124, 101⟩) ⟨124, 17, 124, 101⟩) ⟨124, 4, 124, 14⟩ ⟨124, 4, 124, 101⟩)
 (.cons (.ret (.bin .fdiv (.ix (.var 1 ⟨125, 11, 125, 18⟩) (.int 1 0 ⟨125, 19, 125, 20⟩) ⟨125, 11, 125, 21⟩) (.int 3 0 ⟨125, 25, 125, 26⟩) ⟨125, 11, 125, 26⟩) ⟨125, 4, 125, 26⟩)
 .nil)))))
theorem py10 : defBody s10 = b_l_next.py G N10 := by kernel_rfl
theorem sc10 : defScope s10 = c10 := by kernel_rfl
theorem wf10 : b_l_next.wf G N10 c10 = true := by kernel_rfl
theorem fs10 : FnScope N10 ["_law_script", "_law_at"] c10 := ⟨rfl, rfl, rfl, by decide +kernel, by kernel_rfl, by decide +kernel, by decide +kernel⟩
/-- _law_words -/
abbrev s11 : Stmt := top 31
def N11 : List Str := ["_law_script", "_law_at", "_law_many", "_law_letters", "_law_n", "_law_size", "_law_spot", "_law_stem", "_law_shift", ".0", "_law_k"]
def c11 : Scope := ⟨.function, [("_law_script", .local), ("_law_at", .local), ("_law_many", .local), ("_law_letters", .cell), ("_law_n", .local), ("_law_size", .local), ("_law_spot", .cell), ("_law_stem", .cell), ("_law_shift", .cell), ("_law_next", .globalImplicit), ("range", .globalImplicit)], false, false, [("fast", .str "_law_script"), ("fast", .str "_law_at"), ("fast", .str "_law_many"), ("fast", .str "_law_letters"), ("fast", .str "_law_n"), ("fast", .str "_law_size"), ("fast", .str "_law_spot"), ("fast", .str "_law_stem"), ("fast", .str "_law_shift"), ("fast", .str "_law_k")]⟩
def l_words_C0 : Rf.E := (.bin .add (.bin .add (.sl (.var 7 ⟨133, 12, 133, 21⟩) .no (.so (.var 6 ⟨133, 23, 133, 32⟩)) ⟨133, 22, 133, 32⟩ ⟨133, 12, 133, 33⟩) (.ix (.var 3 ⟨133, 36, 133, 48⟩) (.bin .mod (.bin .add (.var 8 ⟨133, 50, 133, 60⟩) (.var 10 ⟨133, 63, 133, 69⟩) ⟨133, 50, 133, 69⟩) (.int 26 0 ⟨133, 73, 133, 75⟩) ⟨133, 49, 133, 75⟩) ⟨133, 36, 133, 76⟩) ⟨133, 12, 133, 76⟩) (.sl (.var 7 ⟨133, 79, 133, 88⟩) (.so (.bin .add (.var 6 ⟨133, 89, 133, 98⟩) (.int 1 0 ⟨133, 101, 133, 102⟩) ⟨133, 89, 133, 102⟩)) .no ⟨133, 89, 133, 103⟩ ⟨133, 79, 133, 104⟩) ⟨133, 12, 133, 104⟩)
def b_l_words : Ss := (.cons (.set 3 (.str "abcdefghijklmnopqrstuvwxyz" 0 ⟨127, 19, 127, 47⟩) ⟨127, 4, 127, 16⟩ ⟨127, 4, 127, 47⟩)
 (.cons (.set 4 (.call 10 (.cons (.var 0 ⟨128, 23, 128, 34⟩) (.cons (.var 1 ⟨128, 36, 128, 43⟩) .nil)) ⟨128, 13, 128, 22⟩ ⟨128, 13, 128, 44⟩) ⟨128, 4, 128, 10⟩ ⟨128, 4, 128, 44⟩)
 (.cons (.set 5 (.bin .add (.int 2 0 ⟨129, 16, 129, 17⟩) (.bin .mod (.var 4 ⟨129, 20, 129, 26⟩) (.int 9 0 ⟨129, 29, 129, 30⟩) ⟨129, 20, 129, 30⟩) ⟨129, 16, 129, 30⟩) ⟨129, 4, 129, 13⟩ ⟨129, 4, 129, 30⟩)
 (.cons (.set 6 (.bin .mod (.bin .fdiv (.var 4 ⟨130, 16, 130, 22⟩) (.int 9 0 ⟨130, 26, 130, 27⟩) ⟨130, 16, 130, 27⟩) (.var 5 ⟨130, 30, 130, 39⟩) ⟨130, 16, 130, 39⟩) ⟨130, 4, 130, 13⟩ ⟨130, 4, 130, 39⟩)
 (.cons (.set 7 (.sl (.bin .mul (.bin .add (.ix (.var 3 ⟨131, 18, 131, 30⟩) (.bin .mod (.bin .fdiv (.var 4 ⟨131, 31, 131, 37⟩) (.int 81 0 ⟨131, 41, 131, 43⟩) ⟨131, 31, 131, 43⟩) (.int 26 0 ⟨131, 46, 131, 48⟩) ⟨131, 31, 131, 48⟩) ⟨131, 18, 131, 49⟩) (.ix (.var 3 ⟨131, 52, 131, 64⟩) (.bin .mod (.bin .fdiv (.var 4 ⟨131, 65, 131, 71⟩) (.int 2106 0 ⟨131, 75, 131, 79⟩) ⟨131, 65, 131, 79⟩) (.int 26 0 ⟨131, 82, 131, 84⟩) ⟨131, 65, 131, 84⟩) ⟨131, 52, 131, 85⟩) ⟨131, 18, 131, 85⟩) (.int 5 0 ⟨131, 89, 131, 90⟩) ⟨131, 17, 131, 90⟩) .no (.so (.var 5 ⟨131, 93, 131, 102⟩)) ⟨131, 92, 131, 102⟩ ⟨131, 16, 131, 103⟩) ⟨131, 4, 131, 13⟩ ⟨131, 4, 131, 103⟩)
 (.cons (.set 8 (.bin .mod (.bin .fdiv (.var 4 ⟨132, 17, 132, 23⟩) (.int 54756 0 ⟨132, 27, 132, 32⟩) ⟨132, 17, 132, 32⟩) (.int 26 0 ⟨132, 35, 132, 37⟩) ⟨132, 17, 132, 37⟩) ⟨132, 4, 132, 14⟩ ⟨132, 4, 132, 37⟩)
 (.cons (.ret (.comp l_words_C0 (.nm 10 ⟨133, 109, 133, 115⟩) (.rng (.cons (.var 2 ⟨133, 125, 133, 134⟩) .nil) ⟨133, 119, 133, 124⟩ ⟨133, 119, 133, 135⟩) .nil ⟨.function, [(".0", .local), ("_law_k", .local), ("_law_letters", .free), ("_law_shift", .free), ("_law_spot", .free), ("_law_stem", .free)], false, false, []⟩ [(".0", 9), ("_law_k", 10)] ⟨133, 11, 133, 136⟩) ⟨133, 4, 133, 136⟩)
 .nil)))))))
theorem py11 : defBody s11 = b_l_words.py G N11 := by kernel_rfl
theorem sc11 : defScope s11 = c11 := by kernel_rfl
theorem wf11 : b_l_words.wf G N11 c11 = true := by kernel_rfl
theorem fs11 : FnScope N11 ["_law_script", "_law_at", "_law_many"] c11 := ⟨rfl, rfl, rfl, by decide +kernel, by kernel_rfl, by decide +kernel, by decide +kernel⟩
/-- _law_melt -/
abbrev s12 : Stmt := top 32
def N12 : List Str := ["_law_script", "_law_at", "_law_words_here", "_law_n", "_law_one", "_law_other", "_law_ahead", "_law_behind", "_law_size"]
def c12 : Scope := ⟨.function, [("_law_script", .local), ("_law_at", .local), ("_law_words_here", .local), ("_law_n", .local), ("_law_one", .local), ("_law_other", .local), ("_law_ahead", .local), ("_law_behind", .local), ("_law_size", .local), ("_law_next", .globalImplicit), ("len", .globalImplicit), ("min", .globalImplicit), ("max", .globalImplicit)], false, false, []⟩
def b_l_melt : Ss := (.cons (.set 3 (.call 10 (.cons (.var 0 ⟨135, 23, 135, 34⟩) (.cons (.var 1 ⟨135, 36, 135, 43⟩) .nil)) ⟨135, 13, 135, 22⟩ ⟨135, 13, 135, 44⟩) ⟨135, 4, 135, 10⟩ ⟨135, 4, 135, 44⟩)
 (.cons (.set 4 (.ix (.var 2 ⟨136, 15, 136, 30⟩) (.bin .mod (.bin .fdiv (.var 3 ⟨136, 31, 136, 37⟩) (.int 9 0 ⟨136, 41, 136, 42⟩) ⟨136, 31, 136, 42⟩) (.bfn .len (.cons (.var 2 ⟨136, 49, 136, 64⟩) .nil) ⟨136, 45, 136, 48⟩ ⟨136, 45, 136, 65⟩) ⟨136, 31, 136, 65⟩) ⟨136, 15, 136, 66⟩) ⟨136, 4, 136, 12⟩ ⟨136, 4, 136, 66⟩)
 (.cons (.set 5 (.ix (.var 2 ⟨137, 17, 137, 32⟩) (.bin .mod (.call 10 (.cons (.var 0 ⟨137, 43, 137, 54⟩) (.cons (.var 1 ⟨137, 56, 137, 63⟩) .nil)) ⟨137, 33, 137, 42⟩ ⟨137, 33, 137, 64⟩) (.bfn .len (.cons (.var 2 ⟨137, 71, 137, 86⟩) .nil) ⟨137, 67, 137, 70⟩ ⟨137, 67, 137, 87⟩) ⟨137, 33, 137, 87⟩) ⟨137, 17, 137, 88⟩) ⟨137, 4, 137, 14⟩ ⟨137, 4, 137, 88⟩)
 (.cons (.set 6 (.sl (.var 4 ⟨138, 17, 138, 25⟩) (.so (.neg (.bin .add (.int 1 0 ⟨138, 28, 138, 29⟩) (.bin .mod (.var 3 ⟨138, 32, 138, 38⟩) (.int 3 0 ⟨138, 41, 138, 42⟩) ⟨138, 32, 138, 42⟩) ⟨138, 28, 138, 42⟩) ⟨138, 26, 138, 43⟩)) .no ⟨138, 26, 138, 44⟩ ⟨138, 17, 138, 45⟩) ⟨138, 4, 138, 14⟩ ⟨138, 4, 138, 45⟩)
 (.cons (.set 7 (.sl (.var 5 ⟨139, 18, 139, 28⟩) .no (.so (.bin .add (.int 1 0 ⟨139, 30, 139, 31⟩) (.bin .mod (.bin .fdiv (.var 3 ⟨139, 34, 139, 40⟩) (.int 3 0 ⟨139, 44, 139, 45⟩) ⟨139, 34, 139, 45⟩) (.int 3 0 ⟨139, 48, 139, 49⟩) ⟨139, 34, 139, 49⟩) ⟨139, 30, 139, 49⟩)) ⟨139, 29, 139, 49⟩ ⟨139, 18, 139, 50⟩) ⟨139, 4, 139, 15⟩ ⟨139, 4, 139, 50⟩)
 (.cons (.set 8 (.bfn .min (.cons (.int 6 0 ⟨140, 20, 140, 21⟩) (.cons (.bin .add (.bfn .max (.cons (.int 1 0 ⟨140, 27, 140, 28⟩) (.cons (.bin .sub (.bin .add (.bfn .len (.cons (.var 6 ⟨140, 34, 140, 44⟩) .nil) ⟨140, 30, 140, 33⟩ ⟨140, 30, 140, 45⟩) (.bfn .len (.cons (.var 7 ⟨140, 52, 140, 63⟩) .nil) ⟨140, 48, 140, 51⟩ ⟨140, 48, 140, 64⟩) ⟨140, 30, 140, 64⟩) (.int 1 0 ⟨140, 67, 140, 68⟩) ⟨140, 30, 140, 68⟩) .nil)) ⟨140, 23, 140, 26⟩ ⟨140, 23, 140, 69⟩) (.bin .mod (.call 10 (.cons (.var 0 ⟨140, 82, 140, 93⟩) (.cons (.var 1 ⟨140, 95, 140, 102⟩) .nil)) ⟨140, 72, 140, 81⟩ ⟨140, 72, 140, 103⟩) (.int 3 0 ⟨140, 106, 140, 107⟩) ⟨140, 72, 140, 107⟩) ⟨140, 23, 140, 107⟩) .nil)) ⟨140, 16, 140, 19⟩ ⟨140, 16, 140, 108⟩) ⟨140, 4, 140, 13⟩ ⟨140, 4, 140, 108⟩)
 (.cons (.ret (.tup (.cons (.var 6 ⟨141, 12, 141, 22⟩) (.cons (.var 7 ⟨141, 24, 141, 35⟩) (.cons (.sl (.bin .mul (.bin .add (.bin .add (.bin .add (.ix (.var 5 ⟨141, 39, 141, 49⟩) (.int 0 0 ⟨141, 50, 141, 51⟩) ⟨141, 39, 141, 52⟩) (.str "u" 0 ⟨141, 55, 141, 58⟩) ⟨141, 39, 141, 58⟩) (.ix (.var 4 ⟨141, 61, 141, 69⟩) (.int 0 0 ⟨141, 70, 141, 71⟩) ⟨141, 61, 141, 72⟩) ⟨141, 39, 141, 72⟩) (.str "e" 0 ⟨141, 75, 141, 78⟩) ⟨141, 39, 141, 78⟩) (.int 2 0 ⟨141, 82, 141, 83⟩) ⟨141, 38, 141, 83⟩) (.so (.bin .mod (.var 3 ⟨141, 85, 141, 91⟩) (.int 3 0 ⟨141, 94, 141, 95⟩) ⟨141, 85, 141, 95⟩)) (.so (.bin .add (.bin .mod (.var 3 ⟨141, 96, 141, 102⟩) (.int 3 0 ⟨141, 105, 141, 106⟩) ⟨141, 96, 141, 106⟩) (.var 8 ⟨141, 109, 141, 118⟩) ⟨141, 96, 141, 118⟩)) ⟨141, 85, 141, 118⟩ ⟨141, 37, 141, 119⟩) .nil))) 0 ⟨141, 11, 141, 120⟩) ⟨141, 4, 141, 120⟩)
 .nil)))))))
theorem py12 : defBody s12 = b_l_melt.py G N12 := by kernel_rfl
theorem sc12 : defScope s12 = c12 := by kernel_rfl
theorem wf12 : b_l_melt.wf G N12 c12 = true := by kernel_rfl
theorem fs12 : FnScope N12 ["_law_script", "_law_at", "_law_words_here"] c12 := ⟨rfl, rfl, rfl, by decide +kernel, by kernel_rfl, by decide +kernel, by decide +kernel⟩
/-- _law_melts -/
abbrev s13 : Stmt := top 33
def N13 : List Str := ["_law_script", "_law_at", "_law_words_here", "_law_most", "_law_many", ".0", "_law_k"]
def c13 : Scope := ⟨.function, [("_law_script", .cell), ("_law_at", .cell), ("_law_words_here", .cell), ("_law_most", .local), ("_law_many", .local), ("_law_next", .globalImplicit), ("range", .globalImplicit), ("min", .globalImplicit)], false, false, [("fast", .str "_law_script"), ("fast", .str "_law_at"), ("fast", .str "_law_words_here"), ("fast", .str "_law_most"), ("fast", .str "_law_many"), ("fast", .str "_law_k")]⟩
def l_melts_C0 : Rf.E := (.call 12 (.cons (.var 0 ⟨144, 22, 144, 33⟩) (.cons (.var 1 ⟨144, 35, 144, 42⟩) (.cons (.var 2 ⟨144, 44, 144, 59⟩) .nil))) ⟨144, 12, 144, 21⟩ ⟨144, 12, 144, 60⟩)
def b_l_melts : Ss := (.cons (.set 4 (.ix (.lst (.cons (.int 0 0 ⟨143, 17, 143, 18⟩) (.cons (.int 1 0 ⟨143, 20, 143, 21⟩) (.cons (.int 2 0 ⟨143, 23, 143, 24⟩) (.cons (.int 4 0 ⟨143, 26, 143, 27⟩) (.cons (.var 3 ⟨143, 29, 143, 38⟩) .nil))))) ⟨143, 16, 143, 39⟩) (.bin .mod (.call 10 (.cons (.var 0 ⟨143, 50, 143, 61⟩) (.cons (.var 1 ⟨143, 63, 143, 70⟩) .nil)) ⟨143, 40, 143, 49⟩ ⟨143, 40, 143, 71⟩) (.int 5 0 ⟨143, 74, 143, 75⟩) ⟨143, 40, 143, 75⟩) ⟨143, 16, 143, 76⟩) ⟨143, 4, 143, 13⟩ ⟨143, 4, 143, 76⟩)
 (.cons (.ret (.comp l_melts_C0 (.nm 6 ⟨144, 65, 144, 71⟩) (.rng (.cons (.bfn .min (.cons (.var 4 ⟨144, 85, 144, 94⟩) (.cons (.var 3 ⟨144, 96, 144, 105⟩) .nil)) ⟨144, 81, 144, 84⟩ ⟨144, 81, 144, 106⟩) .nil) ⟨144, 75, 144, 80⟩ ⟨144, 75, 144, 107⟩) .nil ⟨.function, [(".0", .local), ("_law_k", .local), ("_law_melt", .globalImplicit), ("_law_at", .free), ("_law_script", .free), ("_law_words_here", .free)], false, false, []⟩ [(".0", 5), ("_law_k", 6)] ⟨144, 11, 144, 108⟩) ⟨144, 4, 144, 108⟩)
 .nil))
theorem py13 : defBody s13 = b_l_melts.py G N13 := by kernel_rfl
theorem sc13 : defScope s13 = c13 := by kernel_rfl
theorem wf13 : b_l_melts.wf G N13 c13 = true := by kernel_rfl
theorem fs13 : FnScope N13 ["_law_script", "_law_at", "_law_words_here", "_law_most"] c13 := ⟨rfl, rfl, rfl, by decide +kernel, by kernel_rfl, by decide +kernel, by decide +kernel⟩
/-- _law_great -/
abbrev s14 : Stmt := top 34
def N14 : List Str := ["_law_script", "_law_at", "_law_n"]
def c14 : Scope := ⟨.function, [("_law_script", .local), ("_law_at", .local), ("_law_n", .local), ("_law_next", .globalImplicit)], false, false, []⟩
def l_great_I0a : Rf.Ss := (.cons (.ret (.bin .sub (.bin .sub (.bin .pow (.int 10 0 ⟨148, 15, 148, 17⟩) (.int 60 0 ⟨148, 21, 148, 23⟩) ⟨148, 15, 148, 23⟩) (.int 1 0 ⟨148, 26, 148, 27⟩) ⟨148, 15, 148, 27⟩) (.bin .mod (.bin .fdiv (.var 2 ⟨148, 30, 148, 36⟩) (.int 7 0 ⟨148, 40, 148, 41⟩) ⟨148, 30, 148, 41⟩) (.int 3 0 ⟨148, 44, 148, 45⟩) ⟨148, 30, 148, 45⟩) ⟨148, 15, 148, 45⟩) ⟨148, 8, 148, 45⟩)
 .nil)
def l_great_I0 : Rf.St := (.ite (.cmp .eq (.bin .mod (.var 2 ⟨147, 7, 147, 13⟩) (.int 7 0 ⟨147, 16, 147, 17⟩) ⟨147, 7, 147, 17⟩) (.int 0 0 ⟨147, 21, 147, 22⟩) ⟨147, 7, 147, 22⟩)
 l_great_I0a
 .nil ⟨147, 4, 148, 45⟩)
def b_l_great : Ss := (.cons (.set 2 (.call 10 (.cons (.var 0 ⟨146, 23, 146, 34⟩) (.cons (.var 1 ⟨146, 36, 146, 43⟩) .nil)) ⟨146, 13, 146, 22⟩ ⟨146, 13, 146, 44⟩) ⟨146, 4, 146, 10⟩ ⟨146, 4, 146, 44⟩)
 (.cons l_great_I0
 (.cons (.ret (.bin .mod (.bin .mul (.bin .mul (.bin .mul (.bin .mul (.bin .mul (.bin .mul (.bin .mul (.var 2 ⟨149, 11, 149, 17⟩) (.var 2 ⟨149, 20, 149, 26⟩) ⟨149, 11, 149, 26⟩) (.var 2 ⟨149, 29, 149, 35⟩) ⟨149, 11, 149, 35⟩) (.var 2 ⟨149, 38, 149, 44⟩) ⟨149, 11, 149, 44⟩) (.var 2 ⟨149, 47, 149, 53⟩) ⟨149, 11, 149, 53⟩) (.var 2 ⟨149, 56, 149, 62⟩) ⟨149, 11, 149, 62⟩) (.var 2 ⟨149, 65, 149, 71⟩) ⟨149, 11, 149, 71⟩) (.var 2 ⟨149, 74, 149, 80⟩) ⟨149, 11, 149, 80⟩) (.ix (.lst (.cons (.int 10 0 ⟨149, 84, 149, 86⟩) (.cons (.bin .pow (.int 10 0 ⟨149, 88, 149, 90⟩) (.int 20 0 ⟨149, 94, 149, 96⟩) ⟨149, 88, 149, 96⟩) (.cons (.bin .pow (.int 10 0 ⟨149, 98, 149, 100⟩) (.int 59 0 ⟨149, 104, 149, 106⟩) ⟨149, 98, 149, 106⟩) .nil))) ⟨149, 83, 149, 107⟩) (.bin .mod (.var 2 ⟨149, 108, 149, 114⟩) (.int 3 0 ⟨149, 117, 149, 118⟩) ⟨149, 108, 149, 118⟩) ⟨149, 83, 149, 119⟩) ⟨149, 11, 149, 119⟩) ⟨149, 4, 149, 119⟩)
 .nil)))
theorem py14 : defBody s14 = b_l_great.py G N14 := by kernel_rfl
theorem sc14 : defScope s14 = c14 := by kernel_rfl
theorem wf14 : b_l_great.wf G N14 c14 = true := by kernel_rfl
theorem fs14 : FnScope N14 ["_law_script", "_law_at"] c14 := ⟨rfl, rfl, rfl, by decide +kernel, by kernel_rfl, by decide +kernel, by decide +kernel⟩
/-- _law_items -/
abbrev s15 : Stmt := top 35
def N15 : List Str := ["_law_script", "_law_at", "_law_words_here", "_law_signs", "_law_things", "_law_k", "_law_items_here"]
def c15 : Scope := ⟨.function, [("_law_script", .local), ("_law_at", .local), ("_law_words_here", .local), ("_law_signs", .local), ("_law_things", .local), ("_law_k", .local), ("_law_items_here", .local), ("list", .globalImplicit), ("range", .globalImplicit), ("_law_next", .globalImplicit), ("len", .globalImplicit)], false, false, []⟩
def l_items_I0a : Rf.Ss := (.cons (.mut .append (.var 4 ⟨154, 12, 154, 23⟩) (.cons (.ix (.var 2 ⟨154, 31, 154, 46⟩) (.bin .mod (.call 10 (.cons (.var 0 ⟨154, 57, 154, 68⟩) (.cons (.var 1 ⟨154, 70, 154, 77⟩) .nil)) ⟨154, 47, 154, 56⟩ ⟨154, 47, 154, 78⟩) (.bfn .len (.cons (.var 2 ⟨154, 85, 154, 100⟩) .nil) ⟨154, 81, 154, 84⟩ ⟨154, 81, 154, 101⟩) ⟨154, 47, 154, 101⟩) ⟨154, 31, 154, 102⟩) .nil) ⟨154, 12, 154, 30⟩ ⟨154, 12, 154, 103⟩ ⟨154, 12, 154, 103⟩)
 .nil)
def l_items_I0 : Rf.St := (.ite (.cmp .lt (.bfn .len (.cons (.var 4 ⟨153, 15, 153, 26⟩) .nil) ⟨153, 11, 153, 14⟩ ⟨153, 11, 153, 27⟩) (.int 8 0 ⟨153, 30, 153, 31⟩) ⟨153, 11, 153, 31⟩)
 l_items_I0a
 .nil ⟨153, 8, 154, 103⟩)
def l_items_F0b : Rf.Ss := (.cons l_items_I0
 .nil)
def l_items_F0 : Rf.St := (.forr (.nm 5 ⟨152, 8, 152, 14⟩) (.rng (.cons (.bin .add (.int 1 0 ⟨152, 24, 152, 25⟩) (.bin .mul (.bin .fdiv (.bin .mod (.call 10 (.cons (.var 0 ⟨152, 38, 152, 49⟩) (.cons (.var 1 ⟨152, 51, 152, 58⟩) .nil)) ⟨152, 28, 152, 37⟩ ⟨152, 28, 152, 59⟩) (.int 3 0 ⟨152, 62, 152, 63⟩) ⟨152, 28, 152, 63⟩) (.int 2 0 ⟨152, 67, 152, 68⟩) ⟨152, 28, 152, 68⟩) (.bin .mod (.call 10 (.cons (.var 0 ⟨152, 82, 152, 93⟩) (.cons (.var 1 ⟨152, 95, 152, 102⟩) .nil)) ⟨152, 72, 152, 81⟩ ⟨152, 72, 152, 103⟩) (.int 3 0 ⟨152, 106, 152, 107⟩) ⟨152, 72, 152, 107⟩) ⟨152, 28, 152, 108⟩) ⟨152, 24, 152, 108⟩) .nil) ⟨152, 18, 152, 23⟩ ⟨152, 18, 152, 109⟩)
 l_items_F0b ⟨152, 4, 154, 103⟩)
def l_items_I1a : Rf.Ss := (.cons (.mut .append (.var 6 ⟨158, 12, 158, 27⟩) (.cons (.str "+" 0 ⟨158, 35, 158, 38⟩) .nil) ⟨158, 12, 158, 34⟩ ⟨158, 12, 158, 39⟩ ⟨158, 12, 158, 39⟩)
 .nil)
def l_items_I1 : Rf.St := (.ite (.bop true (.cons (.ch2 .lt .lt (.int 0 0 ⟨157, 11, 157, 12⟩) (.bfn .len (.cons (.var 6 ⟨157, 19, 157, 34⟩) .nil) ⟨157, 15, 157, 18⟩ ⟨157, 15, 157, 35⟩) (.bin .sub (.int 8 0 ⟨157, 38, 157, 39⟩) (.bfn .len (.cons (.var 4 ⟨157, 46, 157, 57⟩) .nil) ⟨157, 42, 157, 45⟩ ⟨157, 42, 157, 58⟩) ⟨157, 38, 157, 58⟩) ⟨157, 11, 157, 58⟩) (.cons (.cmp .eq (.bin .mod (.call 10 (.cons (.var 0 ⟨157, 73, 157, 84⟩) (.cons (.var 1 ⟨157, 86, 157, 93⟩) .nil)) ⟨157, 63, 157, 72⟩ ⟨157, 63, 157, 94⟩) (.int 2 0 ⟨157, 97, 157, 98⟩) ⟨157, 63, 157, 98⟩) (.int 0 0 ⟨157, 102, 157, 103⟩) ⟨157, 63, 157, 103⟩) .nil)) ⟨157, 11, 157, 103⟩)
 l_items_I1a
 .nil ⟨157, 8, 158, 39⟩)
def l_items_W0b : Rf.Ss := (.cons l_items_I1
 (.cons (.mut .append (.var 6 ⟨159, 8, 159, 23⟩) (.cons (.popx (.var 4 ⟨159, 31, 159, 42⟩) (.bin .mod (.call 10 (.cons (.var 0 ⟨159, 57, 159, 68⟩) (.cons (.var 1 ⟨159, 70, 159, 77⟩) .nil)) ⟨159, 47, 159, 56⟩ ⟨159, 47, 159, 78⟩) (.bfn .len (.cons (.var 4 ⟨159, 85, 159, 96⟩) .nil) ⟨159, 81, 159, 84⟩ ⟨159, 81, 159, 97⟩) ⟨159, 47, 159, 97⟩) ⟨159, 31, 159, 46⟩ ⟨159, 31, 159, 98⟩) .nil) ⟨159, 8, 159, 30⟩ ⟨159, 8, 159, 99⟩ ⟨159, 8, 159, 99⟩)
 .nil))
def l_items_W0 : Rf.St := (.whl 1000000 (.cmp .gt (.bfn .len (.cons (.var 4 ⟨156, 14, 156, 25⟩) .nil) ⟨156, 10, 156, 13⟩ ⟨156, 10, 156, 26⟩) (.int 0 0 ⟨156, 29, 156, 30⟩) ⟨156, 10, 156, 30⟩)
 l_items_W0b ⟨156, 4, 159, 99⟩)
def b_l_items : Ss := (.cons (.set 4 (.new (.bfn .list (.cons (.var 3 ⟨151, 23, 151, 33⟩) .nil) ⟨151, 18, 151, 22⟩ ⟨151, 18, 151, 34⟩)) ⟨151, 4, 151, 15⟩ ⟨151, 4, 151, 34⟩)
 (.cons l_items_F0
 (.cons (.set 6 (.new (.lst .nil ⟨155, 22, 155, 24⟩)) ⟨155, 4, 155, 19⟩ ⟨155, 4, 155, 24⟩)
 (.cons l_items_W0
 (.frz 4 (.frz 6 (.cons (.ret (.var 6 ⟨160, 11, 160, 26⟩) ⟨160, 4, 160, 26⟩)
 .nil)))))))
theorem py15 : defBody s15 = b_l_items.py G N15 := by kernel_rfl
theorem sc15 : defScope s15 = c15 := by kernel_rfl
theorem wf15 : b_l_items.wf G N15 c15 = true := by kernel_rfl
theorem fs15 : FnScope N15 ["_law_script", "_law_at", "_law_words_here", "_law_signs"] c15 := ⟨rfl, rfl, rfl, by decide +kernel, by kernel_rfl, by decide +kernel, by decide +kernel⟩
/-- _law_rule -/
abbrev s16 : Stmt := top 36
def N16 : List Str := ["_law_script", "_law_at", "_law_words_here", "_law_small", "_law_n", "_law_low", "_law_base", "_law_high", "_law_first", "_law_last", "_law_signs", "_law_more", ".0", "_law_sign"]
def c16 : Scope := ⟨.function, [("_law_script", .cell), ("_law_at", .cell), ("_law_words_here", .local), ("_law_small", .local), ("_law_n", .local), ("_law_low", .local), ("_law_base", .local), ("_law_high", .local), ("_law_first", .local), ("_law_last", .local), ("_law_signs", .local), ("_law_more", .local), ("_law_next", .globalImplicit), ("_law_great", .globalImplicit), ("len", .globalImplicit), ("_law_items", .globalImplicit)], false, false, [("fast", .str "_law_script"), ("fast", .str "_law_at"), ("fast", .str "_law_words_here"), ("fast", .str "_law_small"), ("fast", .str "_law_n"), ("fast", .str "_law_low"), ("fast", .str "_law_base"), ("fast", .str "_law_high"), ("fast", .str "_law_first"), ("fast", .str "_law_last"), ("fast", .str "_law_signs"), ("fast", .str "_law_sign"), ("fast", .str "_law_more")]⟩
def l_rule_I0a : Rf.Ss := (.cons (.set 5 (.bin .fdiv (.bin .mul (.call 14 (.cons (.var 0 ⟨166, 30, 166, 41⟩) (.cons (.var 1 ⟨166, 43, 166, 50⟩) .nil)) ⟨166, 19, 166, 29⟩ ⟨166, 19, 166, 51⟩) (.int 9 0 ⟨166, 54, 166, 55⟩) ⟨166, 19, 166, 55⟩) (.int 10 0 ⟨166, 59, 166, 61⟩) ⟨166, 19, 166, 61⟩) ⟨166, 8, 166, 16⟩ ⟨166, 8, 166, 61⟩)
 (.cons (.set 6 (.bin .add (.int 2 0 ⟨167, 20, 167, 21⟩) (.bin .fdiv (.bin .mul (.call 14 (.cons (.var 0 ⟨167, 35, 167, 46⟩) (.cons (.var 1 ⟨167, 48, 167, 55⟩) .nil)) ⟨167, 24, 167, 34⟩ ⟨167, 24, 167, 56⟩) (.int 9 0 ⟨167, 59, 167, 60⟩) ⟨167, 24, 167, 60⟩) (.int 10 0 ⟨167, 64, 167, 66⟩) ⟨167, 24, 167, 66⟩) ⟨167, 20, 167, 66⟩) ⟨167, 8, 167, 17⟩ ⟨167, 8, 167, 66⟩)
 .nil))
def l_rule_I0 : Rf.St := (.ite (.bop true (.cons (.not (.var 3 ⟨165, 11, 165, 21⟩) ⟨165, 7, 165, 21⟩) (.cons (.cmp .gt (.bin .mod (.var 4 ⟨165, 26, 165, 32⟩) (.int 3 0 ⟨165, 35, 165, 36⟩) ⟨165, 26, 165, 36⟩) (.int 0 0 ⟨165, 39, 165, 40⟩) ⟨165, 26, 165, 40⟩) .nil)) ⟨165, 7, 165, 40⟩)
 l_rule_I0a
 .nil ⟨165, 4, 167, 66⟩)
def l_rule_I1a : Rf.Ss := (.cons (.ret (.tup (.cons (.var 5 ⟨169, 16, 169, 24⟩) (.cons (.var 5 ⟨169, 26, 169, 34⟩) (.cons (.int 2 0 ⟨169, 36, 169, 37⟩) (.cons (.bin .mod (.var 5 ⟨169, 39, 169, 47⟩) (.int 2 0 ⟨169, 50, 169, 51⟩) ⟨169, 39, 169, 51⟩) (.cons (.bin .mod (.var 5 ⟨169, 53, 169, 61⟩) (.int 2 0 ⟨169, 64, 169, 65⟩) ⟨169, 53, 169, 65⟩) (.cons (.lst (.cons (.ix (.var 2 ⟨169, 68, 169, 83⟩) (.bin .mod (.bin .fdiv (.var 4 ⟨169, 84, 169, 90⟩) (.int 36 0 ⟨169, 94, 169, 96⟩) ⟨169, 84, 169, 96⟩) (.bfn .len (.cons (.var 2 ⟨169, 103, 169, 118⟩) .nil) ⟨169, 99, 169, 102⟩ ⟨169, 99, 169, 119⟩) ⟨169, 84, 169, 119⟩) ⟨169, 68, 169, 120⟩) .nil) ⟨169, 67, 169, 121⟩) .nil)))))) 0 ⟨169, 15, 169, 122⟩) ⟨169, 8, 169, 122⟩)
 .nil)
def l_rule_I1 : Rf.St := (.ite (.cmp .eq (.bin .mod (.var 4 ⟨168, 7, 168, 13⟩) (.int 4 0 ⟨168, 16, 168, 17⟩) ⟨168, 7, 168, 17⟩) (.int 0 0 ⟨168, 21, 168, 22⟩) ⟨168, 7, 168, 22⟩)
 l_rule_I1a
 .nil ⟨168, 4, 169, 122⟩)
def l_rule_I2a : Rf.Ss := (.cons (.set 8 (.bin .mod (.call 10 (.cons (.var 0 ⟨174, 31, 174, 42⟩) (.cons (.var 1 ⟨174, 44, 174, 51⟩) .nil)) ⟨174, 21, 174, 30⟩ ⟨174, 21, 174, 52⟩) (.var 6 ⟨174, 55, 174, 64⟩) ⟨174, 21, 174, 64⟩) ⟨174, 8, 174, 18⟩ ⟨174, 8, 174, 64⟩)
 (.cons (.set 9 (.bin .add (.var 8 ⟨175, 20, 175, 30⟩) (.bin .mod (.ix (.lst (.cons (.int 0 0 ⟨175, 34, 175, 35⟩) (.cons (.bin .mod (.var 4 ⟨175, 37, 175, 43⟩) (.int 40 0 ⟨175, 46, 175, 48⟩) ⟨175, 37, 175, 48⟩) .nil)) ⟨175, 33, 175, 49⟩) (.bin .mod (.bin .fdiv (.var 4 ⟨175, 50, 175, 56⟩) (.int 36 0 ⟨175, 60, 175, 62⟩) ⟨175, 50, 175, 62⟩) (.int 2 0 ⟨175, 65, 175, 66⟩) ⟨175, 50, 175, 66⟩) ⟨175, 33, 175, 67⟩) (.bin .sub (.var 6 ⟨175, 71, 175, 80⟩) (.var 8 ⟨175, 83, 175, 93⟩) ⟨175, 71, 175, 93⟩) ⟨175, 33, 175, 94⟩) ⟨175, 20, 175, 94⟩) ⟨175, 8, 175, 17⟩ ⟨175, 8, 175, 94⟩)
 .nil))
def l_rule_I2 : Rf.St := (.ite (.cmp .gt (.bin .mod (.bin .fdiv (.var 4 ⟨173, 7, 173, 13⟩) (.int 12 0 ⟨173, 17, 173, 19⟩) ⟨173, 7, 173, 19⟩) (.int 3 0 ⟨173, 22, 173, 23⟩) ⟨173, 7, 173, 23⟩) (.int 0 0 ⟨173, 26, 173, 27⟩) ⟨173, 7, 173, 27⟩)
 l_rule_I2a
 .nil ⟨173, 4, 175, 94⟩)
def l_rule_I3a : Rf.Ss := (.cons (.set 10 (.lst (.cons (.ix (.str "RK" 0 ⟨178, 22, 178, 26⟩) (.bin .mod (.bin .fdiv (.var 4 ⟨178, 27, 178, 33⟩) (.int 216 0 ⟨178, 37, 178, 40⟩) ⟨178, 27, 178, 40⟩) (.int 2 0 ⟨178, 43, 178, 44⟩) ⟨178, 27, 178, 44⟩) ⟨178, 22, 178, 45⟩) .nil) ⟨178, 21, 178, 46⟩) ⟨178, 8, 178, 18⟩ ⟨178, 8, 178, 46⟩)
 .nil)
def l_rule_I3 : Rf.St := (.ite (.bop true (.cons (.cmp .ne (.var 8 ⟨177, 7, 177, 17⟩) (.var 9 ⟨177, 21, 177, 30⟩) ⟨177, 7, 177, 30⟩) (.cons (.cmp .eq (.var 10 ⟨177, 35, 177, 45⟩) (.lst .nil ⟨177, 49, 177, 51⟩) ⟨177, 35, 177, 51⟩) .nil)) ⟨177, 7, 177, 51⟩)
 l_rule_I3a
 .nil ⟨177, 4, 178, 46⟩)
def l_rule_C0 : Rf.E := (.var 13 ⟨179, 17, 179, 26⟩)
def l_rule_I4a : Rf.Ss := (.cons (.set 11 (.lst (.cons (.ix (.str "QNWU" 0 ⟨181, 21, 181, 27⟩) (.bin .mod (.bin .fdiv (.var 4 ⟨181, 28, 181, 34⟩) (.int 432 0 ⟨181, 38, 181, 41⟩) ⟨181, 28, 181, 41⟩) (.int 4 0 ⟨181, 44, 181, 45⟩) ⟨181, 28, 181, 45⟩) ⟨181, 21, 181, 46⟩) .nil) ⟨181, 20, 181, 47⟩) ⟨181, 8, 181, 17⟩ ⟨181, 8, 181, 47⟩)
 .nil)
def l_rule_I4 : Rf.St := (.ite (.bop true (.cons (.cmp .ne (.bin .fdiv (.var 5 ⟨180, 7, 180, 15⟩) (.var 6 ⟨180, 19, 180, 28⟩) ⟨180, 7, 180, 28⟩) (.bin .fdiv (.var 7 ⟨180, 32, 180, 41⟩) (.var 6 ⟨180, 45, 180, 54⟩) ⟨180, 32, 180, 54⟩) ⟨180, 7, 180, 54⟩) (.cons (.cmp .eq (.var 11 ⟨180, 59, 180, 68⟩) (.lst .nil ⟨180, 72, 180, 74⟩) ⟨180, 59, 180, 74⟩) .nil)) ⟨180, 7, 180, 74⟩)
 l_rule_I4a
 .nil ⟨180, 4, 181, 47⟩)
def b_l_rule : Ss := (.cons (.set 4 (.call 10 (.cons (.var 0 ⟨162, 23, 162, 34⟩) (.cons (.var 1 ⟨162, 36, 162, 43⟩) .nil)) ⟨162, 13, 162, 22⟩ ⟨162, 13, 162, 44⟩) ⟨162, 4, 162, 10⟩ ⟨162, 4, 162, 44⟩)
 (.cons (.set 5 (.bin .mod (.bin .fdiv (.var 4 ⟨163, 15, 163, 21⟩) (.int 9 0 ⟨163, 25, 163, 26⟩) ⟨163, 15, 163, 26⟩) (.int 100 0 ⟨163, 29, 163, 32⟩) ⟨163, 15, 163, 32⟩) ⟨163, 4, 163, 12⟩ ⟨163, 4, 163, 32⟩)
 (.cons (.set 6 (.bin .add (.int 2 0 ⟨164, 16, 164, 17⟩) (.bin .mod (.bin .fdiv (.var 4 ⟨164, 20, 164, 26⟩) (.int 900 0 ⟨164, 30, 164, 33⟩) ⟨164, 20, 164, 33⟩) (.int 30 0 ⟨164, 36, 164, 38⟩) ⟨164, 20, 164, 38⟩) ⟨164, 16, 164, 38⟩) ⟨164, 4, 164, 13⟩ ⟨164, 4, 164, 38⟩)
 (.cons l_rule_I0
 (.cons l_rule_I1
 (.cons (.set 7 (.bin .add (.var 5 ⟨170, 16, 170, 24⟩) (.ix (.lst (.cons (.int 0 0 ⟨170, 28, 170, 29⟩) (.cons (.int 1 0 ⟨170, 31, 170, 32⟩) (.cons (.bin .mod (.var 4 ⟨170, 34, 170, 40⟩) (.int 50 0 ⟨170, 43, 170, 45⟩) ⟨170, 34, 170, 45⟩) .nil))) ⟨170, 27, 170, 46⟩) (.bin .mod (.bin .fdiv (.var 4 ⟨170, 47, 170, 53⟩) (.int 4 0 ⟨170, 57, 170, 58⟩) ⟨170, 47, 170, 58⟩) (.int 3 0 ⟨170, 61, 170, 62⟩) ⟨170, 47, 170, 62⟩) ⟨170, 27, 170, 63⟩) ⟨170, 16, 170, 63⟩) ⟨170, 4, 170, 13⟩ ⟨170, 4, 170, 63⟩)
 (.cons (.set 8 (.bin .mod (.var 5 ⟨171, 17, 171, 25⟩) (.var 6 ⟨171, 28, 171, 37⟩) ⟨171, 17, 171, 37⟩) ⟨171, 4, 171, 14⟩ ⟨171, 4, 171, 37⟩)
 (.cons (.set 9 (.var 8 ⟨172, 16, 172, 26⟩) ⟨172, 4, 172, 13⟩ ⟨172, 4, 172, 26⟩)
 (.cons l_rule_I2
 (.cons (.set 10 (.sl (.lst (.cons (.str "R" 0 ⟨176, 18, 176, 21⟩) (.cons (.str "K" 0 ⟨176, 23, 176, 26⟩) .nil)) ⟨176, 17, 176, 27⟩) .no (.so (.bin .mod (.bin .fdiv (.var 4 ⟨176, 29, 176, 35⟩) (.int 72 0 ⟨176, 39, 176, 41⟩) ⟨176, 29, 176, 41⟩) (.int 3 0 ⟨176, 44, 176, 45⟩) ⟨176, 29, 176, 45⟩)) ⟨176, 28, 176, 45⟩ ⟨176, 17, 176, 46⟩) ⟨176, 4, 176, 14⟩ ⟨176, 4, 176, 46⟩)
 (.cons l_rule_I3
 (.cons (.set 11 (.comp l_rule_C0 (.nm 13 ⟨179, 31, 179, 40⟩) (.seq (.str "QNWU" 0 ⟨179, 44, 179, 50⟩)) (.cons (.cmp .eq (.bin .mod (.call 10 (.cons (.var 0 ⟨179, 64, 179, 75⟩) (.cons (.var 1 ⟨179, 77, 179, 84⟩) .nil)) ⟨179, 54, 179, 63⟩ ⟨179, 54, 179, 85⟩) (.int 4 0 ⟨179, 88, 179, 89⟩) ⟨179, 54, 179, 89⟩) (.int 0 0 ⟨179, 93, 179, 94⟩) ⟨179, 54, 179, 94⟩) .nil) ⟨.function, [(".0", .local), ("_law_sign", .local), ("_law_next", .globalImplicit), ("_law_at", .free), ("_law_script", .free)], false, false, []⟩ [(".0", 12), ("_law_sign", 13)] ⟨179, 16, 179, 95⟩) ⟨179, 4, 179, 13⟩ ⟨179, 4, 179, 95⟩)
 (.cons l_rule_I4
 (.cons (.ret (.tup (.cons (.var 5 ⟨182, 12, 182, 20⟩) (.cons (.var 7 ⟨182, 22, 182, 31⟩) (.cons (.var 6 ⟨182, 33, 182, 42⟩) (.cons (.var 8 ⟨182, 44, 182, 54⟩) (.cons (.var 9 ⟨182, 56, 182, 65⟩) (.cons (.call 15 (.cons (.var 0 ⟨182, 78, 182, 89⟩) (.cons (.var 1 ⟨182, 91, 182, 98⟩) (.cons (.var 2 ⟨182, 100, 182, 115⟩) (.cons (.bin .add (.var 10 ⟨182, 117, 182, 127⟩) (.var 11 ⟨182, 130, 182, 139⟩) ⟨182, 117, 182, 139⟩) .nil)))) ⟨182, 67, 182, 77⟩ ⟨182, 67, 182, 140⟩) .nil)))))) 0 ⟨182, 11, 182, 141⟩) ⟨182, 4, 182, 141⟩)
 .nil))))))))))))))
theorem py16 : defBody s16 = b_l_rule.py G N16 := by kernel_rfl
theorem sc16 : defScope s16 = c16 := by kernel_rfl
theorem wf16 : b_l_rule.wf G N16 c16 = true := by kernel_rfl
theorem fs16 : FnScope N16 ["_law_script", "_law_at", "_law_words_here", "_law_small"] c16 := ⟨rfl, rfl, rfl, by decide +kernel, by kernel_rfl, by decide +kernel, by decide +kernel⟩
/-- _law_kind -/
abbrev s17 : Stmt := top 37
def N17 : List Str := ["_law_script", "_law_at", "_law_words_here", "_law_k", "_law_n", "_law_title", "_law_turns", "_law_j"]
def c17 : Scope := ⟨.function, [("_law_script", .local), ("_law_at", .local), ("_law_words_here", .local), ("_law_k", .local), ("_law_n", .local), ("_law_title", .local), ("_law_turns", .local), ("_law_j", .local), ("_law_next", .globalImplicit), ("int", .globalImplicit), ("range", .globalImplicit), ("len", .globalImplicit)], false, false, []⟩
def l_kind_F0b : Rf.Ss := (.cons (.mut .append (.var 6 ⟨188, 8, 188, 18⟩) (.cons (.tup (.cons (.ix (.var 2 ⟨188, 27, 188, 42⟩) (.bin .mod (.bin .add (.bin .fdiv (.var 4 ⟨188, 44, 188, 50⟩) (.int 4 0 ⟨188, 54, 188, 55⟩) ⟨188, 44, 188, 55⟩) (.var 7 ⟨188, 58, 188, 64⟩) ⟨188, 44, 188, 64⟩) (.bfn .len (.cons (.var 2 ⟨188, 72, 188, 87⟩) .nil) ⟨188, 68, 188, 71⟩ ⟨188, 68, 188, 88⟩) ⟨188, 43, 188, 88⟩) ⟨188, 27, 188, 89⟩) (.cons (.ix (.var 2 ⟨188, 91, 188, 106⟩) (.bin .mod (.call 10 (.cons (.var 0 ⟨188, 117, 188, 128⟩) (.cons (.var 1 ⟨188, 130, 188, 137⟩) .nil)) ⟨188, 107, 188, 116⟩ ⟨188, 107, 188, 138⟩) (.bfn .len (.cons (.var 2 ⟨188, 145, 188, 160⟩) .nil) ⟨188, 141, 188, 144⟩ ⟨188, 141, 188, 161⟩) ⟨188, 107, 188, 161⟩) ⟨188, 91, 188, 162⟩) .nil)) 0 ⟨188, 26, 188, 163⟩) .nil) ⟨188, 8, 188, 25⟩ ⟨188, 8, 188, 164⟩ ⟨188, 8, 188, 164⟩)
 .nil)
def l_kind_F0 : Rf.St := (.forr (.nm 7 ⟨187, 8, 187, 14⟩) (.rng (.cons (.ix (.lst (.cons (.int 0 0 ⟨187, 25, 187, 26⟩) (.cons (.int 1 0 ⟨187, 28, 187, 29⟩) (.cons (.int 2 0 ⟨187, 31, 187, 32⟩) (.cons (.int 12 0 ⟨187, 34, 187, 36⟩) .nil)))) ⟨187, 24, 187, 37⟩) (.bin .mod (.var 4 ⟨187, 38, 187, 44⟩) (.int 4 0 ⟨187, 47, 187, 48⟩) ⟨187, 38, 187, 48⟩) ⟨187, 24, 187, 49⟩) .nil) ⟨187, 18, 187, 23⟩ ⟨187, 18, 187, 50⟩)
 l_kind_F0b ⟨187, 4, 188, 164⟩)
def b_l_kind : Ss := (.cons (.set 4 (.call 10 (.cons (.var 0 ⟨184, 23, 184, 34⟩) (.cons (.var 1 ⟨184, 36, 184, 43⟩) .nil)) ⟨184, 13, 184, 22⟩ ⟨184, 13, 184, 44⟩) ⟨184, 4, 184, 10⟩ ⟨184, 4, 184, 44⟩)
 (.cons (.set 5 (.ix (.ix (.lst (.cons (.lst (.cons (.str "a" 0 ⟨185, 19, 185, 22⟩) (.cons (.str "which" 0 ⟨185, 24, 185, 31⟩) (.cons (.str "partsofa" 0 ⟨185, 33, 185, 43⟩) (.cons (.str "share" 0 ⟨185, 45, 185, 52⟩) .nil)))) ⟨185, 18, 185, 53⟩) (.cons (.lst (.cons (.str "kind" 0 ⟨185, 56, 185, 62⟩) (.cons (.str "turn" 0 ⟨185, 64, 185, 70⟩) (.cons (.str "rule" 0 ⟨185, 72, 185, 78⟩) (.cons (.str "bound" 0 ⟨185, 80, 185, 87⟩) .nil)))) ⟨185, 55, 185, 88⟩) .nil)) ⟨185, 17, 185, 89⟩) (.bfn .int (.cons (.cmp .eq (.ix (.var 2 ⟨185, 94, 185, 109⟩) (.int 0 0 ⟨185, 110, 185, 111⟩) ⟨185, 94, 185, 112⟩) (.str "rule" 0 ⟨185, 116, 185, 122⟩) ⟨185, 94, 185, 122⟩) .nil) ⟨185, 90, 185, 93⟩ ⟨185, 90, 185, 123⟩) ⟨185, 17, 185, 124⟩) (.var 3 ⟨185, 125, 185, 131⟩) ⟨185, 17, 185, 132⟩) ⟨185, 4, 185, 14⟩ ⟨185, 4, 185, 132⟩)
 (.cons (.set 6 (.new (.lst .nil ⟨186, 17, 186, 19⟩)) ⟨186, 4, 186, 14⟩ ⟨186, 4, 186, 19⟩)
 (.cons l_kind_F0
 (.frz 6 (.cons (.ret (.tup (.cons (.var 5 ⟨189, 12, 189, 22⟩) (.cons (.ix (.var 2 ⟨189, 24, 189, 39⟩) (.bin .mod (.bin .fdiv (.var 4 ⟨189, 40, 189, 46⟩) (.int 100 0 ⟨189, 50, 189, 53⟩) ⟨189, 40, 189, 53⟩) (.bfn .len (.cons (.var 2 ⟨189, 60, 189, 75⟩) .nil) ⟨189, 56, 189, 59⟩ ⟨189, 56, 189, 76⟩) ⟨189, 40, 189, 76⟩) ⟨189, 24, 189, 77⟩) (.cons (.var 6 ⟨189, 79, 189, 89⟩) .nil))) 0 ⟨189, 11, 189, 90⟩) ⟨189, 4, 189, 90⟩)
 .nil))))))
theorem py17 : defBody s17 = b_l_kind.py G N17 := by kernel_rfl
theorem sc17 : defScope s17 = c17 := by kernel_rfl
theorem wf17 : b_l_kind.wf G N17 c17 = true := by kernel_rfl
theorem fs17 : FnScope N17 ["_law_script", "_law_at", "_law_words_here", "_law_k"] c17 := ⟨rfl, rfl, rfl, by decide +kernel, by kernel_rfl, by decide +kernel, by decide +kernel⟩
/-- _law_data -/
abbrev s18 : Stmt := top 38
def N18 : List Str := ["_law_script", "_law_at", "_law_words_here", "_law_n", "_law_rules", "_law_k", "_law_melts_here", "_law_kinds", ".0"]
def c18 : Scope := ⟨.function, [("_law_script", .cell), ("_law_at", .cell), ("_law_words_here", .cell), ("_law_n", .local), ("_law_rules", .local), ("_law_k", .local), ("_law_melts_here", .local), ("_law_kinds", .local), ("_law_words", .globalImplicit), ("_law_next", .globalImplicit), ("range", .globalImplicit), ("_law_rule", .globalImplicit), ("_law_melts", .globalImplicit), ("_law_great", .globalImplicit)], false, false, [("fast", .str "_law_script"), ("fast", .str "_law_at"), ("fast", .str "_law_words_here"), ("fast", .str "_law_n"), ("fast", .str "_law_rules"), ("fast", .str "_law_k"), ("fast", .str "_law_melts_here"), ("fast", .str "_law_kinds")]⟩
def l_data_I0a : Rf.Ss := (.cons (.set 2 (.bin .add (.lst (.cons (.str "rule" 0 ⟨193, 27, 193, 33⟩) (.cons (.str "word" 0 ⟨193, 35, 193, 41⟩) (.cons (.str "melt" 0 ⟨193, 43, 193, 49⟩) (.cons (.str "kind" 0 ⟨193, 51, 193, 57⟩) (.cons (.str "turn" 0 ⟨193, 59, 193, 65⟩) (.cons (.str "bound" 0 ⟨193, 67, 193, 74⟩) .nil)))))) ⟨193, 26, 193, 75⟩) (.sl (.var 2 ⟨193, 78, 193, 93⟩) (.so (.int 6 0 ⟨193, 94, 193, 95⟩)) .no ⟨193, 94, 193, 96⟩ ⟨193, 78, 193, 97⟩) ⟨193, 26, 193, 97⟩) ⟨193, 8, 193, 23⟩ ⟨193, 8, 193, 97⟩)
 .nil)
def l_data_I0 : Rf.St := (.ite (.cmp .eq (.bin .mod (.call 10 (.cons (.var 0 ⟨192, 17, 192, 28⟩) (.cons (.var 1 ⟨192, 30, 192, 37⟩) .nil)) ⟨192, 7, 192, 16⟩ ⟨192, 7, 192, 38⟩) (.int 2 0 ⟨192, 41, 192, 42⟩) ⟨192, 7, 192, 42⟩) (.int 0 0 ⟨192, 46, 192, 47⟩) ⟨192, 7, 192, 47⟩)
 l_data_I0a
 .nil ⟨192, 4, 193, 97⟩)
def l_data_F0b : Rf.Ss := (.cons (.mut .append (.var 4 ⟨197, 8, 197, 18⟩) (.cons (.call 16 (.cons (.var 0 ⟨197, 36, 197, 47⟩) (.cons (.var 1 ⟨197, 49, 197, 56⟩) (.cons (.var 2 ⟨197, 58, 197, 73⟩) (.cons (.cmp .eq (.bin .mod (.var 3 ⟨197, 75, 197, 81⟩) (.int 4 0 ⟨197, 84, 197, 85⟩) ⟨197, 75, 197, 85⟩) (.int 3 0 ⟨197, 89, 197, 90⟩) ⟨197, 75, 197, 90⟩) .nil)))) ⟨197, 26, 197, 35⟩ ⟨197, 26, 197, 91⟩) .nil) ⟨197, 8, 197, 25⟩ ⟨197, 8, 197, 92⟩ ⟨197, 8, 197, 92⟩)
 .nil)
def l_data_F0 : Rf.St := (.forr (.nm 5 ⟨196, 8, 196, 14⟩) (.rng (.cons (.ix (.lst (.cons (.bin .mod (.bin .fdiv (.var 3 ⟨196, 25, 196, 31⟩) (.int 9 0 ⟨196, 35, 196, 36⟩) ⟨196, 25, 196, 36⟩) (.int 10 0 ⟨196, 39, 196, 41⟩) ⟨196, 25, 196, 41⟩) (.cons (.bin .mod (.bin .fdiv (.var 3 ⟨196, 43, 196, 49⟩) (.int 9 0 ⟨196, 53, 196, 54⟩) ⟨196, 43, 196, 54⟩) (.int 4 0 ⟨196, 57, 196, 58⟩) ⟨196, 43, 196, 58⟩) (.cons (.bin .add (.int 1 0 ⟨196, 60, 196, 61⟩) (.bin .mod (.bin .fdiv (.var 3 ⟨196, 64, 196, 70⟩) (.int 9 0 ⟨196, 74, 196, 75⟩) ⟨196, 64, 196, 75⟩) (.int 9 0 ⟨196, 78, 196, 79⟩) ⟨196, 64, 196, 79⟩) ⟨196, 60, 196, 79⟩) (.cons (.int 40 0 ⟨196, 81, 196, 83⟩) .nil)))) ⟨196, 24, 196, 84⟩) (.bin .mod (.var 3 ⟨196, 85, 196, 91⟩) (.int 4 0 ⟨196, 94, 196, 95⟩) ⟨196, 85, 196, 95⟩) ⟨196, 24, 196, 96⟩) .nil) ⟨196, 18, 196, 23⟩ ⟨196, 18, 196, 97⟩)
 l_data_F0b ⟨196, 4, 197, 92⟩)
def l_data_C0 : Rf.E := (.call 17 (.cons (.var 0 ⟨199, 28, 199, 39⟩) (.cons (.var 1 ⟨199, 41, 199, 48⟩) (.cons (.var 2 ⟨199, 50, 199, 65⟩) (.cons (.var 5 ⟨199, 67, 199, 73⟩) .nil)))) ⟨199, 18, 199, 27⟩ ⟨199, 18, 199, 74⟩)
def b_l_data : Ss := (.cons (.set 2 (.call 11 (.cons (.var 0 ⟨191, 33, 191, 44⟩) (.cons (.var 1 ⟨191, 46, 191, 53⟩) (.cons (.int 16 0 ⟨191, 55, 191, 57⟩) .nil))) ⟨191, 22, 191, 32⟩ ⟨191, 22, 191, 58⟩) ⟨191, 4, 191, 19⟩ ⟨191, 4, 191, 58⟩)
 (.cons l_data_I0
 (.cons (.set 3 (.call 10 (.cons (.var 0 ⟨194, 23, 194, 34⟩) (.cons (.var 1 ⟨194, 36, 194, 43⟩) .nil)) ⟨194, 13, 194, 22⟩ ⟨194, 13, 194, 44⟩) ⟨194, 4, 194, 10⟩ ⟨194, 4, 194, 44⟩)
 (.cons (.set 4 (.new (.lst .nil ⟨195, 17, 195, 19⟩)) ⟨195, 4, 195, 14⟩ ⟨195, 4, 195, 19⟩)
 (.cons l_data_F0
 (.frz 4 (.cons (.set 6 (.call 13 (.cons (.var 0 ⟨198, 33, 198, 44⟩) (.cons (.var 1 ⟨198, 46, 198, 53⟩) (.cons (.var 2 ⟨198, 55, 198, 70⟩) (.cons (.int 12 0 ⟨198, 72, 198, 74⟩) .nil)))) ⟨198, 22, 198, 32⟩ ⟨198, 22, 198, 75⟩) ⟨198, 4, 198, 19⟩ ⟨198, 4, 198, 75⟩)
 (.cons (.set 7 (.comp l_data_C0 (.nm 5 ⟨199, 79, 199, 85⟩) (.rng (.cons (.bin .mod (.bin .fdiv (.var 3 ⟨199, 95, 199, 101⟩) (.int 90 0 ⟨199, 105, 199, 107⟩) ⟨199, 95, 199, 107⟩) (.int 5 0 ⟨199, 110, 199, 111⟩) ⟨199, 95, 199, 111⟩) .nil) ⟨199, 89, 199, 94⟩ ⟨199, 89, 199, 112⟩) .nil ⟨.function, [(".0", .local), ("_law_k", .local), ("_law_kind", .globalImplicit), ("_law_at", .free), ("_law_script", .free), ("_law_words_here", .free)], false, false, []⟩ [(".0", 8), ("_law_k", 5)] ⟨199, 17, 199, 113⟩) ⟨199, 4, 199, 14⟩ ⟨199, 4, 199, 113⟩)
 (.cons (.ret (.tup (.cons (.call 14 (.cons (.var 0 ⟨200, 23, 200, 34⟩) (.cons (.var 1 ⟨200, 36, 200, 43⟩) .nil)) ⟨200, 12, 200, 22⟩ ⟨200, 12, 200, 44⟩) (.cons (.var 4 ⟨200, 46, 200, 56⟩) (.cons (.var 6 ⟨200, 58, 200, 73⟩) (.cons (.var 7 ⟨200, 75, 200, 85⟩) .nil)))) 0 ⟨200, 11, 200, 86⟩) ⟨200, 4, 200, 86⟩)
 .nil)))))))))
theorem py18 : defBody s18 = b_l_data.py G N18 := by kernel_rfl
theorem sc18 : defScope s18 = c18 := by kernel_rfl
theorem wf18 : b_l_data.wf G N18 c18 = true := by kernel_rfl
theorem fs18 : FnScope N18 ["_law_script", "_law_at"] c18 := ⟨rfl, rfl, rfl, by decide +kernel, by kernel_rfl, by decide +kernel, by decide +kernel⟩
/-- _law_tongue -/
abbrev s19 : Stmt := top 39
def N19 : List Str := ["_law_data_here", "_law_bound", "_law_rules", "_law_melts_here", "_law_kinds", "_law_made", ".0", "_law_low", "_law_high", "_law_base", "_law_first", "_law_last", "_law_items_here", "_law_title", "_law_ending", "_law_turns"]
def c19 : Scope := ⟨.function, [("_law_data_here", .local), ("_law_bound", .local), ("_law_rules", .local), ("_law_melts_here", .local), ("_law_kinds", .local), ("_law_made", .local), ("Tongue", .globalImplicit), ("list", .globalImplicit)], false, false, [("fast", .str "_law_data_here"), ("fast", .str "_law_bound"), ("fast", .str "_law_rules"), ("fast", .str "_law_melts_here"), ("fast", .str "_law_kinds"), ("fast", .str "_law_low"), ("fast", .str "_law_high"), ("fast", .str "_law_base"), ("fast", .str "_law_first"), ("fast", .str "_law_last"), ("fast", .str "_law_items_here"), ("fast", .str "_law_made"), ("fast", .str "_law_title"), ("fast", .str "_law_ending"), ("fast", .str "_law_turns")]⟩
def l_tongue_C0 : Rf.E := (.mk 6 (.cons (.var 7 ⟨203, 22, 203, 30⟩) (.cons (.var 8 ⟨203, 32, 203, 41⟩) (.cons (.var 9 ⟨203, 43, 203, 52⟩) (.cons (.var 10 ⟨203, 54, 203, 64⟩) (.cons (.var 11 ⟨203, 66, 203, 75⟩) (.cons (.bfn .list (.cons (.var 12 ⟨203, 82, 203, 97⟩) .nil) ⟨203, 77, 203, 81⟩ ⟨203, 77, 203, 98⟩) .nil)))))) 0 ⟨203, 17, 203, 21⟩ ⟨203, 17, 203, 99⟩)
def l_tongue_C1 : Rf.E := (.mk 8 (.cons (.var 13 ⟨204, 70, 204, 80⟩) (.cons (.var 14 ⟨204, 82, 204, 93⟩) (.cons (.bfn .list (.cons (.var 15 ⟨204, 100, 204, 110⟩) .nil) ⟨204, 95, 204, 99⟩ ⟨204, 95, 204, 111⟩) .nil))) 0 ⟨204, 65, 204, 69⟩ ⟨204, 65, 204, 112⟩)
def b_l_tongue : Ss := (.cons (.unp false (.tp [(1, ⟨202, 4, 202, 14⟩), (2, ⟨202, 16, 202, 26⟩), (3, ⟨202, 28, 202, 43⟩), (4, ⟨202, 45, 202, 55⟩)] 0 ⟨202, 4, 202, 55⟩) (.var 0 ⟨202, 58, 202, 72⟩) ⟨202, 4, 202, 72⟩)
 (.cons (.set 5 (.comp l_tongue_C0 (.tp [(7, ⟨203, 104, 203, 112⟩), (8, ⟨203, 114, 203, 123⟩), (9, ⟨203, 125, 203, 134⟩), (10, ⟨203, 136, 203, 146⟩), (11, ⟨203, 148, 203, 157⟩), (12, ⟨203, 159, 203, 174⟩)] 0 ⟨203, 104, 203, 174⟩) (.seq (.var 2 ⟨203, 178, 203, 188⟩)) .nil ⟨.function, [(".0", .local), ("_law_low", .local), ("_law_high", .local), ("_law_base", .local), ("_law_first", .local), ("_law_last", .local), ("_law_items_here", .local), ("Rule", .globalImplicit), ("list", .globalImplicit)], false, false, []⟩ [(".0", 6), ("_law_low", 7), ("_law_high", 8), ("_law_base", 9), ("_law_first", 10), ("_law_last", 11), ("_law_items_here", 12)] ⟨203, 16, 203, 189⟩) ⟨203, 4, 203, 13⟩ ⟨203, 4, 203, 189⟩)
 (.cons (.ret (.mk 7 (.cons (.var 1 ⟨204, 18, 204, 28⟩) (.cons (.var 5 ⟨204, 30, 204, 39⟩) (.cons (.bfn .list (.cons (.var 3 ⟨204, 46, 204, 61⟩) .nil) ⟨204, 41, 204, 45⟩ ⟨204, 41, 204, 62⟩) (.cons (.comp l_tongue_C1 (.tp [(13, ⟨204, 117, 204, 127⟩), (14, ⟨204, 129, 204, 140⟩), (15, ⟨204, 142, 204, 152⟩)] 0 ⟨204, 117, 204, 152⟩) (.seq (.var 4 ⟨204, 156, 204, 166⟩)) .nil ⟨.function, [(".0", .local), ("_law_title", .local), ("_law_ending", .local), ("_law_turns", .local), ("Kind", .globalImplicit), ("list", .globalImplicit)], false, false, []⟩ [(".0", 6), ("_law_title", 13), ("_law_ending", 14), ("_law_turns", 15)] ⟨204, 64, 204, 167⟩) .nil)))) 0 ⟨204, 11, 204, 17⟩ ⟨204, 11, 204, 168⟩) ⟨204, 4, 204, 168⟩)
 .nil)))
theorem py19 : defBody s19 = b_l_tongue.py G N19 := by kernel_rfl
theorem sc19 : defScope s19 = c19 := by kernel_rfl
theorem wf19 : b_l_tongue.wf G N19 c19 = true := by kernel_rfl
theorem fs19 : FnScope N19 ["_law_data_here"] c19 := ⟨rfl, rfl, rfl, by decide +kernel, by kernel_rfl, by decide +kernel, by decide +kernel⟩
/-- _law_rule_row -/
abbrev s20 : Stmt := top 40
def N20 : List Str := ["_law_rule_here", "_law_low", "_law_high", "_law_base", "_law_first", "_law_last", "_law_items_here", ".0", "_law_number"]
def c20 : Scope := ⟨.function, [("_law_rule_here", .local), ("_law_low", .local), ("_law_high", .local), ("_law_base", .local), ("_law_first", .local), ("_law_last", .local), ("_law_items_here", .local), ("len", .globalImplicit), ("str", .globalImplicit)], false, false, [("fast", .str "_law_rule_here"), ("fast", .str "_law_low"), ("fast", .str "_law_high"), ("fast", .str "_law_base"), ("fast", .str "_law_first"), ("fast", .str "_law_last"), ("fast", .str "_law_items_here"), ("fast", .str "_law_number")]⟩
def l_rule_row_I0a : Rf.Ss := (.cons (.ret (.bin .add (.lst (.cons (.str "word" 0 ⟨208, 16, 208, 22⟩) (.cons (.bfn .str (.cons (.var 1 ⟨208, 28, 208, 36⟩) .nil) ⟨208, 24, 208, 27⟩ ⟨208, 24, 208, 37⟩) .nil)) ⟨208, 15, 208, 38⟩) (.var 6 ⟨208, 41, 208, 56⟩) ⟨208, 15, 208, 56⟩) ⟨208, 8, 208, 56⟩)
 .nil)
def l_rule_row_I0 : Rf.St := (.ite (.bop true (.cons (.cmp .eq (.bfn .len (.cons (.var 6 ⟨207, 11, 207, 26⟩) .nil) ⟨207, 7, 207, 10⟩ ⟨207, 7, 207, 27⟩) (.int 1 0 ⟨207, 31, 207, 32⟩) ⟨207, 7, 207, 32⟩) (.cons (.cmp .eq (.tup (.cons (.var 2 ⟨207, 38, 207, 47⟩) (.cons (.var 3 ⟨207, 49, 207, 58⟩) (.cons (.var 4 ⟨207, 60, 207, 70⟩) (.cons (.var 5 ⟨207, 72, 207, 81⟩) .nil)))) 0 ⟨207, 37, 207, 82⟩) (.tup (.cons (.var 1 ⟨207, 87, 207, 95⟩) (.cons (.int 2 0 ⟨207, 97, 207, 98⟩) (.cons (.bin .mod (.var 1 ⟨207, 100, 207, 108⟩) (.int 2 0 ⟨207, 111, 207, 112⟩) ⟨207, 100, 207, 112⟩) (.cons (.bin .mod (.var 1 ⟨207, 114, 207, 122⟩) (.int 2 0 ⟨207, 125, 207, 126⟩) ⟨207, 114, 207, 126⟩) .nil)))) 0 ⟨207, 86, 207, 127⟩) ⟨207, 37, 207, 127⟩) .nil)) ⟨207, 7, 207, 127⟩)
 l_rule_row_I0a
 .nil ⟨207, 4, 208, 56⟩)
def l_rule_row_C0 : Rf.E := (.bfn .str (.cons (.var 8 ⟨209, 27, 209, 38⟩) .nil) ⟨209, 23, 209, 26⟩ ⟨209, 23, 209, 39⟩)
def b_l_rule_row : Ss := (.cons (.unp false (.tp [(1, ⟨206, 4, 206, 12⟩), (2, ⟨206, 14, 206, 23⟩), (3, ⟨206, 25, 206, 34⟩), (4, ⟨206, 36, 206, 46⟩), (5, ⟨206, 48, 206, 57⟩), (6, ⟨206, 59, 206, 74⟩)] 0 ⟨206, 4, 206, 74⟩) (.var 0 ⟨206, 77, 206, 91⟩) ⟨206, 4, 206, 91⟩)
 (.cons l_rule_row_I0
 (.cons (.ret (.bin .add (.bin .add (.bin .add (.lst (.cons (.str "rule" 0 ⟨209, 12, 209, 18⟩) .nil) ⟨209, 11, 209, 19⟩) (.comp l_rule_row_C0 (.nm 8 ⟨209, 44, 209, 55⟩) (.seq (.sl (.var 0 ⟨209, 59, 209, 73⟩) .no (.so (.int 5 0 ⟨209, 75, 209, 76⟩)) ⟨209, 74, 209, 76⟩ ⟨209, 59, 209, 77⟩)) .nil ⟨.function, [(".0", .local), ("_law_number", .local), ("str", .globalImplicit)], false, false, []⟩ [(".0", 7), ("_law_number", 8)] ⟨209, 22, 209, 78⟩) ⟨209, 11, 209, 78⟩) (.lst (.cons (.str ":" 0 ⟨209, 82, 209, 85⟩) .nil) ⟨209, 81, 209, 86⟩) ⟨209, 11, 209, 86⟩) (.var 6 ⟨209, 89, 209, 104⟩) ⟨209, 11, 209, 104⟩) ⟨209, 4, 209, 104⟩)
 .nil)))
theorem py20 : defBody s20 = b_l_rule_row.py G N20 := by kernel_rfl
theorem sc20 : defScope s20 = c20 := by kernel_rfl
theorem wf20 : b_l_rule_row.wf G N20 c20 = true := by kernel_rfl
theorem fs20 : FnScope N20 ["_law_rule_here"] c20 := ⟨rfl, rfl, rfl, by decide +kernel, by kernel_rfl, by decide +kernel, by decide +kernel⟩
/-- _law_rows -/
abbrev s21 : Stmt := top 41
def N21 : List Str := ["_law_data_here", "_law_bound", "_law_rules", "_law_melts_here", "_law_kinds", "_law_rows_here", "_law_title", "_law_ending", "_law_turns", ".0", "_law_rule_here", "_law_melt_here", "_law_pair"]
def c21 : Scope := ⟨.function, [("_law_data_here", .local), ("_law_bound", .local), ("_law_rules", .local), ("_law_melts_here", .local), ("_law_kinds", .local), ("_law_rows_here", .local), ("_law_title", .local), ("_law_ending", .local), ("_law_turns", .local), ("str", .globalImplicit)], false, false, [("fast", .str "_law_data_here"), ("fast", .str "_law_bound"), ("fast", .str "_law_rules"), ("fast", .str "_law_melts_here"), ("fast", .str "_law_kinds"), ("fast", .str "_law_rule_here"), ("fast", .str "_law_rows_here"), ("fast", .str "_law_melt_here"), ("fast", .str "_law_title"), ("fast", .str "_law_ending"), ("fast", .str "_law_turns"), ("fast", .str "_law_pair")]⟩
def l_rows_C0 : Rf.E := (.call 20 (.cons (.var 10 ⟨212, 67, 212, 81⟩) .nil) ⟨212, 53, 212, 66⟩ ⟨212, 53, 212, 82⟩)
def l_rows_C1 : Rf.E := (.bin .add (.lst (.cons (.str "melt" 0 ⟨213, 28, 213, 34⟩) .nil) ⟨213, 27, 213, 35⟩) (.bfn .list (.cons (.var 11 ⟨213, 43, 213, 57⟩) .nil) ⟨213, 38, 213, 42⟩ ⟨213, 38, 213, 58⟩) ⟨213, 27, 213, 58⟩)
def l_rows_C2 : Rf.E := (.bin .add (.lst (.cons (.str "turn" 0 ⟨216, 32, 216, 38⟩) .nil) ⟨216, 31, 216, 39⟩) (.bfn .list (.cons (.var 12 ⟨216, 47, 216, 56⟩) .nil) ⟨216, 42, 216, 46⟩ ⟨216, 42, 216, 57⟩) ⟨216, 31, 216, 57⟩)
def l_rows_F0b : Rf.Ss := (.cons (.mut .append (.var 5 ⟨215, 8, 215, 22⟩) (.cons (.lst (.cons (.str "kind" 0 ⟨215, 31, 215, 37⟩) (.cons (.var 6 ⟨215, 39, 215, 49⟩) (.cons (.var 7 ⟨215, 51, 215, 62⟩) .nil))) ⟨215, 30, 215, 63⟩) .nil) ⟨215, 8, 215, 29⟩ ⟨215, 8, 215, 64⟩ ⟨215, 8, 215, 64⟩)
 (.cons (.mut .extend (.var 5 ⟨216, 8, 216, 22⟩) (.cons (.comp l_rows_C2 (.nm 12 ⟨216, 62, 216, 71⟩) (.seq (.var 8 ⟨216, 75, 216, 85⟩)) .nil ⟨.function, [(".0", .local), ("_law_pair", .local), ("list", .globalImplicit)], false, false, []⟩ [(".0", 9), ("_law_pair", 12)] ⟨216, 30, 216, 86⟩) .nil) ⟨216, 8, 216, 29⟩ ⟨216, 8, 216, 87⟩ ⟨216, 8, 216, 87⟩)
 .nil))
def l_rows_F0 : Rf.St := (.forr (.tp [(6, ⟨214, 8, 214, 18⟩), (7, ⟨214, 20, 214, 31⟩), (8, ⟨214, 33, 214, 43⟩)] 0 ⟨214, 8, 214, 43⟩) (.seq (.var 4 ⟨214, 47, 214, 57⟩))
 l_rows_F0b ⟨214, 4, 216, 87⟩)
def b_l_rows : Ss := (.cons (.unp false (.tp [(1, ⟨211, 4, 211, 14⟩), (2, ⟨211, 16, 211, 26⟩), (3, ⟨211, 28, 211, 43⟩), (4, ⟨211, 45, 211, 55⟩)] 0 ⟨211, 4, 211, 55⟩) (.var 0 ⟨211, 58, 211, 72⟩) ⟨211, 4, 211, 72⟩)
 (.cons (.set 5 (.new (.bin .add (.lst (.cons (.lst (.cons (.str "bound" 0 ⟨212, 23, 212, 30⟩) (.cons (.bfn .str (.cons (.var 1 ⟨212, 36, 212, 46⟩) .nil) ⟨212, 32, 212, 35⟩ ⟨212, 32, 212, 47⟩) .nil)) ⟨212, 22, 212, 48⟩) .nil) ⟨212, 21, 212, 49⟩) (.comp l_rows_C0 (.nm 10 ⟨212, 87, 212, 101⟩) (.seq (.var 2 ⟨212, 105, 212, 115⟩)) .nil ⟨.function, [(".0", .local), ("_law_rule_here", .local), ("_law_rule_row", .globalImplicit)], false, false, []⟩ [(".0", 9), ("_law_rule_here", 10)] ⟨212, 52, 212, 116⟩) ⟨212, 21, 212, 116⟩)) ⟨212, 4, 212, 18⟩ ⟨212, 4, 212, 116⟩)
 (.cons (.mut .extend (.var 5 ⟨213, 4, 213, 18⟩) (.cons (.comp l_rows_C1 (.nm 11 ⟨213, 63, 213, 77⟩) (.seq (.var 3 ⟨213, 81, 213, 96⟩)) .nil ⟨.function, [(".0", .local), ("_law_melt_here", .local), ("list", .globalImplicit)], false, false, []⟩ [(".0", 9), ("_law_melt_here", 11)] ⟨213, 26, 213, 97⟩) .nil) ⟨213, 4, 213, 25⟩ ⟨213, 4, 213, 98⟩ ⟨213, 4, 213, 98⟩)
 (.cons l_rows_F0
 (.frz 5 (.cons (.ret (.var 5 ⟨217, 11, 217, 25⟩) ⟨217, 4, 217, 25⟩)
 .nil))))))
theorem py21 : defBody s21 = b_l_rows.py G N21 := by kernel_rfl
theorem sc21 : defScope s21 = c21 := by kernel_rfl
theorem wf21 : b_l_rows.wf G N21 c21 = true := by kernel_rfl
theorem fs21 : FnScope N21 ["_law_data_here"] c21 := ⟨rfl, rfl, rfl, by decide +kernel, by kernel_rfl, by decide +kernel, by decide +kernel⟩
/-- _law_whole -/
abbrev s22 : Stmt := top 42
def N22 : List Str := ["_law_found"]
def c22 : Scope := ⟨.function, [("_law_found", .local), ("isinstance", .globalImplicit), ("int", .globalImplicit), ("bool", .globalImplicit)], false, false, []⟩
def b_l_whole : Ss := (.cons (.ret (.bop true (.cons (.isi (.var 0 ⟨219, 22, 219, 32⟩) (.ty "int" "int") ⟨219, 11, 219, 21⟩ ⟨219, 34, 219, 37⟩ ⟨219, 11, 219, 38⟩) (.cons (.not (.isi (.var 0 ⟨219, 59, 219, 69⟩) (.ty "bool" "bool") ⟨219, 48, 219, 58⟩ ⟨219, 71, 219, 75⟩ ⟨219, 48, 219, 76⟩) ⟨219, 44, 219, 76⟩) .nil)) ⟨219, 11, 219, 77⟩) ⟨219, 4, 219, 77⟩)
 .nil)
theorem py22 : defBody s22 = b_l_whole.py G N22 := by kernel_rfl
theorem sc22 : defScope s22 = c22 := by kernel_rfl
theorem wf22 : b_l_whole.wf G N22 c22 = true := by kernel_rfl
theorem fs22 : FnScope N22 ["_law_found"] c22 := ⟨rfl, rfl, rfl, by decide +kernel, by kernel_rfl, by decide +kernel, by decide +kernel⟩
/-- _law_is_rule -/
abbrev s23 : Stmt := top 43
def N23 : List Str := ["_law_rule_here", "_law_due", "_law_numbers", ".0", "_law_number"]
def c23 : Scope := ⟨.function, [("_law_rule_here", .local), ("_law_due", .local), ("_law_numbers", .local), ("isinstance", .globalImplicit), ("Rule", .globalImplicit), ("all", .globalImplicit), ("list", .globalImplicit)], false, false, [("fast", .str "_law_rule_here"), ("fast", .str "_law_due"), ("fast", .str "_law_numbers"), ("fast", .str "_law_number")]⟩
def l_is_rule_C0 : Rf.E := (.call 22 (.cons (.var 4 ⟨222, 67, 222, 78⟩) .nil) ⟨222, 56, 222, 66⟩ ⟨222, 56, 222, 79⟩)
def l_is_rule_I0a : Rf.Ss := (.cons (.ret (.bl false 0 ⟨223, 15, 223, 20⟩) ⟨223, 8, 223, 20⟩)
 .nil)
def l_is_rule_I0 : Rf.St := (.ite (.bop false (.cons (.not (.isi (.var 0 ⟨222, 22, 222, 36⟩) (.own 6) ⟨222, 11, 222, 21⟩ ⟨222, 38, 222, 42⟩ ⟨222, 11, 222, 43⟩) ⟨222, 7, 222, 43⟩) (.cons (.not (.bfn .all (.cons (.comp l_is_rule_C0 (.nm 4 ⟨222, 84, 222, 95⟩) (.seq (.var 2 ⟨222, 99, 222, 111⟩)) .nil ⟨.function, [(".0", .local), ("_law_number", .local), ("_law_whole", .globalImplicit)], false, false, []⟩ [(".0", 3), ("_law_number", 4)] ⟨222, 55, 222, 112⟩) .nil) ⟨222, 51, 222, 54⟩ ⟨222, 51, 222, 113⟩) ⟨222, 47, 222, 113⟩) .nil)) ⟨222, 7, 222, 113⟩)
 l_is_rule_I0a
 .nil ⟨222, 4, 223, 20⟩)
def b_l_is_rule : Ss := (.cons (.set 2 (.lst (.cons (.fld (.var 0 ⟨221, 20, 221, 34⟩) 3 ⟨221, 20, 221, 38⟩) (.cons (.fld (.var 0 ⟨221, 40, 221, 54⟩) 5 ⟨221, 40, 221, 59⟩) (.cons (.fld (.var 0 ⟨221, 61, 221, 75⟩) 4 ⟨221, 61, 221, 80⟩) (.cons (.fld (.var 0 ⟨221, 82, 221, 96⟩) 0 ⟨221, 82, 221, 102⟩) (.cons (.fld (.var 0 ⟨221, 104, 221, 118⟩) 1 ⟨221, 104, 221, 123⟩) .nil))))) ⟨221, 19, 221, 124⟩) ⟨221, 4, 221, 16⟩ ⟨221, 4, 221, 124⟩)
 (.cons l_is_rule_I0
 (.cons (.ret (.bop true (.cons (.cmp .eq (.var 2 ⟨224, 11, 224, 23⟩) (.bfn .list (.cons (.sl (.var 1 ⟨224, 32, 224, 40⟩) .no (.so (.int 5 0 ⟨224, 42, 224, 43⟩)) ⟨224, 41, 224, 43⟩ ⟨224, 32, 224, 44⟩) .nil) ⟨224, 27, 224, 31⟩ ⟨224, 27, 224, 45⟩) ⟨224, 11, 224, 45⟩) (.cons (.isi (.fld (.var 0 ⟨224, 61, 224, 75⟩) 2 ⟨224, 61, 224, 82⟩) (.ty "list" "list") ⟨224, 50, 224, 60⟩ ⟨224, 84, 224, 88⟩ ⟨224, 50, 224, 89⟩) (.cons (.cmp .eq (.fld (.var 0 ⟨224, 95, 224, 109⟩) 2 ⟨224, 95, 224, 116⟩) (.ix (.var 1 ⟨224, 120, 224, 128⟩) (.int 5 0 ⟨224, 129, 224, 130⟩) ⟨224, 120, 224, 131⟩) ⟨224, 95, 224, 131⟩) .nil))) ⟨224, 11, 224, 132⟩) ⟨224, 4, 224, 132⟩)
 .nil)))
theorem py23 : defBody s23 = b_l_is_rule.py G N23 := by kernel_rfl
theorem sc23 : defScope s23 = c23 := by kernel_rfl
theorem wf23 : b_l_is_rule.wf G N23 c23 = true := by kernel_rfl
theorem fs23 : FnScope N23 ["_law_rule_here", "_law_due"] c23 := ⟨rfl, rfl, rfl, by decide +kernel, by kernel_rfl, by decide +kernel, by decide +kernel⟩
/-- _law_is_tongue -/
abbrev s24 : Stmt := top 44
def N24 : List Str := ["_law_tongue_here", "_law_data_here", "_law_bound", "_law_rules", "_law_melts_here", "_law_kinds", "_law_k", "_law_kind_here", ".0"]
def c24 : Scope := ⟨.function, [("_law_tongue_here", .cell), ("_law_data_here", .local), ("_law_bound", .local), ("_law_rules", .cell), ("_law_melts_here", .local), ("_law_kinds", .local), ("_law_k", .local), ("_law_kind_here", .local), ("isinstance", .globalImplicit), ("Tongue", .globalImplicit), ("_law_whole", .globalImplicit), ("len", .globalImplicit), ("all", .globalImplicit), ("range", .globalImplicit), ("Kind", .globalImplicit)], false, false, [("fast", .str "_law_tongue_here"), ("fast", .str "_law_data_here"), ("fast", .str "_law_bound"), ("fast", .str "_law_rules"), ("fast", .str "_law_melts_here"), ("fast", .str "_law_kinds"), ("fast", .str "_law_k"), ("fast", .str "_law_kind_here")]⟩
def l_is_tongue_I0a : Rf.Ss := (.cons (.ret (.bl false 0 ⟨228, 15, 228, 20⟩) ⟨228, 8, 228, 20⟩)
 .nil)
def l_is_tongue_I0 : Rf.St := (.ite (.bop false (.cons (.not (.isi (.var 0 ⟨227, 22, 227, 38⟩) (.own 7) ⟨227, 11, 227, 21⟩ ⟨227, 40, 227, 46⟩ ⟨227, 11, 227, 47⟩) ⟨227, 7, 227, 47⟩) (.cons (.not (.call 22 (.cons (.fld (.var 0 ⟨227, 66, 227, 82⟩) 6 ⟨227, 66, 227, 88⟩) .nil) ⟨227, 55, 227, 65⟩ ⟨227, 55, 227, 89⟩) ⟨227, 51, 227, 89⟩) (.cons (.cmp .ne (.fld (.var 0 ⟨227, 93, 227, 109⟩) 6 ⟨227, 93, 227, 115⟩) (.var 2 ⟨227, 119, 227, 129⟩) ⟨227, 93, 227, 129⟩) .nil))) ⟨227, 7, 227, 129⟩)
 l_is_tongue_I0a
 .nil ⟨227, 4, 228, 20⟩)
def l_is_tongue_I1a : Rf.Ss := (.cons (.ret (.bl false 0 ⟨230, 15, 230, 20⟩) ⟨230, 8, 230, 20⟩)
 .nil)
def l_is_tongue_I1 : Rf.St := (.ite (.bop false (.cons (.cmp .ne (.bfn .len (.cons (.fld (.var 0 ⟨229, 11, 229, 27⟩) 7 ⟨229, 11, 229, 33⟩) .nil) ⟨229, 7, 229, 10⟩ ⟨229, 7, 229, 34⟩) (.bfn .len (.cons (.var 3 ⟨229, 42, 229, 52⟩) .nil) ⟨229, 38, 229, 41⟩ ⟨229, 38, 229, 53⟩) ⟨229, 7, 229, 53⟩) (.cons (.cmp .ne (.bfn .len (.cons (.fld (.var 0 ⟨229, 61, 229, 77⟩) 9 ⟨229, 61, 229, 83⟩) .nil) ⟨229, 57, 229, 60⟩ ⟨229, 57, 229, 84⟩) (.bfn .len (.cons (.var 5 ⟨229, 92, 229, 102⟩) .nil) ⟨229, 88, 229, 91⟩ ⟨229, 88, 229, 103⟩) ⟨229, 57, 229, 103⟩) (.cons (.cmp .ne (.fld (.var 0 ⟨229, 107, 229, 123⟩) 8 ⟨229, 107, 229, 129⟩) (.var 4 ⟨229, 133, 229, 148⟩) ⟨229, 107, 229, 148⟩) .nil))) ⟨229, 7, 229, 148⟩)
 l_is_tongue_I1a
 .nil ⟨229, 4, 230, 20⟩)
def l_is_tongue_C0 : Rf.E := (.call 23 (.cons (.ix (.fld (.var 0 ⟨231, 29, 231, 45⟩) 7 ⟨231, 29, 231, 51⟩) (.var 6 ⟨231, 52, 231, 58⟩) ⟨231, 29, 231, 59⟩) (.cons (.ix (.var 3 ⟨231, 61, 231, 71⟩) (.var 6 ⟨231, 72, 231, 78⟩) ⟨231, 61, 231, 79⟩) .nil)) ⟨231, 16, 231, 28⟩ ⟨231, 16, 231, 80⟩)
def l_is_tongue_I2a : Rf.Ss := (.cons (.ret (.bl false 0 ⟨232, 15, 232, 20⟩) ⟨232, 8, 232, 20⟩)
 .nil)
def l_is_tongue_I2 : Rf.St := (.ite (.not (.bfn .all (.cons (.comp l_is_tongue_C0 (.nm 6 ⟨231, 85, 231, 91⟩) (.rng (.cons (.bfn .len (.cons (.var 3 ⟨231, 105, 231, 115⟩) .nil) ⟨231, 101, 231, 104⟩ ⟨231, 101, 231, 116⟩) .nil) ⟨231, 95, 231, 100⟩ ⟨231, 95, 231, 117⟩) .nil ⟨.function, [(".0", .local), ("_law_k", .local), ("_law_is_rule", .globalImplicit), ("_law_rules", .free), ("_law_tongue_here", .free)], false, false, []⟩ [(".0", 8), ("_law_k", 6)] ⟨231, 15, 231, 118⟩) .nil) ⟨231, 11, 231, 14⟩ ⟨231, 11, 231, 119⟩) ⟨231, 7, 231, 119⟩)
 l_is_tongue_I2a
 .nil ⟨231, 4, 232, 20⟩)
def l_is_tongue_I3a : Rf.Ss := (.cons (.ret (.bl false 0 ⟨236, 19, 236, 24⟩) ⟨236, 12, 236, 24⟩)
 .nil)
def l_is_tongue_I3 : Rf.St := (.ite (.bop false (.cons (.not (.isi (.var 7 ⟨235, 26, 235, 40⟩) (.own 8) ⟨235, 15, 235, 25⟩ ⟨235, 42, 235, 46⟩ ⟨235, 15, 235, 47⟩) ⟨235, 11, 235, 47⟩) (.cons (.cmp .ne (.tup (.cons (.fld (.var 7 ⟨235, 52, 235, 66⟩) 10 ⟨235, 52, 235, 72⟩) (.cons (.fld (.var 7 ⟨235, 74, 235, 88⟩) 11 ⟨235, 74, 235, 95⟩) (.cons (.fld (.var 7 ⟨235, 97, 235, 111⟩) 12 ⟨235, 97, 235, 117⟩) .nil))) 0 ⟨235, 51, 235, 118⟩) (.ix (.var 5 ⟨235, 122, 235, 132⟩) (.var 6 ⟨235, 133, 235, 139⟩) ⟨235, 122, 235, 140⟩) ⟨235, 51, 235, 140⟩) .nil)) ⟨235, 11, 235, 140⟩)
 l_is_tongue_I3a
 .nil ⟨235, 8, 236, 24⟩)
def l_is_tongue_F0b : Rf.Ss := (.cons (.set 7 (.ix (.fld (.var 0 ⟨234, 25, 234, 41⟩) 9 ⟨234, 25, 234, 47⟩) (.var 6 ⟨234, 48, 234, 54⟩) ⟨234, 25, 234, 55⟩) ⟨234, 8, 234, 22⟩ ⟨234, 8, 234, 55⟩)
 (.cons l_is_tongue_I3
 .nil))
def l_is_tongue_F0 : Rf.St := (.forr (.nm 6 ⟨233, 8, 233, 14⟩) (.rng (.cons (.bfn .len (.cons (.var 5 ⟨233, 28, 233, 38⟩) .nil) ⟨233, 24, 233, 27⟩ ⟨233, 24, 233, 39⟩) .nil) ⟨233, 18, 233, 23⟩ ⟨233, 18, 233, 40⟩)
 l_is_tongue_F0b ⟨233, 4, 236, 24⟩)
def b_l_is_tongue : Ss := (.cons (.unp false (.tp [(2, ⟨226, 4, 226, 14⟩), (3, ⟨226, 16, 226, 26⟩), (4, ⟨226, 28, 226, 43⟩), (5, ⟨226, 45, 226, 55⟩)] 0 ⟨226, 4, 226, 55⟩) (.var 1 ⟨226, 58, 226, 72⟩) ⟨226, 4, 226, 72⟩)
 (.cons l_is_tongue_I0
 (.cons l_is_tongue_I1
 (.cons l_is_tongue_I2
 (.cons l_is_tongue_F0
 (.cons (.ret (.bl true 0 ⟨237, 11, 237, 15⟩) ⟨237, 4, 237, 15⟩)
 .nil))))))
theorem py24 : defBody s24 = b_l_is_tongue.py G N24 := by kernel_rfl
theorem sc24 : defScope s24 = c24 := by kernel_rfl
theorem wf24 : b_l_is_tongue.wf G N24 c24 = true := by kernel_rfl
theorem fs24 : FnScope N24 ["_law_tongue_here", "_law_data_here"] c24 := ⟨rfl, rfl, rfl, by decide +kernel, by kernel_rfl, by decide +kernel, by decide +kernel⟩
/-- law -/
abbrev s25 : Stmt := top 45
def N25 : List Str := ["_law_script", "_law_at", "_law_k", "_law_data_here", "_law_tongue_here", "_law_due", "_law_turn", "_law_found", ".0", "_law_row"]
def c25 : Scope := ⟨.function, [("_law_script", .local), ("_law_at", .local), ("_law_k", .local), ("_law_data_here", .local), ("_law_tongue_here", .local), ("_law_due", .local), ("_law_turn", .local), ("_law_found", .local), ("_law_begin", .globalImplicit), ("range", .globalImplicit), ("_law_data", .globalImplicit), ("_law_tongue", .globalImplicit), ("_law_rows", .globalImplicit), ("tongue_text", .globalImplicit), ("isinstance", .globalImplicit), ("str", .globalImplicit), ("_law_is_tongue", .globalImplicit)], false, false, [("fast", .str "_law_script"), ("fast", .str "_law_at"), ("fast", .str "_law_k"), ("fast", .str "_law_data_here"), ("fast", .str "_law_tongue_here"), ("fast", .str "_law_row"), ("fast", .str "_law_due"), ("fast", .str "_law_turn"), ("fast", .str "_law_found")]⟩
def law_C0 : Rf.E := (.bin .add (.mth .join (.str " " 0 ⟨243, 28, 243, 31⟩) (.cons (.var 9 ⟨243, 37, 243, 45⟩) .nil) ⟨243, 28, 243, 36⟩ ⟨243, 28, 243, 46⟩) (.str "\n" 0 ⟨243, 49, 243, 53⟩) ⟨243, 28, 243, 53⟩)
def law_I0a : Rf.Ss := (.cons (.ret (.bl false 0 ⟨247, 23, 247, 28⟩) ⟨247, 16, 247, 28⟩)
 .nil)
def law_I0 : Rf.St := (.ite (.bop false (.cons (.not (.isi (.var 7 ⟨246, 30, 246, 40⟩) (.ty "str" "str") ⟨246, 19, 246, 29⟩ ⟨246, 42, 246, 45⟩ ⟨246, 19, 246, 46⟩) ⟨246, 15, 246, 46⟩) (.cons (.cmp .ne (.var 7 ⟨246, 50, 246, 60⟩) (.var 5 ⟨246, 64, 246, 72⟩) ⟨246, 50, 246, 72⟩) .nil)) ⟨246, 15, 246, 72⟩)
 law_I0a
 .nil ⟨246, 12, 247, 28⟩)
def law_F1b : Rf.Ss := (.cons (.set 7 (.call 8 (.cons (.var 4 ⟨245, 37, 245, 53⟩) .nil) ⟨245, 25, 245, 36⟩ ⟨245, 25, 245, 54⟩) ⟨245, 12, 245, 22⟩ ⟨245, 12, 245, 54⟩)
 (.cons law_I0
 .nil))
def law_F1 : Rf.St := (.forr (.nm 6 ⟨244, 12, 244, 21⟩) (.rng (.cons (.int 2 0 ⟨244, 31, 244, 32⟩) .nil) ⟨244, 25, 244, 30⟩ ⟨244, 25, 244, 33⟩)
 law_F1b ⟨244, 8, 247, 28⟩)
def law_I1a : Rf.Ss := (.cons (.ret (.bl false 0 ⟨249, 19, 249, 24⟩) ⟨249, 12, 249, 24⟩)
 .nil)
def law_I1 : Rf.St := (.ite (.not (.call 24 (.cons (.var 4 ⟨248, 30, 248, 46⟩) (.cons (.var 3 ⟨248, 48, 248, 62⟩) .nil)) ⟨248, 15, 248, 29⟩ ⟨248, 15, 248, 63⟩) ⟨248, 11, 248, 63⟩)
 law_I1a
 .nil ⟨248, 8, 249, 24⟩)
def law_F0b : Rf.Ss := (.cons (.set 3 (.call 18 (.cons (.var 0 ⟨241, 35, 241, 46⟩) (.cons (.var 1 ⟨241, 48, 241, 55⟩) .nil)) ⟨241, 25, 241, 34⟩ ⟨241, 25, 241, 56⟩) ⟨241, 8, 241, 22⟩ ⟨241, 8, 241, 56⟩)
 (.cons (.set 4 (.call 19 (.cons (.var 3 ⟨242, 39, 242, 53⟩) .nil) ⟨242, 27, 242, 38⟩ ⟨242, 27, 242, 54⟩) ⟨242, 8, 242, 24⟩ ⟨242, 8, 242, 54⟩)
 (.cons (.set 5 (.mth .join (.str "" 0 ⟨243, 19, 243, 21⟩) (.cons (.comp law_C0 (.nm 9 ⟨243, 58, 243, 66⟩) (.seq (.call 21 (.cons (.var 3 ⟨243, 80, 243, 94⟩) .nil) ⟨243, 70, 243, 79⟩ ⟨243, 70, 243, 95⟩)) .nil ⟨.function, [(".0", .local), ("_law_row", .local)], false, false, []⟩ [(".0", 8), ("_law_row", 9)] ⟨243, 27, 243, 96⟩) .nil) ⟨243, 19, 243, 26⟩ ⟨243, 19, 243, 97⟩) ⟨243, 8, 243, 16⟩ ⟨243, 8, 243, 97⟩)
 (.cons law_F1
 (.cons law_I1
 .nil)))))
def law_F0 : Rf.St := (.forr (.nm 2 ⟨240, 8, 240, 14⟩) (.rng (.cons (.int 2 0 ⟨240, 24, 240, 25⟩) .nil) ⟨240, 18, 240, 23⟩ ⟨240, 18, 240, 26⟩)
 law_F0b ⟨240, 4, 249, 24⟩)
def b_law : Ss := (.cons (.set 1 (.call 9 (.cons (.var 0 ⟨239, 25, 239, 36⟩) .nil) ⟨239, 14, 239, 24⟩ ⟨239, 14, 239, 37⟩) ⟨239, 4, 239, 11⟩ ⟨239, 4, 239, 37⟩)
 (.cons law_F0
 (.frz 1 (.cons (.ret (.bl true 0 ⟨250, 11, 250, 15⟩) ⟨250, 4, 250, 15⟩)
 .nil))))
theorem py25 : defBody s25 = b_law.py G N25 := by kernel_rfl
theorem sc25 : defScope s25 = c25 := by kernel_rfl
theorem wf25 : b_law.wf G N25 c25 = true := by kernel_rfl
theorem fs25 : FnScope N25 ["_law_script"] c25 := ⟨rfl, rfl, rfl, by decide +kernel, by kernel_rfl, by decide +kernel, by decide +kernel⟩
/-- Rule.__init__ -/
abbrev s26 : Stmt := inClass (top 16) 0
def N26 : List Str := ["self", "low", "high", "base", "first", "last", "pieces"]
def c26 : Scope := ⟨.function, [("self", .local), ("low", .local), ("high", .local), ("base", .local), ("first", .local), ("last", .local), ("pieces", .local), ("BadRule", .globalImplicit), ("items_fit", .globalImplicit), ("list", .globalImplicit), ("rule_tells", .globalImplicit)], false, false, []⟩
def Rule_init_I0a : Rf.Ss := (.cons (.rai 1 "numbers that do not go together" 0 ⟨45, 18, 45, 25⟩ ⟨45, 26, 45, 59⟩ ⟨45, 18, 45, 60⟩ ⟨45, 12, 45, 60⟩)
 .nil)
def Rule_init_I0 : Rf.St := (.ite (.bop false (.cons (.not (.ch2 .le .le (.int 0 0 ⟨44, 15, 44, 16⟩) (.var 1 ⟨44, 20, 44, 23⟩) (.var 2 ⟨44, 27, 44, 31⟩) ⟨44, 15, 44, 31⟩) ⟨44, 11, 44, 31⟩) (.cons (.cmp .lt (.var 3 ⟨44, 35, 44, 39⟩) (.int 2 0 ⟨44, 42, 44, 43⟩) ⟨44, 35, 44, 43⟩) (.cons (.not (.ch3 .le .le .lt (.int 0 0 ⟨44, 52, 44, 53⟩) (.var 4 ⟨44, 57, 44, 62⟩) (.var 5 ⟨44, 66, 44, 70⟩) (.var 3 ⟨44, 73, 44, 77⟩) ⟨44, 52, 44, 77⟩) ⟨44, 48, 44, 77⟩) .nil))) ⟨44, 11, 44, 78⟩)
 Rule_init_I0a
 .nil ⟨44, 8, 45, 60⟩)
def Rule_init_I1a : Rf.Ss := (.cons (.rai 1 "pieces that are none" 0 ⟨47, 18, 47, 25⟩ ⟨47, 26, 47, 48⟩ ⟨47, 18, 47, 49⟩ ⟨47, 12, 47, 49⟩)
 .nil)
def Rule_init_I1 : Rf.St := (.ite (.not (.call 2 (.cons (.var 6 ⟨46, 25, 46, 31⟩) .nil) ⟨46, 15, 46, 24⟩ ⟨46, 15, 46, 32⟩) ⟨46, 11, 46, 32⟩)
 Rule_init_I1a
 .nil ⟨46, 8, 47, 49⟩)
def Rule_init_I2a : Rf.Ss := (.cons (.rai 1 "parts that do not tell the number" 0 ⟨55, 18, 55, 25⟩ ⟨55, 26, 55, 61⟩ ⟨55, 18, 55, 62⟩ ⟨55, 12, 55, 62⟩)
 .nil)
def Rule_init_I2 : Rf.St := (.ite (.not (.call 3 (.cons (.var 0 ⟨54, 26, 54, 30⟩) .nil) ⟨54, 15, 54, 25⟩ ⟨54, 15, 54, 31⟩) ⟨54, 11, 54, 31⟩)
 Rule_init_I2a
 .nil ⟨54, 8, 55, 62⟩)
def b_Rule_init : Ss := (.cons Rule_init_I0
 (.cons Rule_init_I1
 (.cons (.sfl (.var 0 ⟨48, 8, 48, 12⟩) 3 (.var 1 ⟨48, 19, 48, 22⟩) ⟨48, 8, 48, 16⟩ ⟨48, 8, 48, 22⟩)
 (.cons (.sfl (.var 0 ⟨49, 8, 49, 12⟩) 5 (.var 2 ⟨49, 20, 49, 24⟩) ⟨49, 8, 49, 17⟩ ⟨49, 8, 49, 24⟩)
 (.cons (.sfl (.var 0 ⟨50, 8, 50, 12⟩) 4 (.var 3 ⟨50, 20, 50, 24⟩) ⟨50, 8, 50, 17⟩ ⟨50, 8, 50, 24⟩)
 (.cons (.sfl (.var 0 ⟨51, 8, 51, 12⟩) 0 (.var 4 ⟨51, 21, 51, 26⟩) ⟨51, 8, 51, 18⟩ ⟨51, 8, 51, 26⟩)
 (.cons (.sfl (.var 0 ⟨52, 8, 52, 12⟩) 1 (.var 5 ⟨52, 20, 52, 24⟩) ⟨52, 8, 52, 17⟩ ⟨52, 8, 52, 24⟩)
 (.cons (.sfl (.var 0 ⟨53, 8, 53, 12⟩) 2 (.bfn .list (.cons (.var 6 ⟨53, 27, 53, 33⟩) .nil) ⟨53, 22, 53, 26⟩ ⟨53, 22, 53, 34⟩) ⟨53, 8, 53, 19⟩ ⟨53, 8, 53, 34⟩)
 (.cons Rule_init_I2
 .nil)))))))))
theorem py26 : defBody s26 = b_Rule_init.py G N26 := by kernel_rfl
theorem sc26 : defScope s26 = c26 := by kernel_rfl
theorem wf26 : b_Rule_init.wf G N26 c26 = true := by kernel_rfl
theorem fs26 : FnScope N26 ["self", "low", "high", "base", "first", "last", "pieces"] c26 := ⟨rfl, rfl, rfl, by decide +kernel, by kernel_rfl, by decide +kernel, by decide +kernel⟩
/-- Tongue.__init__ -/
abbrev s27 : Stmt := inClass (top 19) 0
def N27 : List Str := ["self", "bound", "rules", "melts", "kinds", ".0", "melt", "kind"]
def c27 : Scope := ⟨.function, [("self", .local), ("bound", .local), ("rules", .local), ("melts", .local), ("kinds", .local), ("BadBound", .globalImplicit), ("all", .globalImplicit), ("BadMelt", .globalImplicit), ("len", .globalImplicit), ("set", .globalImplicit), ("Twice", .globalImplicit), ("list", .globalImplicit)], false, false, [("fast", .str "self"), ("fast", .str "bound"), ("fast", .str "rules"), ("fast", .str "melts"), ("fast", .str "kinds"), ("fast", .str "melt"), ("fast", .str "kind")]⟩
def Tongue_init_I0a : Rf.Ss := (.cons (.rai 2 "a bound below nought" 0 ⟨68, 18, 68, 26⟩ ⟨68, 27, 68, 49⟩ ⟨68, 18, 68, 50⟩ ⟨68, 12, 68, 50⟩)
 .nil)
def Tongue_init_I0 : Rf.St := (.ite (.cmp .lt (.var 1 ⟨67, 11, 67, 16⟩) (.int 0 0 ⟨67, 19, 67, 20⟩) ⟨67, 11, 67, 20⟩)
 Tongue_init_I0a
 .nil ⟨67, 8, 68, 50⟩)
def Tongue_init_C0 : Rf.E := (.call 4 (.cons (.var 6 ⟨69, 28, 69, 32⟩) .nil) ⟨69, 20, 69, 27⟩ ⟨69, 20, 69, 33⟩)
def Tongue_init_I1a : Rf.Ss := (.cons (.rai 3 "a melt that is none" 0 ⟨70, 18, 70, 25⟩ ⟨70, 26, 70, 47⟩ ⟨70, 18, 70, 48⟩ ⟨70, 12, 70, 48⟩)
 .nil)
def Tongue_init_I1 : Rf.St := (.ite (.not (.bfn .all (.cons (.comp Tongue_init_C0 (.nm 6 ⟨69, 38, 69, 42⟩) (.seq (.var 3 ⟨69, 46, 69, 51⟩)) .nil ⟨.function, [(".0", .local), ("melt", .local), ("is_melt", .globalImplicit)], false, false, []⟩ [(".0", 5), ("melt", 6)] ⟨69, 19, 69, 52⟩) .nil) ⟨69, 15, 69, 18⟩ ⟨69, 15, 69, 53⟩) ⟨69, 11, 69, 53⟩)
 Tongue_init_I1a
 .nil ⟨69, 8, 70, 48⟩)
def Tongue_init_C1 : Rf.E := (.fld (.var 7 ⟨71, 20, 71, 24⟩) 10 ⟨71, 20, 71, 30⟩)
def Tongue_init_I2a : Rf.Ss := (.cons (.rai 4 "two kinds of one title" 0 ⟨72, 18, 72, 23⟩ ⟨72, 24, 72, 48⟩ ⟨72, 18, 72, 49⟩ ⟨72, 12, 72, 49⟩)
 .nil)
def Tongue_init_I2 : Rf.St := (.ite (.cmp .ne (.lens (.comp Tongue_init_C1 (.nm 7 ⟨71, 35, 71, 39⟩) (.seq (.var 4 ⟨71, 43, 71, 48⟩)) .nil ⟨.function, [(".0", .local), ("kind", .local)], false, false, []⟩ [(".0", 5), ("kind", 7)] ⟨71, 19, 71, 49⟩) ⟨71, 11, 71, 14⟩ ⟨71, 15, 71, 18⟩ ⟨71, 15, 71, 50⟩ ⟨71, 11, 71, 51⟩) (.bfn .len (.cons (.var 4 ⟨71, 59, 71, 64⟩) .nil) ⟨71, 55, 71, 58⟩ ⟨71, 55, 71, 65⟩) ⟨71, 11, 71, 65⟩)
 Tongue_init_I2a
 .nil ⟨71, 8, 72, 49⟩)
def b_Tongue_init : Ss := (.cons (.set 3 (.orl (.var 3 ⟨65, 16, 65, 21⟩) (.lst .nil ⟨65, 25, 65, 27⟩) ⟨65, 16, 65, 27⟩) ⟨65, 8, 65, 13⟩ ⟨65, 8, 65, 27⟩)
 (.cons (.set 4 (.orl (.var 4 ⟨66, 16, 66, 21⟩) (.lst .nil ⟨66, 25, 66, 27⟩) ⟨66, 16, 66, 27⟩) ⟨66, 8, 66, 13⟩ ⟨66, 8, 66, 27⟩)
 (.cons Tongue_init_I0
 (.cons Tongue_init_I1
 (.cons Tongue_init_I2
 (.cons (.sfl (.var 0 ⟨73, 8, 73, 12⟩) 6 (.var 1 ⟨73, 21, 73, 26⟩) ⟨73, 8, 73, 18⟩ ⟨73, 8, 73, 26⟩)
 (.cons (.sfl (.var 0 ⟨74, 8, 74, 12⟩) 7 (.bfn .list (.cons (.var 2 ⟨74, 26, 74, 31⟩) .nil) ⟨74, 21, 74, 25⟩ ⟨74, 21, 74, 32⟩) ⟨74, 8, 74, 18⟩ ⟨74, 8, 74, 32⟩)
 (.cons (.sfl (.var 0 ⟨75, 8, 75, 12⟩) 8 (.bfn .list (.cons (.var 3 ⟨75, 26, 75, 31⟩) .nil) ⟨75, 21, 75, 25⟩ ⟨75, 21, 75, 32⟩) ⟨75, 8, 75, 18⟩ ⟨75, 8, 75, 32⟩)
 (.cons (.sfl (.var 0 ⟨76, 8, 76, 12⟩) 9 (.bfn .list (.cons (.var 4 ⟨76, 26, 76, 31⟩) .nil) ⟨76, 21, 76, 25⟩ ⟨76, 21, 76, 32⟩) ⟨76, 8, 76, 18⟩ ⟨76, 8, 76, 32⟩)
 .nil)))))))))
theorem py27 : defBody s27 = b_Tongue_init.py G N27 := by kernel_rfl
theorem sc27 : defScope s27 = c27 := by kernel_rfl
theorem wf27 : b_Tongue_init.wf G N27 c27 = true := by kernel_rfl
theorem fs27 : FnScope N27 ["self", "bound", "rules", "melts", "kinds"] c27 := ⟨rfl, rfl, rfl, by decide +kernel, by kernel_rfl, by decide +kernel, by decide +kernel⟩
/-- Kind.__init__ -/
abbrev s28 : Stmt := inClass (top 24) 0
def N28 : List Str := ["self", "title", "ending", "turns"]
def c28 : Scope := ⟨.function, [("self", .local), ("title", .local), ("ending", .local), ("turns", .local), ("is_title", .globalImplicit), ("is_word", .globalImplicit), ("are_turns", .globalImplicit), ("BadKind", .globalImplicit), ("list", .globalImplicit)], false, false, []⟩
def Kind_init_I0a : Rf.Ss := (.cons (.rai 5 "no kind" 0 ⟨94, 18, 94, 25⟩ ⟨94, 26, 94, 35⟩ ⟨94, 18, 94, 36⟩ ⟨94, 12, 94, 36⟩)
 .nil)
def Kind_init_I0 : Rf.St := (.ite (.bop false (.cons (.not (.call 5 (.cons (.var 1 ⟨93, 24, 93, 29⟩) .nil) ⟨93, 15, 93, 23⟩ ⟨93, 15, 93, 30⟩) ⟨93, 11, 93, 30⟩) (.cons (.not (.call 0 (.cons (.var 2 ⟨93, 46, 93, 52⟩) .nil) ⟨93, 38, 93, 45⟩ ⟨93, 38, 93, 53⟩) ⟨93, 34, 93, 53⟩) (.cons (.not (.call 6 (.cons (.var 3 ⟨93, 72, 93, 77⟩) .nil) ⟨93, 62, 93, 71⟩ ⟨93, 62, 93, 78⟩) ⟨93, 58, 93, 78⟩) .nil))) ⟨93, 11, 93, 79⟩)
 Kind_init_I0a
 .nil ⟨93, 8, 94, 36⟩)
def b_Kind_init : Ss := (.cons Kind_init_I0
 (.cons (.sfl (.var 0 ⟨95, 8, 95, 12⟩) 10 (.var 1 ⟨95, 21, 95, 26⟩) ⟨95, 8, 95, 18⟩ ⟨95, 8, 95, 26⟩)
 (.cons (.sfl (.var 0 ⟨96, 8, 96, 12⟩) 11 (.var 2 ⟨96, 22, 96, 28⟩) ⟨96, 8, 96, 19⟩ ⟨96, 8, 96, 28⟩)
 (.cons (.sfl (.var 0 ⟨97, 8, 97, 12⟩) 12 (.bfn .list (.cons (.var 3 ⟨97, 26, 97, 31⟩) .nil) ⟨97, 21, 97, 25⟩ ⟨97, 21, 97, 32⟩) ⟨97, 8, 97, 18⟩ ⟨97, 8, 97, 32⟩)
 .nil))))
theorem py28 : defBody s28 = b_Kind_init.py G N28 := by kernel_rfl
theorem sc28 : defScope s28 = c28 := by kernel_rfl
theorem wf28 : b_Kind_init.wf G N28 c28 = true := by kernel_rfl
theorem fs28 : FnScope N28 ["self", "title", "ending", "turns"] c28 := ⟨rfl, rfl, rfl, by decide +kernel, by kernel_rfl, by decide +kernel, by decide +kernel⟩
def fs : List FD := [⟨N0, 1, b_is_word, c0⟩, ⟨N1, 1, b_ties_stand, c1⟩, ⟨N2, 1, b_items_fit, c2⟩, ⟨N3, 1, b_rule_tells, c3⟩, ⟨N4, 1, b_is_melt, c4⟩, ⟨N5, 1, b_is_title, c5⟩, ⟨N6, 1, b_are_turns, c6⟩, ⟨N7, 1, b_rule_row, c7⟩, ⟨N8, 1, b_tongue_text, c8⟩, ⟨N9, 1, b_l_begin, c9⟩, ⟨N10, 2, b_l_next, c10⟩, ⟨N11, 3, b_l_words, c11⟩, ⟨N12, 3, b_l_melt, c12⟩, ⟨N13, 4, b_l_melts, c13⟩, ⟨N14, 2, b_l_great, c14⟩, ⟨N15, 4, b_l_items, c15⟩, ⟨N16, 4, b_l_rule, c16⟩, ⟨N17, 4, b_l_kind, c17⟩, ⟨N18, 2, b_l_data, c18⟩, ⟨N19, 1, b_l_tongue, c19⟩, ⟨N20, 1, b_l_rule_row, c20⟩, ⟨N21, 1, b_l_rows, c21⟩, ⟨N22, 1, b_l_whole, c22⟩, ⟨N23, 2, b_l_is_rule, c23⟩, ⟨N24, 2, b_l_is_tongue, c24⟩, ⟨N25, 1, b_law, c25⟩, ⟨N26, 7, b_Rule_init, c26⟩, ⟨N27, 5, b_Tongue_init, c27⟩, ⟨N28, 4, b_Kind_init, c28⟩]
/-! the text as rewriting rules -/
theorem t_is_word (n : Nat) (w0 : W) (S : Store) : Tn G fs (n + 1) 0 [w0] S = endF S.length (b_is_word.ev (Tn G fs n) G [some w0] S) := (rfl)
theorem t_ties_stand (n : Nat) (w0 : W) (S : Store) : Tn G fs (n + 1) 1 [w0] S = endF S.length (b_ties_stand.ev (Tn G fs n) G [some w0, none, none] S) := (rfl)
theorem t_items_fit (n : Nat) (w0 : W) (S : Store) : Tn G fs (n + 1) 2 [w0] S = endF S.length (b_items_fit.ev (Tn G fs n) G [some w0, none, none, none] S) := (rfl)
theorem t_rule_tells (n : Nat) (w0 : W) (S : Store) : Tn G fs (n + 1) 3 [w0] S = endF S.length (b_rule_tells.ev (Tn G fs n) G [some w0, none, none, none, none] S) := (rfl)
theorem t_is_melt (n : Nat) (w0 : W) (S : Store) : Tn G fs (n + 1) 4 [w0] S = endF S.length (b_is_melt.ev (Tn G fs n) G [some w0, none, none, none, none, none] S) := (rfl)
theorem t_is_title (n : Nat) (w0 : W) (S : Store) : Tn G fs (n + 1) 5 [w0] S = endF S.length (b_is_title.ev (Tn G fs n) G [some w0, none, none] S) := (rfl)
theorem t_are_turns (n : Nat) (w0 : W) (S : Store) : Tn G fs (n + 1) 6 [w0] S = endF S.length (b_are_turns.ev (Tn G fs n) G [some w0, none, none] S) := (rfl)
theorem t_rule_row (n : Nat) (w0 : W) (S : Store) : Tn G fs (n + 1) 7 [w0] S = endF S.length (b_rule_row.ev (Tn G fs n) G [some w0, none, none, none, none, none] S) := (rfl)
theorem t_tongue_text (n : Nat) (w0 : W) (S : Store) : Tn G fs (n + 1) 8 [w0] S = endF S.length (b_tongue_text.ev (Tn G fs n) G [some w0, none, none, none, none, none, none, none] S) := (rfl)
theorem t_l_begin (n : Nat) (w0 : W) (S : Store) : Tn G fs (n + 1) 9 [w0] S = endF S.length (b_l_begin.ev (Tn G fs n) G [some w0, none, none] S) := (rfl)
theorem t_l_next (n : Nat) (w0 w1 : W) (S : Store) : Tn G fs (n + 1) 10 [w0, w1] S = endF S.length (b_l_next.ev (Tn G fs n) G [some w0, some w1, none] S) := (rfl)
theorem t_l_words (n : Nat) (w0 w1 w2 : W) (S : Store) : Tn G fs (n + 1) 11 [w0, w1, w2] S = endF S.length (b_l_words.ev (Tn G fs n) G [some w0, some w1, some w2, none, none, none, none, none, none, none, none] S) := (rfl)
theorem t_l_melt (n : Nat) (w0 w1 w2 : W) (S : Store) : Tn G fs (n + 1) 12 [w0, w1, w2] S = endF S.length (b_l_melt.ev (Tn G fs n) G [some w0, some w1, some w2, none, none, none, none, none, none] S) := (rfl)
theorem t_l_melts (n : Nat) (w0 w1 w2 w3 : W) (S : Store) : Tn G fs (n + 1) 13 [w0, w1, w2, w3] S = endF S.length (b_l_melts.ev (Tn G fs n) G [some w0, some w1, some w2, some w3, none, none, none] S) := (rfl)
theorem t_l_great (n : Nat) (w0 w1 : W) (S : Store) : Tn G fs (n + 1) 14 [w0, w1] S = endF S.length (b_l_great.ev (Tn G fs n) G [some w0, some w1, none] S) := (rfl)
theorem t_l_items (n : Nat) (w0 w1 w2 w3 : W) (S : Store) : Tn G fs (n + 1) 15 [w0, w1, w2, w3] S = endF S.length (b_l_items.ev (Tn G fs n) G [some w0, some w1, some w2, some w3, none, none, none] S) := (rfl)
theorem t_l_rule (n : Nat) (w0 w1 w2 w3 : W) (S : Store) : Tn G fs (n + 1) 16 [w0, w1, w2, w3] S = endF S.length (b_l_rule.ev (Tn G fs n) G [some w0, some w1, some w2, some w3, none, none, none, none, none, none, none, none, none, none] S) := (rfl)
theorem t_l_kind (n : Nat) (w0 w1 w2 w3 : W) (S : Store) : Tn G fs (n + 1) 17 [w0, w1, w2, w3] S = endF S.length (b_l_kind.ev (Tn G fs n) G [some w0, some w1, some w2, some w3, none, none, none, none] S) := (rfl)
theorem t_l_data (n : Nat) (w0 w1 : W) (S : Store) : Tn G fs (n + 1) 18 [w0, w1] S = endF S.length (b_l_data.ev (Tn G fs n) G [some w0, some w1, none, none, none, none, none, none, none] S) := (rfl)
theorem t_l_tongue (n : Nat) (w0 : W) (S : Store) : Tn G fs (n + 1) 19 [w0] S = endF S.length (b_l_tongue.ev (Tn G fs n) G [some w0, none, none, none, none, none, none, none, none, none, none, none, none, none, none, none] S) := (rfl)
theorem t_l_rule_row (n : Nat) (w0 : W) (S : Store) : Tn G fs (n + 1) 20 [w0] S = endF S.length (b_l_rule_row.ev (Tn G fs n) G [some w0, none, none, none, none, none, none, none, none] S) := (rfl)
theorem t_l_rows (n : Nat) (w0 : W) (S : Store) : Tn G fs (n + 1) 21 [w0] S = endF S.length (b_l_rows.ev (Tn G fs n) G [some w0, none, none, none, none, none, none, none, none, none, none, none, none] S) := (rfl)
theorem t_l_whole (n : Nat) (w0 : W) (S : Store) : Tn G fs (n + 1) 22 [w0] S = endF S.length (b_l_whole.ev (Tn G fs n) G [some w0] S) := (rfl)
theorem t_l_is_rule (n : Nat) (w0 w1 : W) (S : Store) : Tn G fs (n + 1) 23 [w0, w1] S = endF S.length (b_l_is_rule.ev (Tn G fs n) G [some w0, some w1, none, none, none] S) := (rfl)
theorem t_l_is_tongue (n : Nat) (w0 w1 : W) (S : Store) : Tn G fs (n + 1) 24 [w0, w1] S = endF S.length (b_l_is_tongue.ev (Tn G fs n) G [some w0, some w1, none, none, none, none, none, none, none] S) := (rfl)
theorem t_law (n : Nat) (w0 : W) (S : Store) : Tn G fs (n + 1) 25 [w0] S = endF S.length (b_law.ev (Tn G fs n) G [some w0, none, none, none, none, none, none, none, none, none] S) := (rfl)
theorem t_Rule_init (n : Nat) (w0 w1 w2 w3 w4 w5 w6 : W) (S : Store) : Tn G fs (n + 1) 26 [w0, w1, w2, w3, w4, w5, w6] S = endF S.length (b_Rule_init.ev (Tn G fs n) G [some w0, some w1, some w2, some w3, some w4, some w5, some w6] S) := (rfl)
theorem t_Tongue_init (n : Nat) (w0 w1 w2 w3 w4 : W) (S : Store) : Tn G fs (n + 1) 27 [w0, w1, w2, w3, w4] S = endF S.length (b_Tongue_init.ev (Tn G fs n) G [some w0, some w1, some w2, some w3, some w4, none, none, none] S) := (rfl)
theorem t_Kind_init (n : Nat) (w0 w1 w2 w3 : W) (S : Store) : Tn G fs (n + 1) 28 [w0, w1, w2, w3] S = endF S.length (b_Kind_init.ev (Tn G fs n) G [some w0, some w1, some w2, some w3] S) := (rfl)
section
variable {T : Nat → List W → Store → Res W} {ρ : Env'} {S : Store} {p : Pos}
theorem e_b_is_word : (b_is_word).ev T G ρ S = ((.cons (.ret (.bop true (.cons (.ch2 .le .le (.int 2 0 ⟨20, 11, 20, 12⟩) (.bfn .len (.cons (.var 0 ⟨20, 20, 20, 24⟩) .nil) ⟨20, 16, 20, 19⟩ ⟨20, 16, 20, 25⟩) (.int 10 0 ⟨20, 29, 20, 31⟩) ⟨20, 11, 20, 31⟩) (.cons (.cmp .eq (.mth .strip (.var 0 ⟨20, 36, 20, 40⟩) (.cons (.glo 0 ⟨20, 47, 20, 52⟩) .nil) ⟨20, 36, 20, 46⟩ ⟨20, 36, 20, 53⟩) (.str "" 0 ⟨20, 57, 20, 59⟩) ⟨20, 36, 20, 59⟩) .nil)) ⟨20, 11, 20, 59⟩) ⟨20, 4, 20, 59⟩)
 .nil) : Rf.Ss).ev T G ρ S := (rfl)
theorem e_ties_stand_I0a : (ties_stand_I0a).ev T G ρ S = ((.cons (.ret (.bl false 0 ⟨25, 19, 25, 24⟩) ⟨25, 12, 25, 24⟩)
 .nil) : Rf.Ss).ev T G ρ S := (rfl)
theorem e_ties_stand_I0 : (ties_stand_I0).ev T G ρ S = ((.ite (.bop true (.cons (.cmp .eq (.var 2 ⟨24, 11, 24, 15⟩) (.glo 1 ⟨24, 19, 24, 22⟩) ⟨24, 11, 24, 22⟩) (.cons (.cmp .eq (.var 1 ⟨24, 27, 24, 32⟩) (.glo 1 ⟨24, 36, 24, 39⟩) ⟨24, 27, 24, 39⟩) .nil)) ⟨24, 11, 24, 39⟩)
 ties_stand_I0a
 .nil ⟨24, 8, 25, 24⟩) : Rf.St).ev T G ρ S := (rfl)
theorem e_ties_stand_F0b : (ties_stand_F0b).ev T G ρ S = ((.cons ties_stand_I0
 (.cons (.set 1 (.var 2 ⟨26, 16, 26, 20⟩) ⟨26, 8, 26, 13⟩ ⟨26, 8, 26, 20⟩)
 .nil)) : Rf.Ss).ev T G ρ S := (rfl)
theorem e_ties_stand_F0 : (ties_stand_F0).ev T G ρ S = ((.forr (.nm 2 ⟨23, 8, 23, 12⟩) (.seq (.var 0 ⟨23, 16, 23, 21⟩))
 ties_stand_F0b ⟨23, 4, 26, 20⟩) : Rf.St).ev T G ρ S := (rfl)
theorem e_b_ties_stand : (b_ties_stand).ev T G ρ S = ((.cons (.set 1 (.glo 1 ⟨22, 12, 22, 15⟩) ⟨22, 4, 22, 9⟩ ⟨22, 4, 22, 15⟩)
 (.cons ties_stand_F0
 (.cons (.ret (.cmp .ne (.var 1 ⟨27, 11, 27, 16⟩) (.glo 1 ⟨27, 20, 27, 23⟩) ⟨27, 11, 27, 23⟩) ⟨27, 4, 27, 23⟩)
 .nil))) : Rf.Ss).ev T G ρ S := (rfl)
theorem e_items_fit_I0a : (items_fit_I0a).ev T G ρ S = ((.cons (.ret (.bl false 0 ⟨30, 15, 30, 20⟩) ⟨30, 8, 30, 20⟩)
 .nil) : Rf.Ss).ev T G ρ S := (rfl)
theorem e_items_fit_I0 : (items_fit_I0).ev T G ρ S = ((.ite (.not (.ch2 .le .le (.int 1 0 ⟨29, 11, 29, 12⟩) (.bfn .len (.cons (.var 0 ⟨29, 20, 29, 25⟩) .nil) ⟨29, 16, 29, 19⟩ ⟨29, 16, 29, 26⟩) (.glo 2 ⟨29, 30, 29, 40⟩) ⟨29, 11, 29, 40⟩) ⟨29, 7, 29, 40⟩)
 items_fit_I0a
 .nil ⟨29, 4, 30, 20⟩) : Rf.St).ev T G ρ S := (rfl)
theorem e_items_fit_I1a : (items_fit_I1a).ev T G ρ S = ((.cons (.ret (.bl false 0 ⟨33, 19, 33, 24⟩) ⟨33, 12, 33, 24⟩)
 .nil) : Rf.Ss).ev T G ρ S := (rfl)
theorem e_items_fit_I1 : (items_fit_I1).ev T G ρ S = ((.ite (.bop true (.cons (.cmp .ne (.var 1 ⟨32, 11, 32, 15⟩) (.glo 1 ⟨32, 19, 32, 22⟩) ⟨32, 11, 32, 22⟩) (.cons (.cmp .nmem (.var 1 ⟨32, 27, 32, 31⟩) (.glo 3 ⟨32, 39, 32, 44⟩) ⟨32, 27, 32, 44⟩) (.cons (.not (.call 0 (.cons (.var 1 ⟨32, 62, 32, 66⟩) .nil) ⟨32, 54, 32, 61⟩ ⟨32, 54, 32, 67⟩) ⟨32, 50, 32, 67⟩) .nil))) ⟨32, 11, 32, 68⟩)
 items_fit_I1a
 .nil ⟨32, 8, 33, 24⟩) : Rf.St).ev T G ρ S := (rfl)
theorem e_items_fit_F0b : (items_fit_F0b).ev T G ρ S = ((.cons items_fit_I1
 .nil) : Rf.Ss).ev T G ρ S := (rfl)
theorem e_items_fit_F0 : (items_fit_F0).ev T G ρ S = ((.forr (.nm 1 ⟨31, 8, 31, 12⟩) (.seq (.var 0 ⟨31, 16, 31, 21⟩))
 items_fit_F0b ⟨31, 4, 33, 24⟩) : Rf.St).ev T G ρ S := (rfl)
theorem e_items_fit_C0 : (items_fit_C0).ev T G ρ S = ((.call 0 (.cons (.var 1 ⟨34, 24, 34, 28⟩) .nil) ⟨34, 16, 34, 23⟩ ⟨34, 16, 34, 29⟩) : Rf.E).ev T G ρ S := (rfl)
theorem e_items_fit_C1 : (items_fit_C1).ev T G ρ S = ((.cmp .gt (.mth .count (.var 0 ⟨34, 58, 34, 63⟩) (.cons (.var 3 ⟨34, 70, 34, 74⟩) .nil) ⟨34, 58, 34, 69⟩ ⟨34, 58, 34, 75⟩) (.int 1 0 ⟨34, 78, 34, 79⟩) ⟨34, 58, 34, 79⟩) : Rf.E).ev T G ρ S := (rfl)
theorem e_items_fit_I2a : (items_fit_I2a).ev T G ρ S = ((.cons (.ret (.bl false 0 ⟨35, 15, 35, 20⟩) ⟨35, 8, 35, 20⟩)
 .nil) : Rf.Ss).ev T G ρ S := (rfl)
theorem e_items_fit_I2 : (items_fit_I2).ev T G ρ S = ((.ite (.bop false (.cons (.not (.bfn .any (.cons (.comp items_fit_C0 (.nm 1 ⟨34, 34, 34, 38⟩) (.seq (.var 0 ⟨34, 42, 34, 47⟩)) .nil ⟨.function, [(".0", .local), ("item", .local), ("is_word", .globalImplicit)], false, false, []⟩ [(".0", 2), ("item", 1)] ⟨34, 15, 34, 48⟩) .nil) ⟨34, 11, 34, 14⟩ ⟨34, 11, 34, 49⟩) ⟨34, 7, 34, 49⟩) (.cons (.bfn .any (.cons (.comp items_fit_C1 (.nm 3 ⟨34, 84, 34, 88⟩) (.seq (.glo 3 ⟨34, 92, 34, 97⟩)) .nil ⟨.function, [(".0", .local), ("sign", .local), ("items", .free)], false, false, []⟩ [(".0", 2), ("sign", 3)] ⟨34, 57, 34, 98⟩) .nil) ⟨34, 53, 34, 56⟩ ⟨34, 53, 34, 99⟩) .nil)) ⟨34, 7, 34, 99⟩)
 items_fit_I2a
 .nil ⟨34, 4, 35, 20⟩) : Rf.St).ev T G ρ S := (rfl)
theorem e_b_items_fit : (b_items_fit).ev T G ρ S = ((.cons items_fit_I0
 (.cons items_fit_F0
 (.cons items_fit_I2
 (.cons (.ret (.call 1 (.cons (.var 0 ⟨36, 22, 36, 27⟩) .nil) ⟨36, 11, 36, 21⟩ ⟨36, 11, 36, 28⟩) ⟨36, 4, 36, 28⟩)
 .nil)))) : Rf.Ss).ev T G ρ S := (rfl)
theorem e_rule_tells_C0 : (rule_tells_C0).ev T G ρ S = ((.cmp .mem (.var 4 ⟨40, 35, 40, 39⟩) (.fld (.var 0 ⟨40, 43, 40, 47⟩) 2 ⟨40, 43, 40, 54⟩) ⟨40, 35, 40, 54⟩) : Rf.E).ev T G ρ S := (rfl)
theorem e_b_rule_tells : (b_rule_tells).ev T G ρ S = ((.cons (.set 1 (.bop false (.cons (.cmp .eq (.fld (.var 0 ⟨38, 11, 38, 15⟩) 0 ⟨38, 11, 38, 21⟩) (.fld (.var 0 ⟨38, 25, 38, 29⟩) 1 ⟨38, 25, 38, 34⟩) ⟨38, 11, 38, 34⟩) (.cons (.cmp .mem (.str "R" 0 ⟨38, 38, 38, 41⟩) (.fld (.var 0 ⟨38, 45, 38, 49⟩) 2 ⟨38, 45, 38, 56⟩) ⟨38, 38, 38, 56⟩) (.cons (.cmp .mem (.str "K" 0 ⟨38, 60, 38, 63⟩) (.fld (.var 0 ⟨38, 67, 38, 71⟩) 2 ⟨38, 67, 38, 78⟩) ⟨38, 60, 38, 78⟩) .nil))) ⟨38, 11, 38, 78⟩) ⟨38, 4, 38, 8⟩ ⟨38, 4, 38, 78⟩)
 (.cons (.set 2 (.cmp .eq (.bin .fdiv (.fld (.var 0 ⟨39, 12, 39, 16⟩) 3 ⟨39, 12, 39, 20⟩) (.fld (.var 0 ⟨39, 24, 39, 28⟩) 4 ⟨39, 24, 39, 33⟩) ⟨39, 12, 39, 33⟩) (.bin .fdiv (.fld (.var 0 ⟨39, 37, 39, 41⟩) 5 ⟨39, 37, 39, 46⟩) (.fld (.var 0 ⟨39, 50, 39, 54⟩) 4 ⟨39, 50, 39, 59⟩) ⟨39, 37, 39, 59⟩) ⟨39, 12, 39, 59⟩) ⟨39, 4, 39, 9⟩ ⟨39, 4, 39, 59⟩)
 (.cons (.ret (.bop true (.cons (.var 1 ⟨40, 11, 40, 15⟩) (.cons (.bop false (.cons (.var 2 ⟨40, 21, 40, 26⟩) (.cons (.bfn .any (.cons (.comp rule_tells_C0 (.nm 4 ⟨40, 59, 40, 63⟩) (.seq (.tup (.cons (.str "Q" 0 ⟨40, 68, 40, 71⟩) (.cons (.str "N" 0 ⟨40, 73, 40, 76⟩) (.cons (.str "W" 0 ⟨40, 78, 40, 81⟩) (.cons (.str "U" 0 ⟨40, 83, 40, 86⟩) .nil)))) 0 ⟨40, 67, 40, 87⟩)) .nil ⟨.function, [(".0", .local), ("sign", .local), ("rule", .free)], false, false, []⟩ [(".0", 3), ("sign", 4)] ⟨40, 34, 40, 88⟩) .nil) ⟨40, 30, 40, 33⟩ ⟨40, 30, 40, 89⟩) .nil)) ⟨40, 21, 40, 89⟩) .nil)) ⟨40, 11, 40, 90⟩) ⟨40, 4, 40, 90⟩)
 .nil))) : Rf.Ss).ev T G ρ S := (rfl)
theorem e_is_melt_C0 : (is_melt_C0).ev T G ρ S = ((.cmp .ne (.mth .strip (.var 5 ⟨58, 30, 58, 34⟩) (.cons (.glo 0 ⟨58, 41, 58, 46⟩) .nil) ⟨58, 30, 58, 40⟩ ⟨58, 30, 58, 47⟩) (.str "" 0 ⟨58, 51, 58, 53⟩) ⟨58, 30, 58, 53⟩) : Rf.E).ev T G ρ S := (rfl)
theorem e_is_melt_I0a : (is_melt_I0a).ev T G ρ S = ((.cons (.ret (.bl false 0 ⟨59, 15, 59, 20⟩) ⟨59, 8, 59, 20⟩)
 .nil) : Rf.Ss).ev T G ρ S := (rfl)
theorem e_is_melt_I0 : (is_melt_I0).ev T G ρ S = ((.ite (.bop false (.cons (.cmp .ne (.bfn .len (.cons (.var 0 ⟨58, 11, 58, 15⟩) .nil) ⟨58, 7, 58, 10⟩ ⟨58, 7, 58, 16⟩) (.int 3 0 ⟨58, 20, 58, 21⟩) ⟨58, 7, 58, 21⟩) (.cons (.bfn .any (.cons (.comp is_melt_C0 (.nm 5 ⟨58, 58, 58, 62⟩) (.seq (.var 0 ⟨58, 66, 58, 70⟩)) .nil ⟨.function, [(".0", .local), ("text", .local), ("SMALL", .globalImplicit)], false, false, []⟩ [(".0", 4), ("text", 5)] ⟨58, 29, 58, 71⟩) .nil) ⟨58, 25, 58, 28⟩ ⟨58, 25, 58, 72⟩) .nil)) ⟨58, 7, 58, 72⟩)
 is_melt_I0a
 .nil ⟨58, 4, 59, 20⟩) : Rf.St).ev T G ρ S := (rfl)
theorem e_is_melt_C1 : (is_melt_C1).ev T G ρ S = ((.bfn .len (.cons (.var 5 ⟨60, 31, 60, 35⟩) .nil) ⟨60, 27, 60, 30⟩ ⟨60, 27, 60, 36⟩) : Rf.E).ev T G ρ S := (rfl)
theorem e_b_is_melt : (b_is_melt).ev T G ρ S = ((.cons is_melt_I0
 (.cons (.unp true (.tp [(1, ⟨60, 4, 60, 9⟩), (2, ⟨60, 11, 60, 17⟩), (3, ⟨60, 19, 60, 23⟩)] 0 ⟨60, 4, 60, 23⟩) (.comp is_melt_C1 (.nm 5 ⟨60, 41, 60, 45⟩) (.seq (.var 0 ⟨60, 49, 60, 53⟩)) .nil ⟨.function, [(".0", .local), ("text", .local), ("len", .globalImplicit)], false, false, []⟩ [(".0", 4), ("text", 5)] ⟨60, 26, 60, 54⟩) ⟨60, 4, 60, 54⟩)
 (.cons (.ret (.bop true (.cons (.ch2 .le .le (.int 1 0 ⟨61, 11, 61, 12⟩) (.var 1 ⟨61, 16, 61, 21⟩) (.int 3 0 ⟨61, 25, 61, 26⟩) ⟨61, 11, 61, 26⟩) (.cons (.ch2 .le .le (.int 1 0 ⟨61, 31, 61, 32⟩) (.var 2 ⟨61, 36, 61, 42⟩) (.int 3 0 ⟨61, 46, 61, 47⟩) ⟨61, 31, 61, 47⟩) (.cons (.ch2 .le .le (.bfn .max (.cons (.int 1 0 ⟨61, 57, 61, 58⟩) (.cons (.bin .sub (.bin .add (.var 1 ⟨61, 60, 61, 65⟩) (.var 2 ⟨61, 68, 61, 74⟩) ⟨61, 60, 61, 74⟩) (.int 1 0 ⟨61, 77, 61, 78⟩) ⟨61, 60, 61, 78⟩) .nil)) ⟨61, 53, 61, 56⟩ ⟨61, 53, 61, 79⟩) (.var 3 ⟨61, 83, 61, 87⟩) (.int 6 0 ⟨61, 91, 61, 92⟩) ⟨61, 53, 61, 92⟩) .nil))) ⟨61, 11, 61, 93⟩) ⟨61, 4, 61, 93⟩)
 .nil))) : Rf.Ss).ev T G ρ S := (rfl)
theorem e_is_title_I0a : (is_title_I0a).ev T G ρ S = ((.cons (.ret (.bl false 0 ⟨81, 15, 81, 20⟩) ⟨81, 8, 81, 20⟩)
 .nil) : Rf.Ss).ev T G ρ S := (rfl)
theorem e_is_title_I0 : (is_title_I0).ev T G ρ S = ((.ite (.not (.ch2 .le .le (.int 1 0 ⟨80, 11, 80, 12⟩) (.bfn .len (.cons (.var 0 ⟨80, 20, 80, 24⟩) .nil) ⟨80, 16, 80, 19⟩ ⟨80, 16, 80, 25⟩) (.int 8 0 ⟨80, 29, 80, 30⟩) ⟨80, 11, 80, 30⟩) ⟨80, 7, 80, 30⟩)
 is_title_I0a
 .nil ⟨80, 4, 81, 20⟩) : Rf.St).ev T G ρ S := (rfl)
theorem e_is_title_C0 : (is_title_C0).ev T G ρ S = ((.cmp .mem (.var 2 ⟨82, 16, 82, 20⟩) (.glo 4 ⟨82, 24, 82, 31⟩) ⟨82, 16, 82, 31⟩) : Rf.E).ev T G ρ S := (rfl)
theorem e_b_is_title : (b_is_title).ev T G ρ S = ((.cons is_title_I0
 (.cons (.ret (.bfn .all (.cons (.comp is_title_C0 (.nm 2 ⟨82, 36, 82, 40⟩) (.seq (.var 0 ⟨82, 44, 82, 48⟩)) .nil ⟨.function, [(".0", .local), ("sign", .local), ("LETTERS", .globalImplicit)], false, false, []⟩ [(".0", 1), ("sign", 2)] ⟨82, 15, 82, 49⟩) .nil) ⟨82, 11, 82, 14⟩ ⟨82, 11, 82, 50⟩) ⟨82, 4, 82, 50⟩)
 .nil)) : Rf.Ss).ev T G ρ S := (rfl)
theorem e_are_turns_I0a : (are_turns_I0a).ev T G ρ S = ((.cons (.ret (.bl false 0 ⟨87, 19, 87, 24⟩) ⟨87, 12, 87, 24⟩)
 .nil) : Rf.Ss).ev T G ρ S := (rfl)
theorem e_are_turns_I0 : (are_turns_I0).ev T G ρ S = ((.ite (.bop false (.cons (.cmp .ne (.bfn .len (.cons (.var 2 ⟨86, 15, 86, 19⟩) .nil) ⟨86, 11, 86, 14⟩ ⟨86, 11, 86, 20⟩) (.int 2 0 ⟨86, 24, 86, 25⟩) ⟨86, 11, 86, 25⟩) (.cons (.not (.call 0 (.cons (.ix (.var 2 ⟨86, 41, 86, 45⟩) (.int 0 0 ⟨86, 46, 86, 47⟩) ⟨86, 41, 86, 48⟩) .nil) ⟨86, 33, 86, 40⟩ ⟨86, 33, 86, 49⟩) ⟨86, 29, 86, 49⟩) (.cons (.not (.call 0 (.cons (.ix (.var 2 ⟨86, 66, 86, 70⟩) (.int 1 0 ⟨86, 71, 86, 72⟩) ⟨86, 66, 86, 73⟩) .nil) ⟨86, 58, 86, 65⟩ ⟨86, 58, 86, 74⟩) ⟨86, 54, 86, 74⟩) (.cons (.cmp .mem (.ix (.var 2 ⟨86, 80, 86, 84⟩) (.int 0 0 ⟨86, 85, 86, 86⟩) ⟨86, 80, 86, 87⟩) (.var 1 ⟨86, 91, 86, 97⟩) ⟨86, 80, 86, 97⟩) .nil)))) ⟨86, 11, 86, 98⟩)
 are_turns_I0a
 .nil ⟨86, 8, 87, 24⟩) : Rf.St).ev T G ρ S := (rfl)
theorem e_are_turns_F0b : (are_turns_F0b).ev T G ρ S = ((.cons are_turns_I0
 (.cons (.mut .append (.var 1 ⟨88, 8, 88, 14⟩) (.cons (.ix (.var 2 ⟨88, 22, 88, 26⟩) (.int 0 0 ⟨88, 27, 88, 28⟩) ⟨88, 22, 88, 29⟩) .nil) ⟨88, 8, 88, 21⟩ ⟨88, 8, 88, 30⟩ ⟨88, 8, 88, 30⟩)
 .nil)) : Rf.Ss).ev T G ρ S := (rfl)
theorem e_are_turns_F0 : (are_turns_F0).ev T G ρ S = ((.forr (.nm 2 ⟨85, 8, 85, 12⟩) (.seq (.var 0 ⟨85, 16, 85, 21⟩))
 are_turns_F0b ⟨85, 4, 88, 30⟩) : Rf.St).ev T G ρ S := (rfl)
theorem e_b_are_turns : (b_are_turns).ev T G ρ S = ((.cons (.set 1 (.new (.lst .nil ⟨84, 13, 84, 15⟩)) ⟨84, 4, 84, 10⟩ ⟨84, 4, 84, 15⟩)
 (.cons are_turns_F0
 (.frz 1 (.cons (.ret (.bl true 0 ⟨89, 11, 89, 15⟩) ⟨89, 4, 89, 15⟩)
 .nil)))) : Rf.Ss).ev T G ρ S := (rfl)
theorem e_rule_row_I0a : (rule_row_I0a).ev T G ρ S = ((.cons (.ret (.fstr (.cons (.str "word " 0 ⟨103, 17, 103, 22⟩) (.cons (.fmt (.var 1 ⟨103, 23, 103, 26⟩) ⟨103, 22, 103, 27⟩) (.cons (.str " " 0 ⟨103, 27, 103, 28⟩) (.cons (.fmt (.ix (.fld (.var 0 ⟨103, 29, 103, 33⟩) 2 ⟨103, 29, 103, 40⟩) (.int 0 0 ⟨103, 41, 103, 42⟩) ⟨103, 29, 103, 43⟩) ⟨103, 28, 103, 44⟩) .nil)))) ⟨103, 15, 103, 45⟩) ⟨103, 8, 103, 45⟩)
 .nil) : Rf.Ss).ev T G ρ S := (rfl)
theorem e_rule_row_I0 : (rule_row_I0).ev T G ρ S = ((.ite (.bop true (.cons (.var 2 ⟨102, 7, 102, 12⟩) (.cons (.cmp .eq (.lst (.cons (.fld (.var 0 ⟨102, 18, 102, 22⟩) 5 ⟨102, 18, 102, 27⟩) (.cons (.fld (.var 0 ⟨102, 29, 102, 33⟩) 4 ⟨102, 29, 102, 38⟩) (.cons (.fld (.var 0 ⟨102, 40, 102, 44⟩) 0 ⟨102, 40, 102, 50⟩) (.cons (.fld (.var 0 ⟨102, 52, 102, 56⟩) 1 ⟨102, 52, 102, 61⟩) .nil)))) ⟨102, 17, 102, 62⟩) (.lst (.cons (.var 1 ⟨102, 67, 102, 70⟩) (.cons (.int 2 0 ⟨102, 72, 102, 73⟩) (.cons (.bin .mod (.var 1 ⟨102, 75, 102, 78⟩) (.int 2 0 ⟨102, 81, 102, 82⟩) ⟨102, 75, 102, 82⟩) (.cons (.bin .mod (.var 1 ⟨102, 84, 102, 87⟩) (.int 2 0 ⟨102, 90, 102, 91⟩) ⟨102, 84, 102, 91⟩) .nil)))) ⟨102, 66, 102, 92⟩) ⟨102, 17, 102, 92⟩) .nil)) ⟨102, 7, 102, 92⟩)
 rule_row_I0a
 .nil ⟨102, 4, 103, 45⟩) : Rf.St).ev T G ρ S := (rfl)
theorem e_rule_row_C0 : (rule_row_C0).ev T G ρ S = ((.bfn .str (.cons (.var 5 ⟨105, 36, 105, 42⟩) .nil) ⟨105, 32, 105, 35⟩ ⟨105, 32, 105, 43⟩) : Rf.E).ev T G ρ S := (rfl)
theorem e_b_rule_row : (b_rule_row).ev T G ρ S = ((.cons (.set 1 (.fld (.var 0 ⟨100, 10, 100, 14⟩) 3 ⟨100, 10, 100, 18⟩) ⟨100, 4, 100, 7⟩ ⟨100, 4, 100, 18⟩)
 (.cons (.set 2 (.bop true (.cons (.cmp .eq (.bfn .len (.cons (.fld (.var 0 ⟨101, 16, 101, 20⟩) 2 ⟨101, 16, 101, 27⟩) .nil) ⟨101, 12, 101, 15⟩ ⟨101, 12, 101, 28⟩) (.int 1 0 ⟨101, 32, 101, 33⟩) ⟨101, 12, 101, 33⟩) (.cons (.call 0 (.cons (.ix (.fld (.var 0 ⟨101, 46, 101, 50⟩) 2 ⟨101, 46, 101, 57⟩) (.int 0 0 ⟨101, 58, 101, 59⟩) ⟨101, 46, 101, 60⟩) .nil) ⟨101, 38, 101, 45⟩ ⟨101, 38, 101, 61⟩) .nil)) ⟨101, 12, 101, 61⟩) ⟨101, 4, 101, 9⟩ ⟨101, 4, 101, 61⟩)
 (.cons rule_row_I0
 (.cons (.set 3 (.lst (.cons (.var 1 ⟨104, 15, 104, 18⟩) (.cons (.fld (.var 0 ⟨104, 20, 104, 24⟩) 5 ⟨104, 20, 104, 29⟩) (.cons (.fld (.var 0 ⟨104, 31, 104, 35⟩) 4 ⟨104, 31, 104, 40⟩) (.cons (.fld (.var 0 ⟨104, 42, 104, 46⟩) 0 ⟨104, 42, 104, 52⟩) (.cons (.fld (.var 0 ⟨104, 54, 104, 58⟩) 1 ⟨104, 54, 104, 63⟩) .nil))))) ⟨104, 14, 104, 64⟩) ⟨104, 4, 104, 11⟩ ⟨104, 4, 104, 64⟩)
 (.cons (.ret (.mth .join (.str " " 0 ⟨105, 11, 105, 14⟩) (.cons (.bin .add (.bin .add (.bin .add (.lst (.cons (.str "rule" 0 ⟨105, 21, 105, 27⟩) .nil) ⟨105, 20, 105, 28⟩) (.comp rule_row_C0 (.nm 5 ⟨105, 48, 105, 54⟩) (.seq (.var 3 ⟨105, 58, 105, 65⟩)) .nil ⟨.function, [(".0", .local), ("number", .local), ("str", .globalImplicit)], false, false, []⟩ [(".0", 4), ("number", 5)] ⟨105, 31, 105, 66⟩) ⟨105, 20, 105, 66⟩) (.lst (.cons (.str ":" 0 ⟨105, 70, 105, 73⟩) .nil) ⟨105, 69, 105, 74⟩) ⟨105, 20, 105, 74⟩) (.fld (.var 0 ⟨105, 77, 105, 81⟩) 2 ⟨105, 77, 105, 88⟩) ⟨105, 20, 105, 88⟩) .nil) ⟨105, 11, 105, 19⟩ ⟨105, 11, 105, 89⟩) ⟨105, 4, 105, 89⟩)
 .nil))))) : Rf.Ss).ev T G ρ S := (rfl)
theorem e_tongue_text_C0 : (tongue_text_C0).ev T G ρ S = ((.call 7 (.cons (.var 4 ⟨107, 49, 107, 53⟩) .nil) ⟨107, 40, 107, 48⟩ ⟨107, 40, 107, 54⟩) : Rf.E).ev T G ρ S := (rfl)
theorem e_tongue_text_C1 : (tongue_text_C1).ev T G ρ S = ((.mth .join (.str " " 0 ⟨108, 17, 108, 20⟩) (.cons (.bin .add (.lst (.cons (.str "melt" 0 ⟨108, 27, 108, 33⟩) .nil) ⟨108, 26, 108, 34⟩) (.bfn .list (.cons (.var 5 ⟨108, 42, 108, 46⟩) .nil) ⟨108, 37, 108, 41⟩ ⟨108, 37, 108, 47⟩) ⟨108, 26, 108, 47⟩) .nil) ⟨108, 17, 108, 25⟩ ⟨108, 17, 108, 48⟩) : Rf.E).ev T G ρ S := (rfl)
theorem e_tongue_text_C2 : (tongue_text_C2).ev T G ρ S = ((.mth .join (.str " " 0 ⟨111, 21, 111, 24⟩) (.cons (.bin .add (.lst (.cons (.str "turn" 0 ⟨111, 31, 111, 37⟩) .nil) ⟨111, 30, 111, 38⟩) (.bfn .list (.cons (.var 6 ⟨111, 46, 111, 50⟩) .nil) ⟨111, 41, 111, 45⟩ ⟨111, 41, 111, 51⟩) ⟨111, 30, 111, 51⟩) .nil) ⟨111, 21, 111, 29⟩ ⟨111, 21, 111, 52⟩) : Rf.E).ev T G ρ S := (rfl)
theorem e_tongue_text_F0b : (tongue_text_F0b).ev T G ρ S = ((.cons (.mut .append (.var 1 ⟨110, 8, 110, 12⟩) (.cons (.fstr (.cons (.str "kind " 0 ⟨110, 22, 110, 27⟩) (.cons (.fmt (.fld (.var 2 ⟨110, 28, 110, 32⟩) 10 ⟨110, 28, 110, 38⟩) ⟨110, 27, 110, 39⟩) (.cons (.str " " 0 ⟨110, 39, 110, 40⟩) (.cons (.fmt (.fld (.var 2 ⟨110, 41, 110, 45⟩) 11 ⟨110, 41, 110, 52⟩) ⟨110, 40, 110, 53⟩) .nil)))) ⟨110, 20, 110, 54⟩) .nil) ⟨110, 8, 110, 19⟩ ⟨110, 8, 110, 55⟩ ⟨110, 8, 110, 55⟩)
 (.cons (.mut .extend (.var 1 ⟨111, 8, 111, 12⟩) (.cons (.comp tongue_text_C2 (.nm 6 ⟨111, 57, 111, 61⟩) (.seq (.fld (.var 2 ⟨111, 65, 111, 69⟩) 12 ⟨111, 65, 111, 75⟩)) .nil ⟨.function, [(".0", .local), ("pair", .local), ("list", .globalImplicit)], false, false, []⟩ [(".0", 3), ("pair", 6)] ⟨111, 20, 111, 76⟩) .nil) ⟨111, 8, 111, 19⟩ ⟨111, 8, 111, 77⟩ ⟨111, 8, 111, 77⟩)
 .nil)) : Rf.Ss).ev T G ρ S := (rfl)
theorem e_tongue_text_F0 : (tongue_text_F0).ev T G ρ S = ((.forr (.nm 2 ⟨109, 8, 109, 12⟩) (.seq (.fld (.var 0 ⟨109, 16, 109, 22⟩) 9 ⟨109, 16, 109, 28⟩))
 tongue_text_F0b ⟨109, 4, 111, 77⟩) : Rf.St).ev T G ρ S := (rfl)
theorem e_tongue_text_C3 : (tongue_text_C3).ev T G ρ S = ((.bin .add (.var 7 ⟨112, 20, 112, 23⟩) (.str "\n" 0 ⟨112, 26, 112, 30⟩) ⟨112, 20, 112, 30⟩) : Rf.E).ev T G ρ S := (rfl)
theorem e_b_tongue_text : (b_tongue_text).ev T G ρ S = ((.cons (.set 1 (.new (.bin .add (.lst (.cons (.fstr (.cons (.str "bound " 0 ⟨107, 14, 107, 20⟩) (.cons (.fmt (.fld (.var 0 ⟨107, 21, 107, 27⟩) 6 ⟨107, 21, 107, 33⟩) ⟨107, 20, 107, 34⟩) .nil)) ⟨107, 12, 107, 35⟩) .nil) ⟨107, 11, 107, 36⟩) (.comp tongue_text_C0 (.nm 4 ⟨107, 59, 107, 63⟩) (.seq (.fld (.var 0 ⟨107, 67, 107, 73⟩) 7 ⟨107, 67, 107, 79⟩)) .nil ⟨.function, [(".0", .local), ("rule", .local), ("rule_row", .globalImplicit)], false, false, []⟩ [(".0", 3), ("rule", 4)] ⟨107, 39, 107, 80⟩) ⟨107, 11, 107, 80⟩)) ⟨107, 4, 107, 8⟩ ⟨107, 4, 107, 80⟩)
 (.cons (.mut .extend (.var 1 ⟨108, 4, 108, 8⟩) (.cons (.comp tongue_text_C1 (.nm 5 ⟨108, 53, 108, 57⟩) (.seq (.fld (.var 0 ⟨108, 61, 108, 67⟩) 8 ⟨108, 61, 108, 73⟩)) .nil ⟨.function, [(".0", .local), ("melt", .local), ("list", .globalImplicit)], false, false, []⟩ [(".0", 3), ("melt", 5)] ⟨108, 16, 108, 74⟩) .nil) ⟨108, 4, 108, 15⟩ ⟨108, 4, 108, 75⟩ ⟨108, 4, 108, 75⟩)
 (.cons tongue_text_F0
 (.frz 1 (.cons (.ret (.mth .join (.str "" 0 ⟨112, 11, 112, 13⟩) (.cons (.comp tongue_text_C3 (.nm 7 ⟨112, 35, 112, 38⟩) (.seq (.var 1 ⟨112, 42, 112, 46⟩)) .nil ⟨.function, [(".0", .local), ("row", .local)], false, false, []⟩ [(".0", 3), ("row", 7)] ⟨112, 19, 112, 47⟩) .nil) ⟨112, 11, 112, 18⟩ ⟨112, 11, 112, 48⟩) ⟨112, 4, 112, 48⟩)
 .nil))))) : Rf.Ss).ev T G ρ S := (rfl)
theorem e_l_begin_F0b : (l_begin_F0b).ev T G ρ S = ((.cons (.set 1 (.bin .mod (.bin .add (.bin .add (.bin .mul (.var 1 ⟨117, 23, 117, 34⟩) (.int 69621 0 ⟨117, 37, 117, 42⟩) ⟨117, 23, 117, 42⟩) (.bin .mod (.var 2 ⟨117, 45, 117, 54⟩) (.int 2147483647 0 ⟨117, 57, 117, 67⟩) ⟨117, 45, 117, 67⟩) ⟨117, 23, 117, 67⟩) (.int 11 0 ⟨117, 70, 117, 72⟩) ⟨117, 23, 117, 72⟩) (.int 2147483647 0 ⟨117, 76, 117, 86⟩) ⟨117, 22, 117, 86⟩) ⟨117, 8, 117, 19⟩ ⟨117, 8, 117, 86⟩)
 .nil) : Rf.Ss).ev T G ρ S := (rfl)
theorem e_l_begin_F0 : (l_begin_F0).ev T G ρ S = ((.forr (.nm 2 ⟨116, 8, 116, 17⟩) (.seq (.var 0 ⟨116, 21, 116, 32⟩))
 l_begin_F0b ⟨116, 4, 117, 86⟩) : Rf.St).ev T G ρ S := (rfl)
theorem e_b_l_begin : (b_l_begin).ev T G ρ S = ((.cons (.set 1 (.int 7 0 ⟨115, 18, 115, 19⟩) ⟨115, 4, 115, 15⟩ ⟨115, 4, 115, 19⟩)
 (.cons l_begin_F0
 (.cons (.ret (.new (.lst (.cons (.int 0 0 ⟨118, 12, 118, 13⟩) (.cons (.var 1 ⟨118, 15, 118, 26⟩) .nil)) ⟨118, 11, 118, 27⟩)) ⟨118, 4, 118, 27⟩)
 .nil))) : Rf.Ss).ev T G ρ S := (rfl)
theorem e_l_next_I0a : (l_next_I0a).ev T G ρ S = ((.cons (.set 2 (.ix (.var 0 ⟨123, 20, 123, 31⟩) (.bin .mod (.ix (.var 1 ⟨123, 32, 123, 39⟩) (.int 0 0 ⟨123, 40, 123, 41⟩) ⟨123, 32, 123, 42⟩) (.bfn .len (.cons (.var 0 ⟨123, 49, 123, 60⟩) .nil) ⟨123, 45, 123, 48⟩ ⟨123, 45, 123, 61⟩) ⟨123, 32, 123, 61⟩) ⟨123, 20, 123, 62⟩) ⟨123, 8, 123, 17⟩ ⟨123, 8, 123, 62⟩)
 .nil) : Rf.Ss).ev T G ρ S := (rfl)
theorem e_l_next_I0 : (l_next_I0).ev T G ρ S = ((.ite (.cmp .gt (.bfn .len (.cons (.var 0 ⟨122, 11, 122, 22⟩) .nil) ⟨122, 7, 122, 10⟩ ⟨122, 7, 122, 23⟩) (.int 0 0 ⟨122, 26, 122, 27⟩) ⟨122, 7, 122, 27⟩)
 l_next_I0a
 .nil ⟨122, 4, 123, 62⟩) : Rf.St).ev T G ρ S := (rfl)
theorem e_b_l_next : (b_l_next).ev T G ρ S = ((.cons (.ist (.var 1 ⟨120, 4, 120, 11⟩) (.int 0 0 ⟨120, 12, 120, 13⟩) (.bin .add (.ix (.var 1 ⟨120, 17, 120, 24⟩) (.int 0 0 ⟨120, 25, 120, 26⟩) ⟨120, 17, 120, 27⟩) (.int 1 0 ⟨120, 30, 120, 31⟩) ⟨120, 17, 120, 31⟩) ⟨120, 4, 120, 14⟩ ⟨120, 4, 120, 31⟩)
 (.cons (.set 2 (.int 0 0 ⟨121, 16, 121, 17⟩) ⟨121, 4, 121, 13⟩ ⟨121, 4, 121, 17⟩)
 (.cons l_next_I0
 (.cons (.ist (.var 1 ⟨124, 4, 124, 11⟩) (.int 1 0 ⟨124, 12, 124, 13⟩) (.bin .mod (.bin .mul (.bin .add (.bin .add (.ix (.var 1 ⟨124, 18, 124, 25⟩) (.int 1 0 ⟨124, 26, 124, 27⟩) ⟨124, 18, 124, 28⟩) (.bin .mod (.var 2 ⟨124, 31, 124, 40⟩) (.int 2147483647 0 ⟨124, 43, 124, 53⟩) ⟨124, 31, 124, 53⟩) ⟨124, 18, 124, 53⟩) (.bin .mul (.ix (.var 1 ⟨124, 56, 124, 63⟩) (.int 0 0 ⟨124, 64, 124, 65⟩) ⟨124, 56, 124, 66⟩) (.ix (.var 1 ⟨124, 69, 124, 76⟩) (.int 0 0 ⟨124, 77, 124, 78⟩) ⟨124, 69, 124, 79⟩) ⟨124, 56, 124, 79⟩) ⟨124, 18, 124, 79⟩) (.int 48271 0 ⟨124, 83, 124, 88⟩) ⟨124, 17, 124, 88⟩) (.int 2147483629 0 ⟨124, 91, 124, 101⟩) ⟨124, 17, 124, 101⟩) ⟨124, 4, 124, 14⟩ ⟨124, 4, 124, 101⟩)
 (.cons (.ret (.bin .fdiv (.ix (.var 1 ⟨125, 11, 125, 18⟩) (.int 1 0 ⟨125, 19, 125, 20⟩) ⟨125, 11, 125, 21⟩) (.int 3 0 ⟨125, 25, 125, 26⟩) ⟨125, 11, 125, 26⟩) ⟨125, 4, 125, 26⟩)
 .nil))))) : Rf.Ss).ev T G ρ S := (rfl)
theorem e_l_words_C0 : (l_words_C0).ev T G ρ S = ((.bin .add (.bin .add (.sl (.var 7 ⟨133, 12, 133, 21⟩) .no (.so (.var 6 ⟨133, 23, 133, 32⟩)) ⟨133, 22, 133, 32⟩ ⟨133, 12, 133, 33⟩) (.ix (.var 3 ⟨133, 36, 133, 48⟩) (.bin .mod (.bin .add (.var 8 ⟨133, 50, 133, 60⟩) (.var 10 ⟨133, 63, 133, 69⟩) ⟨133, 50, 133, 69⟩) (.int 26 0 ⟨133, 73, 133, 75⟩) ⟨133, 49, 133, 75⟩) ⟨133, 36, 133, 76⟩) ⟨133, 12, 133, 76⟩) (.sl (.var 7 ⟨133, 79, 133, 88⟩) (.so (.bin .add (.var 6 ⟨133, 89, 133, 98⟩) (.int 1 0 ⟨133, 101, 133, 102⟩) ⟨133, 89, 133, 102⟩)) .no ⟨133, 89, 133, 103⟩ ⟨133, 79, 133, 104⟩) ⟨133, 12, 133, 104⟩) : Rf.E).ev T G ρ S := (rfl)
theorem e_b_l_words : (b_l_words).ev T G ρ S = ((.cons (.set 3 (.str "abcdefghijklmnopqrstuvwxyz" 0 ⟨127, 19, 127, 47⟩) ⟨127, 4, 127, 16⟩ ⟨127, 4, 127, 47⟩)
 (.cons (.set 4 (.call 10 (.cons (.var 0 ⟨128, 23, 128, 34⟩) (.cons (.var 1 ⟨128, 36, 128, 43⟩) .nil)) ⟨128, 13, 128, 22⟩ ⟨128, 13, 128, 44⟩) ⟨128, 4, 128, 10⟩ ⟨128, 4, 128, 44⟩)
 (.cons (.set 5 (.bin .add (.int 2 0 ⟨129, 16, 129, 17⟩) (.bin .mod (.var 4 ⟨129, 20, 129, 26⟩) (.int 9 0 ⟨129, 29, 129, 30⟩) ⟨129, 20, 129, 30⟩) ⟨129, 16, 129, 30⟩) ⟨129, 4, 129, 13⟩ ⟨129, 4, 129, 30⟩)
 (.cons (.set 6 (.bin .mod (.bin .fdiv (.var 4 ⟨130, 16, 130, 22⟩) (.int 9 0 ⟨130, 26, 130, 27⟩) ⟨130, 16, 130, 27⟩) (.var 5 ⟨130, 30, 130, 39⟩) ⟨130, 16, 130, 39⟩) ⟨130, 4, 130, 13⟩ ⟨130, 4, 130, 39⟩)
 (.cons (.set 7 (.sl (.bin .mul (.bin .add (.ix (.var 3 ⟨131, 18, 131, 30⟩) (.bin .mod (.bin .fdiv (.var 4 ⟨131, 31, 131, 37⟩) (.int 81 0 ⟨131, 41, 131, 43⟩) ⟨131, 31, 131, 43⟩) (.int 26 0 ⟨131, 46, 131, 48⟩) ⟨131, 31, 131, 48⟩) ⟨131, 18, 131, 49⟩) (.ix (.var 3 ⟨131, 52, 131, 64⟩) (.bin .mod (.bin .fdiv (.var 4 ⟨131, 65, 131, 71⟩) (.int 2106 0 ⟨131, 75, 131, 79⟩) ⟨131, 65, 131, 79⟩) (.int 26 0 ⟨131, 82, 131, 84⟩) ⟨131, 65, 131, 84⟩) ⟨131, 52, 131, 85⟩) ⟨131, 18, 131, 85⟩) (.int 5 0 ⟨131, 89, 131, 90⟩) ⟨131, 17, 131, 90⟩) .no (.so (.var 5 ⟨131, 93, 131, 102⟩)) ⟨131, 92, 131, 102⟩ ⟨131, 16, 131, 103⟩) ⟨131, 4, 131, 13⟩ ⟨131, 4, 131, 103⟩)
 (.cons (.set 8 (.bin .mod (.bin .fdiv (.var 4 ⟨132, 17, 132, 23⟩) (.int 54756 0 ⟨132, 27, 132, 32⟩) ⟨132, 17, 132, 32⟩) (.int 26 0 ⟨132, 35, 132, 37⟩) ⟨132, 17, 132, 37⟩) ⟨132, 4, 132, 14⟩ ⟨132, 4, 132, 37⟩)
 (.cons (.ret (.comp l_words_C0 (.nm 10 ⟨133, 109, 133, 115⟩) (.rng (.cons (.var 2 ⟨133, 125, 133, 134⟩) .nil) ⟨133, 119, 133, 124⟩ ⟨133, 119, 133, 135⟩) .nil ⟨.function, [(".0", .local), ("_law_k", .local), ("_law_letters", .free), ("_law_shift", .free), ("_law_spot", .free), ("_law_stem", .free)], false, false, []⟩ [(".0", 9), ("_law_k", 10)] ⟨133, 11, 133, 136⟩) ⟨133, 4, 133, 136⟩)
 .nil))))))) : Rf.Ss).ev T G ρ S := (rfl)
theorem e_b_l_melt : (b_l_melt).ev T G ρ S = ((.cons (.set 3 (.call 10 (.cons (.var 0 ⟨135, 23, 135, 34⟩) (.cons (.var 1 ⟨135, 36, 135, 43⟩) .nil)) ⟨135, 13, 135, 22⟩ ⟨135, 13, 135, 44⟩) ⟨135, 4, 135, 10⟩ ⟨135, 4, 135, 44⟩)
 (.cons (.set 4 (.ix (.var 2 ⟨136, 15, 136, 30⟩) (.bin .mod (.bin .fdiv (.var 3 ⟨136, 31, 136, 37⟩) (.int 9 0 ⟨136, 41, 136, 42⟩) ⟨136, 31, 136, 42⟩) (.bfn .len (.cons (.var 2 ⟨136, 49, 136, 64⟩) .nil) ⟨136, 45, 136, 48⟩ ⟨136, 45, 136, 65⟩) ⟨136, 31, 136, 65⟩) ⟨136, 15, 136, 66⟩) ⟨136, 4, 136, 12⟩ ⟨136, 4, 136, 66⟩)
 (.cons (.set 5 (.ix (.var 2 ⟨137, 17, 137, 32⟩) (.bin .mod (.call 10 (.cons (.var 0 ⟨137, 43, 137, 54⟩) (.cons (.var 1 ⟨137, 56, 137, 63⟩) .nil)) ⟨137, 33, 137, 42⟩ ⟨137, 33, 137, 64⟩) (.bfn .len (.cons (.var 2 ⟨137, 71, 137, 86⟩) .nil) ⟨137, 67, 137, 70⟩ ⟨137, 67, 137, 87⟩) ⟨137, 33, 137, 87⟩) ⟨137, 17, 137, 88⟩) ⟨137, 4, 137, 14⟩ ⟨137, 4, 137, 88⟩)
 (.cons (.set 6 (.sl (.var 4 ⟨138, 17, 138, 25⟩) (.so (.neg (.bin .add (.int 1 0 ⟨138, 28, 138, 29⟩) (.bin .mod (.var 3 ⟨138, 32, 138, 38⟩) (.int 3 0 ⟨138, 41, 138, 42⟩) ⟨138, 32, 138, 42⟩) ⟨138, 28, 138, 42⟩) ⟨138, 26, 138, 43⟩)) .no ⟨138, 26, 138, 44⟩ ⟨138, 17, 138, 45⟩) ⟨138, 4, 138, 14⟩ ⟨138, 4, 138, 45⟩)
 (.cons (.set 7 (.sl (.var 5 ⟨139, 18, 139, 28⟩) .no (.so (.bin .add (.int 1 0 ⟨139, 30, 139, 31⟩) (.bin .mod (.bin .fdiv (.var 3 ⟨139, 34, 139, 40⟩) (.int 3 0 ⟨139, 44, 139, 45⟩) ⟨139, 34, 139, 45⟩) (.int 3 0 ⟨139, 48, 139, 49⟩) ⟨139, 34, 139, 49⟩) ⟨139, 30, 139, 49⟩)) ⟨139, 29, 139, 49⟩ ⟨139, 18, 139, 50⟩) ⟨139, 4, 139, 15⟩ ⟨139, 4, 139, 50⟩)
 (.cons (.set 8 (.bfn .min (.cons (.int 6 0 ⟨140, 20, 140, 21⟩) (.cons (.bin .add (.bfn .max (.cons (.int 1 0 ⟨140, 27, 140, 28⟩) (.cons (.bin .sub (.bin .add (.bfn .len (.cons (.var 6 ⟨140, 34, 140, 44⟩) .nil) ⟨140, 30, 140, 33⟩ ⟨140, 30, 140, 45⟩) (.bfn .len (.cons (.var 7 ⟨140, 52, 140, 63⟩) .nil) ⟨140, 48, 140, 51⟩ ⟨140, 48, 140, 64⟩) ⟨140, 30, 140, 64⟩) (.int 1 0 ⟨140, 67, 140, 68⟩) ⟨140, 30, 140, 68⟩) .nil)) ⟨140, 23, 140, 26⟩ ⟨140, 23, 140, 69⟩) (.bin .mod (.call 10 (.cons (.var 0 ⟨140, 82, 140, 93⟩) (.cons (.var 1 ⟨140, 95, 140, 102⟩) .nil)) ⟨140, 72, 140, 81⟩ ⟨140, 72, 140, 103⟩) (.int 3 0 ⟨140, 106, 140, 107⟩) ⟨140, 72, 140, 107⟩) ⟨140, 23, 140, 107⟩) .nil)) ⟨140, 16, 140, 19⟩ ⟨140, 16, 140, 108⟩) ⟨140, 4, 140, 13⟩ ⟨140, 4, 140, 108⟩)
 (.cons (.ret (.tup (.cons (.var 6 ⟨141, 12, 141, 22⟩) (.cons (.var 7 ⟨141, 24, 141, 35⟩) (.cons (.sl (.bin .mul (.bin .add (.bin .add (.bin .add (.ix (.var 5 ⟨141, 39, 141, 49⟩) (.int 0 0 ⟨141, 50, 141, 51⟩) ⟨141, 39, 141, 52⟩) (.str "u" 0 ⟨141, 55, 141, 58⟩) ⟨141, 39, 141, 58⟩) (.ix (.var 4 ⟨141, 61, 141, 69⟩) (.int 0 0 ⟨141, 70, 141, 71⟩) ⟨141, 61, 141, 72⟩) ⟨141, 39, 141, 72⟩) (.str "e" 0 ⟨141, 75, 141, 78⟩) ⟨141, 39, 141, 78⟩) (.int 2 0 ⟨141, 82, 141, 83⟩) ⟨141, 38, 141, 83⟩) (.so (.bin .mod (.var 3 ⟨141, 85, 141, 91⟩) (.int 3 0 ⟨141, 94, 141, 95⟩) ⟨141, 85, 141, 95⟩)) (.so (.bin .add (.bin .mod (.var 3 ⟨141, 96, 141, 102⟩) (.int 3 0 ⟨141, 105, 141, 106⟩) ⟨141, 96, 141, 106⟩) (.var 8 ⟨141, 109, 141, 118⟩) ⟨141, 96, 141, 118⟩)) ⟨141, 85, 141, 118⟩ ⟨141, 37, 141, 119⟩) .nil))) 0 ⟨141, 11, 141, 120⟩) ⟨141, 4, 141, 120⟩)
 .nil))))))) : Rf.Ss).ev T G ρ S := (rfl)
theorem e_l_melts_C0 : (l_melts_C0).ev T G ρ S = ((.call 12 (.cons (.var 0 ⟨144, 22, 144, 33⟩) (.cons (.var 1 ⟨144, 35, 144, 42⟩) (.cons (.var 2 ⟨144, 44, 144, 59⟩) .nil))) ⟨144, 12, 144, 21⟩ ⟨144, 12, 144, 60⟩) : Rf.E).ev T G ρ S := (rfl)
theorem e_b_l_melts : (b_l_melts).ev T G ρ S = ((.cons (.set 4 (.ix (.lst (.cons (.int 0 0 ⟨143, 17, 143, 18⟩) (.cons (.int 1 0 ⟨143, 20, 143, 21⟩) (.cons (.int 2 0 ⟨143, 23, 143, 24⟩) (.cons (.int 4 0 ⟨143, 26, 143, 27⟩) (.cons (.var 3 ⟨143, 29, 143, 38⟩) .nil))))) ⟨143, 16, 143, 39⟩) (.bin .mod (.call 10 (.cons (.var 0 ⟨143, 50, 143, 61⟩) (.cons (.var 1 ⟨143, 63, 143, 70⟩) .nil)) ⟨143, 40, 143, 49⟩ ⟨143, 40, 143, 71⟩) (.int 5 0 ⟨143, 74, 143, 75⟩) ⟨143, 40, 143, 75⟩) ⟨143, 16, 143, 76⟩) ⟨143, 4, 143, 13⟩ ⟨143, 4, 143, 76⟩)
 (.cons (.ret (.comp l_melts_C0 (.nm 6 ⟨144, 65, 144, 71⟩) (.rng (.cons (.bfn .min (.cons (.var 4 ⟨144, 85, 144, 94⟩) (.cons (.var 3 ⟨144, 96, 144, 105⟩) .nil)) ⟨144, 81, 144, 84⟩ ⟨144, 81, 144, 106⟩) .nil) ⟨144, 75, 144, 80⟩ ⟨144, 75, 144, 107⟩) .nil ⟨.function, [(".0", .local), ("_law_k", .local), ("_law_melt", .globalImplicit), ("_law_at", .free), ("_law_script", .free), ("_law_words_here", .free)], false, false, []⟩ [(".0", 5), ("_law_k", 6)] ⟨144, 11, 144, 108⟩) ⟨144, 4, 144, 108⟩)
 .nil)) : Rf.Ss).ev T G ρ S := (rfl)
theorem e_l_great_I0a : (l_great_I0a).ev T G ρ S = ((.cons (.ret (.bin .sub (.bin .sub (.bin .pow (.int 10 0 ⟨148, 15, 148, 17⟩) (.int 60 0 ⟨148, 21, 148, 23⟩) ⟨148, 15, 148, 23⟩) (.int 1 0 ⟨148, 26, 148, 27⟩) ⟨148, 15, 148, 27⟩) (.bin .mod (.bin .fdiv (.var 2 ⟨148, 30, 148, 36⟩) (.int 7 0 ⟨148, 40, 148, 41⟩) ⟨148, 30, 148, 41⟩) (.int 3 0 ⟨148, 44, 148, 45⟩) ⟨148, 30, 148, 45⟩) ⟨148, 15, 148, 45⟩) ⟨148, 8, 148, 45⟩)
 .nil) : Rf.Ss).ev T G ρ S := (rfl)
theorem e_l_great_I0 : (l_great_I0).ev T G ρ S = ((.ite (.cmp .eq (.bin .mod (.var 2 ⟨147, 7, 147, 13⟩) (.int 7 0 ⟨147, 16, 147, 17⟩) ⟨147, 7, 147, 17⟩) (.int 0 0 ⟨147, 21, 147, 22⟩) ⟨147, 7, 147, 22⟩)
 l_great_I0a
 .nil ⟨147, 4, 148, 45⟩) : Rf.St).ev T G ρ S := (rfl)
theorem e_b_l_great : (b_l_great).ev T G ρ S = ((.cons (.set 2 (.call 10 (.cons (.var 0 ⟨146, 23, 146, 34⟩) (.cons (.var 1 ⟨146, 36, 146, 43⟩) .nil)) ⟨146, 13, 146, 22⟩ ⟨146, 13, 146, 44⟩) ⟨146, 4, 146, 10⟩ ⟨146, 4, 146, 44⟩)
 (.cons l_great_I0
 (.cons (.ret (.bin .mod (.bin .mul (.bin .mul (.bin .mul (.bin .mul (.bin .mul (.bin .mul (.bin .mul (.var 2 ⟨149, 11, 149, 17⟩) (.var 2 ⟨149, 20, 149, 26⟩) ⟨149, 11, 149, 26⟩) (.var 2 ⟨149, 29, 149, 35⟩) ⟨149, 11, 149, 35⟩) (.var 2 ⟨149, 38, 149, 44⟩) ⟨149, 11, 149, 44⟩) (.var 2 ⟨149, 47, 149, 53⟩) ⟨149, 11, 149, 53⟩) (.var 2 ⟨149, 56, 149, 62⟩) ⟨149, 11, 149, 62⟩) (.var 2 ⟨149, 65, 149, 71⟩) ⟨149, 11, 149, 71⟩) (.var 2 ⟨149, 74, 149, 80⟩) ⟨149, 11, 149, 80⟩) (.ix (.lst (.cons (.int 10 0 ⟨149, 84, 149, 86⟩) (.cons (.bin .pow (.int 10 0 ⟨149, 88, 149, 90⟩) (.int 20 0 ⟨149, 94, 149, 96⟩) ⟨149, 88, 149, 96⟩) (.cons (.bin .pow (.int 10 0 ⟨149, 98, 149, 100⟩) (.int 59 0 ⟨149, 104, 149, 106⟩) ⟨149, 98, 149, 106⟩) .nil))) ⟨149, 83, 149, 107⟩) (.bin .mod (.var 2 ⟨149, 108, 149, 114⟩) (.int 3 0 ⟨149, 117, 149, 118⟩) ⟨149, 108, 149, 118⟩) ⟨149, 83, 149, 119⟩) ⟨149, 11, 149, 119⟩) ⟨149, 4, 149, 119⟩)
 .nil))) : Rf.Ss).ev T G ρ S := (rfl)
theorem e_l_items_I0a : (l_items_I0a).ev T G ρ S = ((.cons (.mut .append (.var 4 ⟨154, 12, 154, 23⟩) (.cons (.ix (.var 2 ⟨154, 31, 154, 46⟩) (.bin .mod (.call 10 (.cons (.var 0 ⟨154, 57, 154, 68⟩) (.cons (.var 1 ⟨154, 70, 154, 77⟩) .nil)) ⟨154, 47, 154, 56⟩ ⟨154, 47, 154, 78⟩) (.bfn .len (.cons (.var 2 ⟨154, 85, 154, 100⟩) .nil) ⟨154, 81, 154, 84⟩ ⟨154, 81, 154, 101⟩) ⟨154, 47, 154, 101⟩) ⟨154, 31, 154, 102⟩) .nil) ⟨154, 12, 154, 30⟩ ⟨154, 12, 154, 103⟩ ⟨154, 12, 154, 103⟩)
 .nil) : Rf.Ss).ev T G ρ S := (rfl)
theorem e_l_items_I0 : (l_items_I0).ev T G ρ S = ((.ite (.cmp .lt (.bfn .len (.cons (.var 4 ⟨153, 15, 153, 26⟩) .nil) ⟨153, 11, 153, 14⟩ ⟨153, 11, 153, 27⟩) (.int 8 0 ⟨153, 30, 153, 31⟩) ⟨153, 11, 153, 31⟩)
 l_items_I0a
 .nil ⟨153, 8, 154, 103⟩) : Rf.St).ev T G ρ S := (rfl)
theorem e_l_items_F0b : (l_items_F0b).ev T G ρ S = ((.cons l_items_I0
 .nil) : Rf.Ss).ev T G ρ S := (rfl)
theorem e_l_items_F0 : (l_items_F0).ev T G ρ S = ((.forr (.nm 5 ⟨152, 8, 152, 14⟩) (.rng (.cons (.bin .add (.int 1 0 ⟨152, 24, 152, 25⟩) (.bin .mul (.bin .fdiv (.bin .mod (.call 10 (.cons (.var 0 ⟨152, 38, 152, 49⟩) (.cons (.var 1 ⟨152, 51, 152, 58⟩) .nil)) ⟨152, 28, 152, 37⟩ ⟨152, 28, 152, 59⟩) (.int 3 0 ⟨152, 62, 152, 63⟩) ⟨152, 28, 152, 63⟩) (.int 2 0 ⟨152, 67, 152, 68⟩) ⟨152, 28, 152, 68⟩) (.bin .mod (.call 10 (.cons (.var 0 ⟨152, 82, 152, 93⟩) (.cons (.var 1 ⟨152, 95, 152, 102⟩) .nil)) ⟨152, 72, 152, 81⟩ ⟨152, 72, 152, 103⟩) (.int 3 0 ⟨152, 106, 152, 107⟩) ⟨152, 72, 152, 107⟩) ⟨152, 28, 152, 108⟩) ⟨152, 24, 152, 108⟩) .nil) ⟨152, 18, 152, 23⟩ ⟨152, 18, 152, 109⟩)
 l_items_F0b ⟨152, 4, 154, 103⟩) : Rf.St).ev T G ρ S := (rfl)
theorem e_l_items_I1a : (l_items_I1a).ev T G ρ S = ((.cons (.mut .append (.var 6 ⟨158, 12, 158, 27⟩) (.cons (.str "+" 0 ⟨158, 35, 158, 38⟩) .nil) ⟨158, 12, 158, 34⟩ ⟨158, 12, 158, 39⟩ ⟨158, 12, 158, 39⟩)
 .nil) : Rf.Ss).ev T G ρ S := (rfl)
theorem e_l_items_I1 : (l_items_I1).ev T G ρ S = ((.ite (.bop true (.cons (.ch2 .lt .lt (.int 0 0 ⟨157, 11, 157, 12⟩) (.bfn .len (.cons (.var 6 ⟨157, 19, 157, 34⟩) .nil) ⟨157, 15, 157, 18⟩ ⟨157, 15, 157, 35⟩) (.bin .sub (.int 8 0 ⟨157, 38, 157, 39⟩) (.bfn .len (.cons (.var 4 ⟨157, 46, 157, 57⟩) .nil) ⟨157, 42, 157, 45⟩ ⟨157, 42, 157, 58⟩) ⟨157, 38, 157, 58⟩) ⟨157, 11, 157, 58⟩) (.cons (.cmp .eq (.bin .mod (.call 10 (.cons (.var 0 ⟨157, 73, 157, 84⟩) (.cons (.var 1 ⟨157, 86, 157, 93⟩) .nil)) ⟨157, 63, 157, 72⟩ ⟨157, 63, 157, 94⟩) (.int 2 0 ⟨157, 97, 157, 98⟩) ⟨157, 63, 157, 98⟩) (.int 0 0 ⟨157, 102, 157, 103⟩) ⟨157, 63, 157, 103⟩) .nil)) ⟨157, 11, 157, 103⟩)
 l_items_I1a
 .nil ⟨157, 8, 158, 39⟩) : Rf.St).ev T G ρ S := (rfl)
theorem e_l_items_W0b : (l_items_W0b).ev T G ρ S = ((.cons l_items_I1
 (.cons (.mut .append (.var 6 ⟨159, 8, 159, 23⟩) (.cons (.popx (.var 4 ⟨159, 31, 159, 42⟩) (.bin .mod (.call 10 (.cons (.var 0 ⟨159, 57, 159, 68⟩) (.cons (.var 1 ⟨159, 70, 159, 77⟩) .nil)) ⟨159, 47, 159, 56⟩ ⟨159, 47, 159, 78⟩) (.bfn .len (.cons (.var 4 ⟨159, 85, 159, 96⟩) .nil) ⟨159, 81, 159, 84⟩ ⟨159, 81, 159, 97⟩) ⟨159, 47, 159, 97⟩) ⟨159, 31, 159, 46⟩ ⟨159, 31, 159, 98⟩) .nil) ⟨159, 8, 159, 30⟩ ⟨159, 8, 159, 99⟩ ⟨159, 8, 159, 99⟩)
 .nil)) : Rf.Ss).ev T G ρ S := (rfl)
theorem e_l_items_W0 : (l_items_W0).ev T G ρ S = ((.whl 1000000 (.cmp .gt (.bfn .len (.cons (.var 4 ⟨156, 14, 156, 25⟩) .nil) ⟨156, 10, 156, 13⟩ ⟨156, 10, 156, 26⟩) (.int 0 0 ⟨156, 29, 156, 30⟩) ⟨156, 10, 156, 30⟩)
 l_items_W0b ⟨156, 4, 159, 99⟩) : Rf.St).ev T G ρ S := (rfl)
theorem e_b_l_items : (b_l_items).ev T G ρ S = ((.cons (.set 4 (.new (.bfn .list (.cons (.var 3 ⟨151, 23, 151, 33⟩) .nil) ⟨151, 18, 151, 22⟩ ⟨151, 18, 151, 34⟩)) ⟨151, 4, 151, 15⟩ ⟨151, 4, 151, 34⟩)
 (.cons l_items_F0
 (.cons (.set 6 (.new (.lst .nil ⟨155, 22, 155, 24⟩)) ⟨155, 4, 155, 19⟩ ⟨155, 4, 155, 24⟩)
 (.cons l_items_W0
 (.frz 4 (.frz 6 (.cons (.ret (.var 6 ⟨160, 11, 160, 26⟩) ⟨160, 4, 160, 26⟩)
 .nil))))))) : Rf.Ss).ev T G ρ S := (rfl)
theorem e_l_rule_I0a : (l_rule_I0a).ev T G ρ S = ((.cons (.set 5 (.bin .fdiv (.bin .mul (.call 14 (.cons (.var 0 ⟨166, 30, 166, 41⟩) (.cons (.var 1 ⟨166, 43, 166, 50⟩) .nil)) ⟨166, 19, 166, 29⟩ ⟨166, 19, 166, 51⟩) (.int 9 0 ⟨166, 54, 166, 55⟩) ⟨166, 19, 166, 55⟩) (.int 10 0 ⟨166, 59, 166, 61⟩) ⟨166, 19, 166, 61⟩) ⟨166, 8, 166, 16⟩ ⟨166, 8, 166, 61⟩)
 (.cons (.set 6 (.bin .add (.int 2 0 ⟨167, 20, 167, 21⟩) (.bin .fdiv (.bin .mul (.call 14 (.cons (.var 0 ⟨167, 35, 167, 46⟩) (.cons (.var 1 ⟨167, 48, 167, 55⟩) .nil)) ⟨167, 24, 167, 34⟩ ⟨167, 24, 167, 56⟩) (.int 9 0 ⟨167, 59, 167, 60⟩) ⟨167, 24, 167, 60⟩) (.int 10 0 ⟨167, 64, 167, 66⟩) ⟨167, 24, 167, 66⟩) ⟨167, 20, 167, 66⟩) ⟨167, 8, 167, 17⟩ ⟨167, 8, 167, 66⟩)
 .nil)) : Rf.Ss).ev T G ρ S := (rfl)
theorem e_l_rule_I0 : (l_rule_I0).ev T G ρ S = ((.ite (.bop true (.cons (.not (.var 3 ⟨165, 11, 165, 21⟩) ⟨165, 7, 165, 21⟩) (.cons (.cmp .gt (.bin .mod (.var 4 ⟨165, 26, 165, 32⟩) (.int 3 0 ⟨165, 35, 165, 36⟩) ⟨165, 26, 165, 36⟩) (.int 0 0 ⟨165, 39, 165, 40⟩) ⟨165, 26, 165, 40⟩) .nil)) ⟨165, 7, 165, 40⟩)
 l_rule_I0a
 .nil ⟨165, 4, 167, 66⟩) : Rf.St).ev T G ρ S := (rfl)
theorem e_l_rule_I1a : (l_rule_I1a).ev T G ρ S = ((.cons (.ret (.tup (.cons (.var 5 ⟨169, 16, 169, 24⟩) (.cons (.var 5 ⟨169, 26, 169, 34⟩) (.cons (.int 2 0 ⟨169, 36, 169, 37⟩) (.cons (.bin .mod (.var 5 ⟨169, 39, 169, 47⟩) (.int 2 0 ⟨169, 50, 169, 51⟩) ⟨169, 39, 169, 51⟩) (.cons (.bin .mod (.var 5 ⟨169, 53, 169, 61⟩) (.int 2 0 ⟨169, 64, 169, 65⟩) ⟨169, 53, 169, 65⟩) (.cons (.lst (.cons (.ix (.var 2 ⟨169, 68, 169, 83⟩) (.bin .mod (.bin .fdiv (.var 4 ⟨169, 84, 169, 90⟩) (.int 36 0 ⟨169, 94, 169, 96⟩) ⟨169, 84, 169, 96⟩) (.bfn .len (.cons (.var 2 ⟨169, 103, 169, 118⟩) .nil) ⟨169, 99, 169, 102⟩ ⟨169, 99, 169, 119⟩) ⟨169, 84, 169, 119⟩) ⟨169, 68, 169, 120⟩) .nil) ⟨169, 67, 169, 121⟩) .nil)))))) 0 ⟨169, 15, 169, 122⟩) ⟨169, 8, 169, 122⟩)
 .nil) : Rf.Ss).ev T G ρ S := (rfl)
theorem e_l_rule_I1 : (l_rule_I1).ev T G ρ S = ((.ite (.cmp .eq (.bin .mod (.var 4 ⟨168, 7, 168, 13⟩) (.int 4 0 ⟨168, 16, 168, 17⟩) ⟨168, 7, 168, 17⟩) (.int 0 0 ⟨168, 21, 168, 22⟩) ⟨168, 7, 168, 22⟩)
 l_rule_I1a
 .nil ⟨168, 4, 169, 122⟩) : Rf.St).ev T G ρ S := (rfl)
theorem e_l_rule_I2a : (l_rule_I2a).ev T G ρ S = ((.cons (.set 8 (.bin .mod (.call 10 (.cons (.var 0 ⟨174, 31, 174, 42⟩) (.cons (.var 1 ⟨174, 44, 174, 51⟩) .nil)) ⟨174, 21, 174, 30⟩ ⟨174, 21, 174, 52⟩) (.var 6 ⟨174, 55, 174, 64⟩) ⟨174, 21, 174, 64⟩) ⟨174, 8, 174, 18⟩ ⟨174, 8, 174, 64⟩)
 (.cons (.set 9 (.bin .add (.var 8 ⟨175, 20, 175, 30⟩) (.bin .mod (.ix (.lst (.cons (.int 0 0 ⟨175, 34, 175, 35⟩) (.cons (.bin .mod (.var 4 ⟨175, 37, 175, 43⟩) (.int 40 0 ⟨175, 46, 175, 48⟩) ⟨175, 37, 175, 48⟩) .nil)) ⟨175, 33, 175, 49⟩) (.bin .mod (.bin .fdiv (.var 4 ⟨175, 50, 175, 56⟩) (.int 36 0 ⟨175, 60, 175, 62⟩) ⟨175, 50, 175, 62⟩) (.int 2 0 ⟨175, 65, 175, 66⟩) ⟨175, 50, 175, 66⟩) ⟨175, 33, 175, 67⟩) (.bin .sub (.var 6 ⟨175, 71, 175, 80⟩) (.var 8 ⟨175, 83, 175, 93⟩) ⟨175, 71, 175, 93⟩) ⟨175, 33, 175, 94⟩) ⟨175, 20, 175, 94⟩) ⟨175, 8, 175, 17⟩ ⟨175, 8, 175, 94⟩)
 .nil)) : Rf.Ss).ev T G ρ S := (rfl)
theorem e_l_rule_I2 : (l_rule_I2).ev T G ρ S = ((.ite (.cmp .gt (.bin .mod (.bin .fdiv (.var 4 ⟨173, 7, 173, 13⟩) (.int 12 0 ⟨173, 17, 173, 19⟩) ⟨173, 7, 173, 19⟩) (.int 3 0 ⟨173, 22, 173, 23⟩) ⟨173, 7, 173, 23⟩) (.int 0 0 ⟨173, 26, 173, 27⟩) ⟨173, 7, 173, 27⟩)
 l_rule_I2a
 .nil ⟨173, 4, 175, 94⟩) : Rf.St).ev T G ρ S := (rfl)
theorem e_l_rule_I3a : (l_rule_I3a).ev T G ρ S = ((.cons (.set 10 (.lst (.cons (.ix (.str "RK" 0 ⟨178, 22, 178, 26⟩) (.bin .mod (.bin .fdiv (.var 4 ⟨178, 27, 178, 33⟩) (.int 216 0 ⟨178, 37, 178, 40⟩) ⟨178, 27, 178, 40⟩) (.int 2 0 ⟨178, 43, 178, 44⟩) ⟨178, 27, 178, 44⟩) ⟨178, 22, 178, 45⟩) .nil) ⟨178, 21, 178, 46⟩) ⟨178, 8, 178, 18⟩ ⟨178, 8, 178, 46⟩)
 .nil) : Rf.Ss).ev T G ρ S := (rfl)
theorem e_l_rule_I3 : (l_rule_I3).ev T G ρ S = ((.ite (.bop true (.cons (.cmp .ne (.var 8 ⟨177, 7, 177, 17⟩) (.var 9 ⟨177, 21, 177, 30⟩) ⟨177, 7, 177, 30⟩) (.cons (.cmp .eq (.var 10 ⟨177, 35, 177, 45⟩) (.lst .nil ⟨177, 49, 177, 51⟩) ⟨177, 35, 177, 51⟩) .nil)) ⟨177, 7, 177, 51⟩)
 l_rule_I3a
 .nil ⟨177, 4, 178, 46⟩) : Rf.St).ev T G ρ S := (rfl)
theorem e_l_rule_C0 : (l_rule_C0).ev T G ρ S = ((.var 13 ⟨179, 17, 179, 26⟩) : Rf.E).ev T G ρ S := (rfl)
theorem e_l_rule_I4a : (l_rule_I4a).ev T G ρ S = ((.cons (.set 11 (.lst (.cons (.ix (.str "QNWU" 0 ⟨181, 21, 181, 27⟩) (.bin .mod (.bin .fdiv (.var 4 ⟨181, 28, 181, 34⟩) (.int 432 0 ⟨181, 38, 181, 41⟩) ⟨181, 28, 181, 41⟩) (.int 4 0 ⟨181, 44, 181, 45⟩) ⟨181, 28, 181, 45⟩) ⟨181, 21, 181, 46⟩) .nil) ⟨181, 20, 181, 47⟩) ⟨181, 8, 181, 17⟩ ⟨181, 8, 181, 47⟩)
 .nil) : Rf.Ss).ev T G ρ S := (rfl)
theorem e_l_rule_I4 : (l_rule_I4).ev T G ρ S = ((.ite (.bop true (.cons (.cmp .ne (.bin .fdiv (.var 5 ⟨180, 7, 180, 15⟩) (.var 6 ⟨180, 19, 180, 28⟩) ⟨180, 7, 180, 28⟩) (.bin .fdiv (.var 7 ⟨180, 32, 180, 41⟩) (.var 6 ⟨180, 45, 180, 54⟩) ⟨180, 32, 180, 54⟩) ⟨180, 7, 180, 54⟩) (.cons (.cmp .eq (.var 11 ⟨180, 59, 180, 68⟩) (.lst .nil ⟨180, 72, 180, 74⟩) ⟨180, 59, 180, 74⟩) .nil)) ⟨180, 7, 180, 74⟩)
 l_rule_I4a
 .nil ⟨180, 4, 181, 47⟩) : Rf.St).ev T G ρ S := (rfl)
theorem e_b_l_rule : (b_l_rule).ev T G ρ S = ((.cons (.set 4 (.call 10 (.cons (.var 0 ⟨162, 23, 162, 34⟩) (.cons (.var 1 ⟨162, 36, 162, 43⟩) .nil)) ⟨162, 13, 162, 22⟩ ⟨162, 13, 162, 44⟩) ⟨162, 4, 162, 10⟩ ⟨162, 4, 162, 44⟩)
 (.cons (.set 5 (.bin .mod (.bin .fdiv (.var 4 ⟨163, 15, 163, 21⟩) (.int 9 0 ⟨163, 25, 163, 26⟩) ⟨163, 15, 163, 26⟩) (.int 100 0 ⟨163, 29, 163, 32⟩) ⟨163, 15, 163, 32⟩) ⟨163, 4, 163, 12⟩ ⟨163, 4, 163, 32⟩)
 (.cons (.set 6 (.bin .add (.int 2 0 ⟨164, 16, 164, 17⟩) (.bin .mod (.bin .fdiv (.var 4 ⟨164, 20, 164, 26⟩) (.int 900 0 ⟨164, 30, 164, 33⟩) ⟨164, 20, 164, 33⟩) (.int 30 0 ⟨164, 36, 164, 38⟩) ⟨164, 20, 164, 38⟩) ⟨164, 16, 164, 38⟩) ⟨164, 4, 164, 13⟩ ⟨164, 4, 164, 38⟩)
 (.cons l_rule_I0
 (.cons l_rule_I1
 (.cons (.set 7 (.bin .add (.var 5 ⟨170, 16, 170, 24⟩) (.ix (.lst (.cons (.int 0 0 ⟨170, 28, 170, 29⟩) (.cons (.int 1 0 ⟨170, 31, 170, 32⟩) (.cons (.bin .mod (.var 4 ⟨170, 34, 170, 40⟩) (.int 50 0 ⟨170, 43, 170, 45⟩) ⟨170, 34, 170, 45⟩) .nil))) ⟨170, 27, 170, 46⟩) (.bin .mod (.bin .fdiv (.var 4 ⟨170, 47, 170, 53⟩) (.int 4 0 ⟨170, 57, 170, 58⟩) ⟨170, 47, 170, 58⟩) (.int 3 0 ⟨170, 61, 170, 62⟩) ⟨170, 47, 170, 62⟩) ⟨170, 27, 170, 63⟩) ⟨170, 16, 170, 63⟩) ⟨170, 4, 170, 13⟩ ⟨170, 4, 170, 63⟩)
 (.cons (.set 8 (.bin .mod (.var 5 ⟨171, 17, 171, 25⟩) (.var 6 ⟨171, 28, 171, 37⟩) ⟨171, 17, 171, 37⟩) ⟨171, 4, 171, 14⟩ ⟨171, 4, 171, 37⟩)
 (.cons (.set 9 (.var 8 ⟨172, 16, 172, 26⟩) ⟨172, 4, 172, 13⟩ ⟨172, 4, 172, 26⟩)
 (.cons l_rule_I2
 (.cons (.set 10 (.sl (.lst (.cons (.str "R" 0 ⟨176, 18, 176, 21⟩) (.cons (.str "K" 0 ⟨176, 23, 176, 26⟩) .nil)) ⟨176, 17, 176, 27⟩) .no (.so (.bin .mod (.bin .fdiv (.var 4 ⟨176, 29, 176, 35⟩) (.int 72 0 ⟨176, 39, 176, 41⟩) ⟨176, 29, 176, 41⟩) (.int 3 0 ⟨176, 44, 176, 45⟩) ⟨176, 29, 176, 45⟩)) ⟨176, 28, 176, 45⟩ ⟨176, 17, 176, 46⟩) ⟨176, 4, 176, 14⟩ ⟨176, 4, 176, 46⟩)
 (.cons l_rule_I3
 (.cons (.set 11 (.comp l_rule_C0 (.nm 13 ⟨179, 31, 179, 40⟩) (.seq (.str "QNWU" 0 ⟨179, 44, 179, 50⟩)) (.cons (.cmp .eq (.bin .mod (.call 10 (.cons (.var 0 ⟨179, 64, 179, 75⟩) (.cons (.var 1 ⟨179, 77, 179, 84⟩) .nil)) ⟨179, 54, 179, 63⟩ ⟨179, 54, 179, 85⟩) (.int 4 0 ⟨179, 88, 179, 89⟩) ⟨179, 54, 179, 89⟩) (.int 0 0 ⟨179, 93, 179, 94⟩) ⟨179, 54, 179, 94⟩) .nil) ⟨.function, [(".0", .local), ("_law_sign", .local), ("_law_next", .globalImplicit), ("_law_at", .free), ("_law_script", .free)], false, false, []⟩ [(".0", 12), ("_law_sign", 13)] ⟨179, 16, 179, 95⟩) ⟨179, 4, 179, 13⟩ ⟨179, 4, 179, 95⟩)
 (.cons l_rule_I4
 (.cons (.ret (.tup (.cons (.var 5 ⟨182, 12, 182, 20⟩) (.cons (.var 7 ⟨182, 22, 182, 31⟩) (.cons (.var 6 ⟨182, 33, 182, 42⟩) (.cons (.var 8 ⟨182, 44, 182, 54⟩) (.cons (.var 9 ⟨182, 56, 182, 65⟩) (.cons (.call 15 (.cons (.var 0 ⟨182, 78, 182, 89⟩) (.cons (.var 1 ⟨182, 91, 182, 98⟩) (.cons (.var 2 ⟨182, 100, 182, 115⟩) (.cons (.bin .add (.var 10 ⟨182, 117, 182, 127⟩) (.var 11 ⟨182, 130, 182, 139⟩) ⟨182, 117, 182, 139⟩) .nil)))) ⟨182, 67, 182, 77⟩ ⟨182, 67, 182, 140⟩) .nil)))))) 0 ⟨182, 11, 182, 141⟩) ⟨182, 4, 182, 141⟩)
 .nil)))))))))))))) : Rf.Ss).ev T G ρ S := (rfl)
theorem e_l_kind_F0b : (l_kind_F0b).ev T G ρ S = ((.cons (.mut .append (.var 6 ⟨188, 8, 188, 18⟩) (.cons (.tup (.cons (.ix (.var 2 ⟨188, 27, 188, 42⟩) (.bin .mod (.bin .add (.bin .fdiv (.var 4 ⟨188, 44, 188, 50⟩) (.int 4 0 ⟨188, 54, 188, 55⟩) ⟨188, 44, 188, 55⟩) (.var 7 ⟨188, 58, 188, 64⟩) ⟨188, 44, 188, 64⟩) (.bfn .len (.cons (.var 2 ⟨188, 72, 188, 87⟩) .nil) ⟨188, 68, 188, 71⟩ ⟨188, 68, 188, 88⟩) ⟨188, 43, 188, 88⟩) ⟨188, 27, 188, 89⟩) (.cons (.ix (.var 2 ⟨188, 91, 188, 106⟩) (.bin .mod (.call 10 (.cons (.var 0 ⟨188, 117, 188, 128⟩) (.cons (.var 1 ⟨188, 130, 188, 137⟩) .nil)) ⟨188, 107, 188, 116⟩ ⟨188, 107, 188, 138⟩) (.bfn .len (.cons (.var 2 ⟨188, 145, 188, 160⟩) .nil) ⟨188, 141, 188, 144⟩ ⟨188, 141, 188, 161⟩) ⟨188, 107, 188, 161⟩) ⟨188, 91, 188, 162⟩) .nil)) 0 ⟨188, 26, 188, 163⟩) .nil) ⟨188, 8, 188, 25⟩ ⟨188, 8, 188, 164⟩ ⟨188, 8, 188, 164⟩)
 .nil) : Rf.Ss).ev T G ρ S := (rfl)
theorem e_l_kind_F0 : (l_kind_F0).ev T G ρ S = ((.forr (.nm 7 ⟨187, 8, 187, 14⟩) (.rng (.cons (.ix (.lst (.cons (.int 0 0 ⟨187, 25, 187, 26⟩) (.cons (.int 1 0 ⟨187, 28, 187, 29⟩) (.cons (.int 2 0 ⟨187, 31, 187, 32⟩) (.cons (.int 12 0 ⟨187, 34, 187, 36⟩) .nil)))) ⟨187, 24, 187, 37⟩) (.bin .mod (.var 4 ⟨187, 38, 187, 44⟩) (.int 4 0 ⟨187, 47, 187, 48⟩) ⟨187, 38, 187, 48⟩) ⟨187, 24, 187, 49⟩) .nil) ⟨187, 18, 187, 23⟩ ⟨187, 18, 187, 50⟩)
 l_kind_F0b ⟨187, 4, 188, 164⟩) : Rf.St).ev T G ρ S := (rfl)
theorem e_b_l_kind : (b_l_kind).ev T G ρ S = ((.cons (.set 4 (.call 10 (.cons (.var 0 ⟨184, 23, 184, 34⟩) (.cons (.var 1 ⟨184, 36, 184, 43⟩) .nil)) ⟨184, 13, 184, 22⟩ ⟨184, 13, 184, 44⟩) ⟨184, 4, 184, 10⟩ ⟨184, 4, 184, 44⟩)
 (.cons (.set 5 (.ix (.ix (.lst (.cons (.lst (.cons (.str "a" 0 ⟨185, 19, 185, 22⟩) (.cons (.str "which" 0 ⟨185, 24, 185, 31⟩) (.cons (.str "partsofa" 0 ⟨185, 33, 185, 43⟩) (.cons (.str "share" 0 ⟨185, 45, 185, 52⟩) .nil)))) ⟨185, 18, 185, 53⟩) (.cons (.lst (.cons (.str "kind" 0 ⟨185, 56, 185, 62⟩) (.cons (.str "turn" 0 ⟨185, 64, 185, 70⟩) (.cons (.str "rule" 0 ⟨185, 72, 185, 78⟩) (.cons (.str "bound" 0 ⟨185, 80, 185, 87⟩) .nil)))) ⟨185, 55, 185, 88⟩) .nil)) ⟨185, 17, 185, 89⟩) (.bfn .int (.cons (.cmp .eq (.ix (.var 2 ⟨185, 94, 185, 109⟩) (.int 0 0 ⟨185, 110, 185, 111⟩) ⟨185, 94, 185, 112⟩) (.str "rule" 0 ⟨185, 116, 185, 122⟩) ⟨185, 94, 185, 122⟩) .nil) ⟨185, 90, 185, 93⟩ ⟨185, 90, 185, 123⟩) ⟨185, 17, 185, 124⟩) (.var 3 ⟨185, 125, 185, 131⟩) ⟨185, 17, 185, 132⟩) ⟨185, 4, 185, 14⟩ ⟨185, 4, 185, 132⟩)
 (.cons (.set 6 (.new (.lst .nil ⟨186, 17, 186, 19⟩)) ⟨186, 4, 186, 14⟩ ⟨186, 4, 186, 19⟩)
 (.cons l_kind_F0
 (.frz 6 (.cons (.ret (.tup (.cons (.var 5 ⟨189, 12, 189, 22⟩) (.cons (.ix (.var 2 ⟨189, 24, 189, 39⟩) (.bin .mod (.bin .fdiv (.var 4 ⟨189, 40, 189, 46⟩) (.int 100 0 ⟨189, 50, 189, 53⟩) ⟨189, 40, 189, 53⟩) (.bfn .len (.cons (.var 2 ⟨189, 60, 189, 75⟩) .nil) ⟨189, 56, 189, 59⟩ ⟨189, 56, 189, 76⟩) ⟨189, 40, 189, 76⟩) ⟨189, 24, 189, 77⟩) (.cons (.var 6 ⟨189, 79, 189, 89⟩) .nil))) 0 ⟨189, 11, 189, 90⟩) ⟨189, 4, 189, 90⟩)
 .nil)))))) : Rf.Ss).ev T G ρ S := (rfl)
theorem e_l_data_I0a : (l_data_I0a).ev T G ρ S = ((.cons (.set 2 (.bin .add (.lst (.cons (.str "rule" 0 ⟨193, 27, 193, 33⟩) (.cons (.str "word" 0 ⟨193, 35, 193, 41⟩) (.cons (.str "melt" 0 ⟨193, 43, 193, 49⟩) (.cons (.str "kind" 0 ⟨193, 51, 193, 57⟩) (.cons (.str "turn" 0 ⟨193, 59, 193, 65⟩) (.cons (.str "bound" 0 ⟨193, 67, 193, 74⟩) .nil)))))) ⟨193, 26, 193, 75⟩) (.sl (.var 2 ⟨193, 78, 193, 93⟩) (.so (.int 6 0 ⟨193, 94, 193, 95⟩)) .no ⟨193, 94, 193, 96⟩ ⟨193, 78, 193, 97⟩) ⟨193, 26, 193, 97⟩) ⟨193, 8, 193, 23⟩ ⟨193, 8, 193, 97⟩)
 .nil) : Rf.Ss).ev T G ρ S := (rfl)
theorem e_l_data_I0 : (l_data_I0).ev T G ρ S = ((.ite (.cmp .eq (.bin .mod (.call 10 (.cons (.var 0 ⟨192, 17, 192, 28⟩) (.cons (.var 1 ⟨192, 30, 192, 37⟩) .nil)) ⟨192, 7, 192, 16⟩ ⟨192, 7, 192, 38⟩) (.int 2 0 ⟨192, 41, 192, 42⟩) ⟨192, 7, 192, 42⟩) (.int 0 0 ⟨192, 46, 192, 47⟩) ⟨192, 7, 192, 47⟩)
 l_data_I0a
 .nil ⟨192, 4, 193, 97⟩) : Rf.St).ev T G ρ S := (rfl)
theorem e_l_data_F0b : (l_data_F0b).ev T G ρ S = ((.cons (.mut .append (.var 4 ⟨197, 8, 197, 18⟩) (.cons (.call 16 (.cons (.var 0 ⟨197, 36, 197, 47⟩) (.cons (.var 1 ⟨197, 49, 197, 56⟩) (.cons (.var 2 ⟨197, 58, 197, 73⟩) (.cons (.cmp .eq (.bin .mod (.var 3 ⟨197, 75, 197, 81⟩) (.int 4 0 ⟨197, 84, 197, 85⟩) ⟨197, 75, 197, 85⟩) (.int 3 0 ⟨197, 89, 197, 90⟩) ⟨197, 75, 197, 90⟩) .nil)))) ⟨197, 26, 197, 35⟩ ⟨197, 26, 197, 91⟩) .nil) ⟨197, 8, 197, 25⟩ ⟨197, 8, 197, 92⟩ ⟨197, 8, 197, 92⟩)
 .nil) : Rf.Ss).ev T G ρ S := (rfl)
theorem e_l_data_F0 : (l_data_F0).ev T G ρ S = ((.forr (.nm 5 ⟨196, 8, 196, 14⟩) (.rng (.cons (.ix (.lst (.cons (.bin .mod (.bin .fdiv (.var 3 ⟨196, 25, 196, 31⟩) (.int 9 0 ⟨196, 35, 196, 36⟩) ⟨196, 25, 196, 36⟩) (.int 10 0 ⟨196, 39, 196, 41⟩) ⟨196, 25, 196, 41⟩) (.cons (.bin .mod (.bin .fdiv (.var 3 ⟨196, 43, 196, 49⟩) (.int 9 0 ⟨196, 53, 196, 54⟩) ⟨196, 43, 196, 54⟩) (.int 4 0 ⟨196, 57, 196, 58⟩) ⟨196, 43, 196, 58⟩) (.cons (.bin .add (.int 1 0 ⟨196, 60, 196, 61⟩) (.bin .mod (.bin .fdiv (.var 3 ⟨196, 64, 196, 70⟩) (.int 9 0 ⟨196, 74, 196, 75⟩) ⟨196, 64, 196, 75⟩) (.int 9 0 ⟨196, 78, 196, 79⟩) ⟨196, 64, 196, 79⟩) ⟨196, 60, 196, 79⟩) (.cons (.int 40 0 ⟨196, 81, 196, 83⟩) .nil)))) ⟨196, 24, 196, 84⟩) (.bin .mod (.var 3 ⟨196, 85, 196, 91⟩) (.int 4 0 ⟨196, 94, 196, 95⟩) ⟨196, 85, 196, 95⟩) ⟨196, 24, 196, 96⟩) .nil) ⟨196, 18, 196, 23⟩ ⟨196, 18, 196, 97⟩)
 l_data_F0b ⟨196, 4, 197, 92⟩) : Rf.St).ev T G ρ S := (rfl)
theorem e_l_data_C0 : (l_data_C0).ev T G ρ S = ((.call 17 (.cons (.var 0 ⟨199, 28, 199, 39⟩) (.cons (.var 1 ⟨199, 41, 199, 48⟩) (.cons (.var 2 ⟨199, 50, 199, 65⟩) (.cons (.var 5 ⟨199, 67, 199, 73⟩) .nil)))) ⟨199, 18, 199, 27⟩ ⟨199, 18, 199, 74⟩) : Rf.E).ev T G ρ S := (rfl)
theorem e_b_l_data : (b_l_data).ev T G ρ S = ((.cons (.set 2 (.call 11 (.cons (.var 0 ⟨191, 33, 191, 44⟩) (.cons (.var 1 ⟨191, 46, 191, 53⟩) (.cons (.int 16 0 ⟨191, 55, 191, 57⟩) .nil))) ⟨191, 22, 191, 32⟩ ⟨191, 22, 191, 58⟩) ⟨191, 4, 191, 19⟩ ⟨191, 4, 191, 58⟩)
 (.cons l_data_I0
 (.cons (.set 3 (.call 10 (.cons (.var 0 ⟨194, 23, 194, 34⟩) (.cons (.var 1 ⟨194, 36, 194, 43⟩) .nil)) ⟨194, 13, 194, 22⟩ ⟨194, 13, 194, 44⟩) ⟨194, 4, 194, 10⟩ ⟨194, 4, 194, 44⟩)
 (.cons (.set 4 (.new (.lst .nil ⟨195, 17, 195, 19⟩)) ⟨195, 4, 195, 14⟩ ⟨195, 4, 195, 19⟩)
 (.cons l_data_F0
 (.frz 4 (.cons (.set 6 (.call 13 (.cons (.var 0 ⟨198, 33, 198, 44⟩) (.cons (.var 1 ⟨198, 46, 198, 53⟩) (.cons (.var 2 ⟨198, 55, 198, 70⟩) (.cons (.int 12 0 ⟨198, 72, 198, 74⟩) .nil)))) ⟨198, 22, 198, 32⟩ ⟨198, 22, 198, 75⟩) ⟨198, 4, 198, 19⟩ ⟨198, 4, 198, 75⟩)
 (.cons (.set 7 (.comp l_data_C0 (.nm 5 ⟨199, 79, 199, 85⟩) (.rng (.cons (.bin .mod (.bin .fdiv (.var 3 ⟨199, 95, 199, 101⟩) (.int 90 0 ⟨199, 105, 199, 107⟩) ⟨199, 95, 199, 107⟩) (.int 5 0 ⟨199, 110, 199, 111⟩) ⟨199, 95, 199, 111⟩) .nil) ⟨199, 89, 199, 94⟩ ⟨199, 89, 199, 112⟩) .nil ⟨.function, [(".0", .local), ("_law_k", .local), ("_law_kind", .globalImplicit), ("_law_at", .free), ("_law_script", .free), ("_law_words_here", .free)], false, false, []⟩ [(".0", 8), ("_law_k", 5)] ⟨199, 17, 199, 113⟩) ⟨199, 4, 199, 14⟩ ⟨199, 4, 199, 113⟩)
 (.cons (.ret (.tup (.cons (.call 14 (.cons (.var 0 ⟨200, 23, 200, 34⟩) (.cons (.var 1 ⟨200, 36, 200, 43⟩) .nil)) ⟨200, 12, 200, 22⟩ ⟨200, 12, 200, 44⟩) (.cons (.var 4 ⟨200, 46, 200, 56⟩) (.cons (.var 6 ⟨200, 58, 200, 73⟩) (.cons (.var 7 ⟨200, 75, 200, 85⟩) .nil)))) 0 ⟨200, 11, 200, 86⟩) ⟨200, 4, 200, 86⟩)
 .nil))))))))) : Rf.Ss).ev T G ρ S := (rfl)
theorem e_l_tongue_C0 : (l_tongue_C0).ev T G ρ S = ((.mk 6 (.cons (.var 7 ⟨203, 22, 203, 30⟩) (.cons (.var 8 ⟨203, 32, 203, 41⟩) (.cons (.var 9 ⟨203, 43, 203, 52⟩) (.cons (.var 10 ⟨203, 54, 203, 64⟩) (.cons (.var 11 ⟨203, 66, 203, 75⟩) (.cons (.bfn .list (.cons (.var 12 ⟨203, 82, 203, 97⟩) .nil) ⟨203, 77, 203, 81⟩ ⟨203, 77, 203, 98⟩) .nil)))))) 0 ⟨203, 17, 203, 21⟩ ⟨203, 17, 203, 99⟩) : Rf.E).ev T G ρ S := (rfl)
theorem e_l_tongue_C1 : (l_tongue_C1).ev T G ρ S = ((.mk 8 (.cons (.var 13 ⟨204, 70, 204, 80⟩) (.cons (.var 14 ⟨204, 82, 204, 93⟩) (.cons (.bfn .list (.cons (.var 15 ⟨204, 100, 204, 110⟩) .nil) ⟨204, 95, 204, 99⟩ ⟨204, 95, 204, 111⟩) .nil))) 0 ⟨204, 65, 204, 69⟩ ⟨204, 65, 204, 112⟩) : Rf.E).ev T G ρ S := (rfl)
theorem e_b_l_tongue : (b_l_tongue).ev T G ρ S = ((.cons (.unp false (.tp [(1, ⟨202, 4, 202, 14⟩), (2, ⟨202, 16, 202, 26⟩), (3, ⟨202, 28, 202, 43⟩), (4, ⟨202, 45, 202, 55⟩)] 0 ⟨202, 4, 202, 55⟩) (.var 0 ⟨202, 58, 202, 72⟩) ⟨202, 4, 202, 72⟩)
 (.cons (.set 5 (.comp l_tongue_C0 (.tp [(7, ⟨203, 104, 203, 112⟩), (8, ⟨203, 114, 203, 123⟩), (9, ⟨203, 125, 203, 134⟩), (10, ⟨203, 136, 203, 146⟩), (11, ⟨203, 148, 203, 157⟩), (12, ⟨203, 159, 203, 174⟩)] 0 ⟨203, 104, 203, 174⟩) (.seq (.var 2 ⟨203, 178, 203, 188⟩)) .nil ⟨.function, [(".0", .local), ("_law_low", .local), ("_law_high", .local), ("_law_base", .local), ("_law_first", .local), ("_law_last", .local), ("_law_items_here", .local), ("Rule", .globalImplicit), ("list", .globalImplicit)], false, false, []⟩ [(".0", 6), ("_law_low", 7), ("_law_high", 8), ("_law_base", 9), ("_law_first", 10), ("_law_last", 11), ("_law_items_here", 12)] ⟨203, 16, 203, 189⟩) ⟨203, 4, 203, 13⟩ ⟨203, 4, 203, 189⟩)
 (.cons (.ret (.mk 7 (.cons (.var 1 ⟨204, 18, 204, 28⟩) (.cons (.var 5 ⟨204, 30, 204, 39⟩) (.cons (.bfn .list (.cons (.var 3 ⟨204, 46, 204, 61⟩) .nil) ⟨204, 41, 204, 45⟩ ⟨204, 41, 204, 62⟩) (.cons (.comp l_tongue_C1 (.tp [(13, ⟨204, 117, 204, 127⟩), (14, ⟨204, 129, 204, 140⟩), (15, ⟨204, 142, 204, 152⟩)] 0 ⟨204, 117, 204, 152⟩) (.seq (.var 4 ⟨204, 156, 204, 166⟩)) .nil ⟨.function, [(".0", .local), ("_law_title", .local), ("_law_ending", .local), ("_law_turns", .local), ("Kind", .globalImplicit), ("list", .globalImplicit)], false, false, []⟩ [(".0", 6), ("_law_title", 13), ("_law_ending", 14), ("_law_turns", 15)] ⟨204, 64, 204, 167⟩) .nil)))) 0 ⟨204, 11, 204, 17⟩ ⟨204, 11, 204, 168⟩) ⟨204, 4, 204, 168⟩)
 .nil))) : Rf.Ss).ev T G ρ S := (rfl)
theorem e_l_rule_row_I0a : (l_rule_row_I0a).ev T G ρ S = ((.cons (.ret (.bin .add (.lst (.cons (.str "word" 0 ⟨208, 16, 208, 22⟩) (.cons (.bfn .str (.cons (.var 1 ⟨208, 28, 208, 36⟩) .nil) ⟨208, 24, 208, 27⟩ ⟨208, 24, 208, 37⟩) .nil)) ⟨208, 15, 208, 38⟩) (.var 6 ⟨208, 41, 208, 56⟩) ⟨208, 15, 208, 56⟩) ⟨208, 8, 208, 56⟩)
 .nil) : Rf.Ss).ev T G ρ S := (rfl)
theorem e_l_rule_row_I0 : (l_rule_row_I0).ev T G ρ S = ((.ite (.bop true (.cons (.cmp .eq (.bfn .len (.cons (.var 6 ⟨207, 11, 207, 26⟩) .nil) ⟨207, 7, 207, 10⟩ ⟨207, 7, 207, 27⟩) (.int 1 0 ⟨207, 31, 207, 32⟩) ⟨207, 7, 207, 32⟩) (.cons (.cmp .eq (.tup (.cons (.var 2 ⟨207, 38, 207, 47⟩) (.cons (.var 3 ⟨207, 49, 207, 58⟩) (.cons (.var 4 ⟨207, 60, 207, 70⟩) (.cons (.var 5 ⟨207, 72, 207, 81⟩) .nil)))) 0 ⟨207, 37, 207, 82⟩) (.tup (.cons (.var 1 ⟨207, 87, 207, 95⟩) (.cons (.int 2 0 ⟨207, 97, 207, 98⟩) (.cons (.bin .mod (.var 1 ⟨207, 100, 207, 108⟩) (.int 2 0 ⟨207, 111, 207, 112⟩) ⟨207, 100, 207, 112⟩) (.cons (.bin .mod (.var 1 ⟨207, 114, 207, 122⟩) (.int 2 0 ⟨207, 125, 207, 126⟩) ⟨207, 114, 207, 126⟩) .nil)))) 0 ⟨207, 86, 207, 127⟩) ⟨207, 37, 207, 127⟩) .nil)) ⟨207, 7, 207, 127⟩)
 l_rule_row_I0a
 .nil ⟨207, 4, 208, 56⟩) : Rf.St).ev T G ρ S := (rfl)
theorem e_l_rule_row_C0 : (l_rule_row_C0).ev T G ρ S = ((.bfn .str (.cons (.var 8 ⟨209, 27, 209, 38⟩) .nil) ⟨209, 23, 209, 26⟩ ⟨209, 23, 209, 39⟩) : Rf.E).ev T G ρ S := (rfl)
theorem e_b_l_rule_row : (b_l_rule_row).ev T G ρ S = ((.cons (.unp false (.tp [(1, ⟨206, 4, 206, 12⟩), (2, ⟨206, 14, 206, 23⟩), (3, ⟨206, 25, 206, 34⟩), (4, ⟨206, 36, 206, 46⟩), (5, ⟨206, 48, 206, 57⟩), (6, ⟨206, 59, 206, 74⟩)] 0 ⟨206, 4, 206, 74⟩) (.var 0 ⟨206, 77, 206, 91⟩) ⟨206, 4, 206, 91⟩)
 (.cons l_rule_row_I0
 (.cons (.ret (.bin .add (.bin .add (.bin .add (.lst (.cons (.str "rule" 0 ⟨209, 12, 209, 18⟩) .nil) ⟨209, 11, 209, 19⟩) (.comp l_rule_row_C0 (.nm 8 ⟨209, 44, 209, 55⟩) (.seq (.sl (.var 0 ⟨209, 59, 209, 73⟩) .no (.so (.int 5 0 ⟨209, 75, 209, 76⟩)) ⟨209, 74, 209, 76⟩ ⟨209, 59, 209, 77⟩)) .nil ⟨.function, [(".0", .local), ("_law_number", .local), ("str", .globalImplicit)], false, false, []⟩ [(".0", 7), ("_law_number", 8)] ⟨209, 22, 209, 78⟩) ⟨209, 11, 209, 78⟩) (.lst (.cons (.str ":" 0 ⟨209, 82, 209, 85⟩) .nil) ⟨209, 81, 209, 86⟩) ⟨209, 11, 209, 86⟩) (.var 6 ⟨209, 89, 209, 104⟩) ⟨209, 11, 209, 104⟩) ⟨209, 4, 209, 104⟩)
 .nil))) : Rf.Ss).ev T G ρ S := (rfl)
theorem e_l_rows_C0 : (l_rows_C0).ev T G ρ S = ((.call 20 (.cons (.var 10 ⟨212, 67, 212, 81⟩) .nil) ⟨212, 53, 212, 66⟩ ⟨212, 53, 212, 82⟩) : Rf.E).ev T G ρ S := (rfl)
theorem e_l_rows_C1 : (l_rows_C1).ev T G ρ S = ((.bin .add (.lst (.cons (.str "melt" 0 ⟨213, 28, 213, 34⟩) .nil) ⟨213, 27, 213, 35⟩) (.bfn .list (.cons (.var 11 ⟨213, 43, 213, 57⟩) .nil) ⟨213, 38, 213, 42⟩ ⟨213, 38, 213, 58⟩) ⟨213, 27, 213, 58⟩) : Rf.E).ev T G ρ S := (rfl)
theorem e_l_rows_C2 : (l_rows_C2).ev T G ρ S = ((.bin .add (.lst (.cons (.str "turn" 0 ⟨216, 32, 216, 38⟩) .nil) ⟨216, 31, 216, 39⟩) (.bfn .list (.cons (.var 12 ⟨216, 47, 216, 56⟩) .nil) ⟨216, 42, 216, 46⟩ ⟨216, 42, 216, 57⟩) ⟨216, 31, 216, 57⟩) : Rf.E).ev T G ρ S := (rfl)
theorem e_l_rows_F0b : (l_rows_F0b).ev T G ρ S = ((.cons (.mut .append (.var 5 ⟨215, 8, 215, 22⟩) (.cons (.lst (.cons (.str "kind" 0 ⟨215, 31, 215, 37⟩) (.cons (.var 6 ⟨215, 39, 215, 49⟩) (.cons (.var 7 ⟨215, 51, 215, 62⟩) .nil))) ⟨215, 30, 215, 63⟩) .nil) ⟨215, 8, 215, 29⟩ ⟨215, 8, 215, 64⟩ ⟨215, 8, 215, 64⟩)
 (.cons (.mut .extend (.var 5 ⟨216, 8, 216, 22⟩) (.cons (.comp l_rows_C2 (.nm 12 ⟨216, 62, 216, 71⟩) (.seq (.var 8 ⟨216, 75, 216, 85⟩)) .nil ⟨.function, [(".0", .local), ("_law_pair", .local), ("list", .globalImplicit)], false, false, []⟩ [(".0", 9), ("_law_pair", 12)] ⟨216, 30, 216, 86⟩) .nil) ⟨216, 8, 216, 29⟩ ⟨216, 8, 216, 87⟩ ⟨216, 8, 216, 87⟩)
 .nil)) : Rf.Ss).ev T G ρ S := (rfl)
theorem e_l_rows_F0 : (l_rows_F0).ev T G ρ S = ((.forr (.tp [(6, ⟨214, 8, 214, 18⟩), (7, ⟨214, 20, 214, 31⟩), (8, ⟨214, 33, 214, 43⟩)] 0 ⟨214, 8, 214, 43⟩) (.seq (.var 4 ⟨214, 47, 214, 57⟩))
 l_rows_F0b ⟨214, 4, 216, 87⟩) : Rf.St).ev T G ρ S := (rfl)
theorem e_b_l_rows : (b_l_rows).ev T G ρ S = ((.cons (.unp false (.tp [(1, ⟨211, 4, 211, 14⟩), (2, ⟨211, 16, 211, 26⟩), (3, ⟨211, 28, 211, 43⟩), (4, ⟨211, 45, 211, 55⟩)] 0 ⟨211, 4, 211, 55⟩) (.var 0 ⟨211, 58, 211, 72⟩) ⟨211, 4, 211, 72⟩)
 (.cons (.set 5 (.new (.bin .add (.lst (.cons (.lst (.cons (.str "bound" 0 ⟨212, 23, 212, 30⟩) (.cons (.bfn .str (.cons (.var 1 ⟨212, 36, 212, 46⟩) .nil) ⟨212, 32, 212, 35⟩ ⟨212, 32, 212, 47⟩) .nil)) ⟨212, 22, 212, 48⟩) .nil) ⟨212, 21, 212, 49⟩) (.comp l_rows_C0 (.nm 10 ⟨212, 87, 212, 101⟩) (.seq (.var 2 ⟨212, 105, 212, 115⟩)) .nil ⟨.function, [(".0", .local), ("_law_rule_here", .local), ("_law_rule_row", .globalImplicit)], false, false, []⟩ [(".0", 9), ("_law_rule_here", 10)] ⟨212, 52, 212, 116⟩) ⟨212, 21, 212, 116⟩)) ⟨212, 4, 212, 18⟩ ⟨212, 4, 212, 116⟩)
 (.cons (.mut .extend (.var 5 ⟨213, 4, 213, 18⟩) (.cons (.comp l_rows_C1 (.nm 11 ⟨213, 63, 213, 77⟩) (.seq (.var 3 ⟨213, 81, 213, 96⟩)) .nil ⟨.function, [(".0", .local), ("_law_melt_here", .local), ("list", .globalImplicit)], false, false, []⟩ [(".0", 9), ("_law_melt_here", 11)] ⟨213, 26, 213, 97⟩) .nil) ⟨213, 4, 213, 25⟩ ⟨213, 4, 213, 98⟩ ⟨213, 4, 213, 98⟩)
 (.cons l_rows_F0
 (.frz 5 (.cons (.ret (.var 5 ⟨217, 11, 217, 25⟩) ⟨217, 4, 217, 25⟩)
 .nil)))))) : Rf.Ss).ev T G ρ S := (rfl)
theorem e_b_l_whole : (b_l_whole).ev T G ρ S = ((.cons (.ret (.bop true (.cons (.isi (.var 0 ⟨219, 22, 219, 32⟩) (.ty "int" "int") ⟨219, 11, 219, 21⟩ ⟨219, 34, 219, 37⟩ ⟨219, 11, 219, 38⟩) (.cons (.not (.isi (.var 0 ⟨219, 59, 219, 69⟩) (.ty "bool" "bool") ⟨219, 48, 219, 58⟩ ⟨219, 71, 219, 75⟩ ⟨219, 48, 219, 76⟩) ⟨219, 44, 219, 76⟩) .nil)) ⟨219, 11, 219, 77⟩) ⟨219, 4, 219, 77⟩)
 .nil) : Rf.Ss).ev T G ρ S := (rfl)
theorem e_l_is_rule_C0 : (l_is_rule_C0).ev T G ρ S = ((.call 22 (.cons (.var 4 ⟨222, 67, 222, 78⟩) .nil) ⟨222, 56, 222, 66⟩ ⟨222, 56, 222, 79⟩) : Rf.E).ev T G ρ S := (rfl)
theorem e_l_is_rule_I0a : (l_is_rule_I0a).ev T G ρ S = ((.cons (.ret (.bl false 0 ⟨223, 15, 223, 20⟩) ⟨223, 8, 223, 20⟩)
 .nil) : Rf.Ss).ev T G ρ S := (rfl)
theorem e_l_is_rule_I0 : (l_is_rule_I0).ev T G ρ S = ((.ite (.bop false (.cons (.not (.isi (.var 0 ⟨222, 22, 222, 36⟩) (.own 6) ⟨222, 11, 222, 21⟩ ⟨222, 38, 222, 42⟩ ⟨222, 11, 222, 43⟩) ⟨222, 7, 222, 43⟩) (.cons (.not (.bfn .all (.cons (.comp l_is_rule_C0 (.nm 4 ⟨222, 84, 222, 95⟩) (.seq (.var 2 ⟨222, 99, 222, 111⟩)) .nil ⟨.function, [(".0", .local), ("_law_number", .local), ("_law_whole", .globalImplicit)], false, false, []⟩ [(".0", 3), ("_law_number", 4)] ⟨222, 55, 222, 112⟩) .nil) ⟨222, 51, 222, 54⟩ ⟨222, 51, 222, 113⟩) ⟨222, 47, 222, 113⟩) .nil)) ⟨222, 7, 222, 113⟩)
 l_is_rule_I0a
 .nil ⟨222, 4, 223, 20⟩) : Rf.St).ev T G ρ S := (rfl)
theorem e_b_l_is_rule : (b_l_is_rule).ev T G ρ S = ((.cons (.set 2 (.lst (.cons (.fld (.var 0 ⟨221, 20, 221, 34⟩) 3 ⟨221, 20, 221, 38⟩) (.cons (.fld (.var 0 ⟨221, 40, 221, 54⟩) 5 ⟨221, 40, 221, 59⟩) (.cons (.fld (.var 0 ⟨221, 61, 221, 75⟩) 4 ⟨221, 61, 221, 80⟩) (.cons (.fld (.var 0 ⟨221, 82, 221, 96⟩) 0 ⟨221, 82, 221, 102⟩) (.cons (.fld (.var 0 ⟨221, 104, 221, 118⟩) 1 ⟨221, 104, 221, 123⟩) .nil))))) ⟨221, 19, 221, 124⟩) ⟨221, 4, 221, 16⟩ ⟨221, 4, 221, 124⟩)
 (.cons l_is_rule_I0
 (.cons (.ret (.bop true (.cons (.cmp .eq (.var 2 ⟨224, 11, 224, 23⟩) (.bfn .list (.cons (.sl (.var 1 ⟨224, 32, 224, 40⟩) .no (.so (.int 5 0 ⟨224, 42, 224, 43⟩)) ⟨224, 41, 224, 43⟩ ⟨224, 32, 224, 44⟩) .nil) ⟨224, 27, 224, 31⟩ ⟨224, 27, 224, 45⟩) ⟨224, 11, 224, 45⟩) (.cons (.isi (.fld (.var 0 ⟨224, 61, 224, 75⟩) 2 ⟨224, 61, 224, 82⟩) (.ty "list" "list") ⟨224, 50, 224, 60⟩ ⟨224, 84, 224, 88⟩ ⟨224, 50, 224, 89⟩) (.cons (.cmp .eq (.fld (.var 0 ⟨224, 95, 224, 109⟩) 2 ⟨224, 95, 224, 116⟩) (.ix (.var 1 ⟨224, 120, 224, 128⟩) (.int 5 0 ⟨224, 129, 224, 130⟩) ⟨224, 120, 224, 131⟩) ⟨224, 95, 224, 131⟩) .nil))) ⟨224, 11, 224, 132⟩) ⟨224, 4, 224, 132⟩)
 .nil))) : Rf.Ss).ev T G ρ S := (rfl)
theorem e_l_is_tongue_I0a : (l_is_tongue_I0a).ev T G ρ S = ((.cons (.ret (.bl false 0 ⟨228, 15, 228, 20⟩) ⟨228, 8, 228, 20⟩)
 .nil) : Rf.Ss).ev T G ρ S := (rfl)
theorem e_l_is_tongue_I0 : (l_is_tongue_I0).ev T G ρ S = ((.ite (.bop false (.cons (.not (.isi (.var 0 ⟨227, 22, 227, 38⟩) (.own 7) ⟨227, 11, 227, 21⟩ ⟨227, 40, 227, 46⟩ ⟨227, 11, 227, 47⟩) ⟨227, 7, 227, 47⟩) (.cons (.not (.call 22 (.cons (.fld (.var 0 ⟨227, 66, 227, 82⟩) 6 ⟨227, 66, 227, 88⟩) .nil) ⟨227, 55, 227, 65⟩ ⟨227, 55, 227, 89⟩) ⟨227, 51, 227, 89⟩) (.cons (.cmp .ne (.fld (.var 0 ⟨227, 93, 227, 109⟩) 6 ⟨227, 93, 227, 115⟩) (.var 2 ⟨227, 119, 227, 129⟩) ⟨227, 93, 227, 129⟩) .nil))) ⟨227, 7, 227, 129⟩)
 l_is_tongue_I0a
 .nil ⟨227, 4, 228, 20⟩) : Rf.St).ev T G ρ S := (rfl)
theorem e_l_is_tongue_I1a : (l_is_tongue_I1a).ev T G ρ S = ((.cons (.ret (.bl false 0 ⟨230, 15, 230, 20⟩) ⟨230, 8, 230, 20⟩)
 .nil) : Rf.Ss).ev T G ρ S := (rfl)
theorem e_l_is_tongue_I1 : (l_is_tongue_I1).ev T G ρ S = ((.ite (.bop false (.cons (.cmp .ne (.bfn .len (.cons (.fld (.var 0 ⟨229, 11, 229, 27⟩) 7 ⟨229, 11, 229, 33⟩) .nil) ⟨229, 7, 229, 10⟩ ⟨229, 7, 229, 34⟩) (.bfn .len (.cons (.var 3 ⟨229, 42, 229, 52⟩) .nil) ⟨229, 38, 229, 41⟩ ⟨229, 38, 229, 53⟩) ⟨229, 7, 229, 53⟩) (.cons (.cmp .ne (.bfn .len (.cons (.fld (.var 0 ⟨229, 61, 229, 77⟩) 9 ⟨229, 61, 229, 83⟩) .nil) ⟨229, 57, 229, 60⟩ ⟨229, 57, 229, 84⟩) (.bfn .len (.cons (.var 5 ⟨229, 92, 229, 102⟩) .nil) ⟨229, 88, 229, 91⟩ ⟨229, 88, 229, 103⟩) ⟨229, 57, 229, 103⟩) (.cons (.cmp .ne (.fld (.var 0 ⟨229, 107, 229, 123⟩) 8 ⟨229, 107, 229, 129⟩) (.var 4 ⟨229, 133, 229, 148⟩) ⟨229, 107, 229, 148⟩) .nil))) ⟨229, 7, 229, 148⟩)
 l_is_tongue_I1a
 .nil ⟨229, 4, 230, 20⟩) : Rf.St).ev T G ρ S := (rfl)
theorem e_l_is_tongue_C0 : (l_is_tongue_C0).ev T G ρ S = ((.call 23 (.cons (.ix (.fld (.var 0 ⟨231, 29, 231, 45⟩) 7 ⟨231, 29, 231, 51⟩) (.var 6 ⟨231, 52, 231, 58⟩) ⟨231, 29, 231, 59⟩) (.cons (.ix (.var 3 ⟨231, 61, 231, 71⟩) (.var 6 ⟨231, 72, 231, 78⟩) ⟨231, 61, 231, 79⟩) .nil)) ⟨231, 16, 231, 28⟩ ⟨231, 16, 231, 80⟩) : Rf.E).ev T G ρ S := (rfl)
theorem e_l_is_tongue_I2a : (l_is_tongue_I2a).ev T G ρ S = ((.cons (.ret (.bl false 0 ⟨232, 15, 232, 20⟩) ⟨232, 8, 232, 20⟩)
 .nil) : Rf.Ss).ev T G ρ S := (rfl)
theorem e_l_is_tongue_I2 : (l_is_tongue_I2).ev T G ρ S = ((.ite (.not (.bfn .all (.cons (.comp l_is_tongue_C0 (.nm 6 ⟨231, 85, 231, 91⟩) (.rng (.cons (.bfn .len (.cons (.var 3 ⟨231, 105, 231, 115⟩) .nil) ⟨231, 101, 231, 104⟩ ⟨231, 101, 231, 116⟩) .nil) ⟨231, 95, 231, 100⟩ ⟨231, 95, 231, 117⟩) .nil ⟨.function, [(".0", .local), ("_law_k", .local), ("_law_is_rule", .globalImplicit), ("_law_rules", .free), ("_law_tongue_here", .free)], false, false, []⟩ [(".0", 8), ("_law_k", 6)] ⟨231, 15, 231, 118⟩) .nil) ⟨231, 11, 231, 14⟩ ⟨231, 11, 231, 119⟩) ⟨231, 7, 231, 119⟩)
 l_is_tongue_I2a
 .nil ⟨231, 4, 232, 20⟩) : Rf.St).ev T G ρ S := (rfl)
theorem e_l_is_tongue_I3a : (l_is_tongue_I3a).ev T G ρ S = ((.cons (.ret (.bl false 0 ⟨236, 19, 236, 24⟩) ⟨236, 12, 236, 24⟩)
 .nil) : Rf.Ss).ev T G ρ S := (rfl)
theorem e_l_is_tongue_I3 : (l_is_tongue_I3).ev T G ρ S = ((.ite (.bop false (.cons (.not (.isi (.var 7 ⟨235, 26, 235, 40⟩) (.own 8) ⟨235, 15, 235, 25⟩ ⟨235, 42, 235, 46⟩ ⟨235, 15, 235, 47⟩) ⟨235, 11, 235, 47⟩) (.cons (.cmp .ne (.tup (.cons (.fld (.var 7 ⟨235, 52, 235, 66⟩) 10 ⟨235, 52, 235, 72⟩) (.cons (.fld (.var 7 ⟨235, 74, 235, 88⟩) 11 ⟨235, 74, 235, 95⟩) (.cons (.fld (.var 7 ⟨235, 97, 235, 111⟩) 12 ⟨235, 97, 235, 117⟩) .nil))) 0 ⟨235, 51, 235, 118⟩) (.ix (.var 5 ⟨235, 122, 235, 132⟩) (.var 6 ⟨235, 133, 235, 139⟩) ⟨235, 122, 235, 140⟩) ⟨235, 51, 235, 140⟩) .nil)) ⟨235, 11, 235, 140⟩)
 l_is_tongue_I3a
 .nil ⟨235, 8, 236, 24⟩) : Rf.St).ev T G ρ S := (rfl)
theorem e_l_is_tongue_F0b : (l_is_tongue_F0b).ev T G ρ S = ((.cons (.set 7 (.ix (.fld (.var 0 ⟨234, 25, 234, 41⟩) 9 ⟨234, 25, 234, 47⟩) (.var 6 ⟨234, 48, 234, 54⟩) ⟨234, 25, 234, 55⟩) ⟨234, 8, 234, 22⟩ ⟨234, 8, 234, 55⟩)
 (.cons l_is_tongue_I3
 .nil)) : Rf.Ss).ev T G ρ S := (rfl)
theorem e_l_is_tongue_F0 : (l_is_tongue_F0).ev T G ρ S = ((.forr (.nm 6 ⟨233, 8, 233, 14⟩) (.rng (.cons (.bfn .len (.cons (.var 5 ⟨233, 28, 233, 38⟩) .nil) ⟨233, 24, 233, 27⟩ ⟨233, 24, 233, 39⟩) .nil) ⟨233, 18, 233, 23⟩ ⟨233, 18, 233, 40⟩)
 l_is_tongue_F0b ⟨233, 4, 236, 24⟩) : Rf.St).ev T G ρ S := (rfl)
theorem e_b_l_is_tongue : (b_l_is_tongue).ev T G ρ S = ((.cons (.unp false (.tp [(2, ⟨226, 4, 226, 14⟩), (3, ⟨226, 16, 226, 26⟩), (4, ⟨226, 28, 226, 43⟩), (5, ⟨226, 45, 226, 55⟩)] 0 ⟨226, 4, 226, 55⟩) (.var 1 ⟨226, 58, 226, 72⟩) ⟨226, 4, 226, 72⟩)
 (.cons l_is_tongue_I0
 (.cons l_is_tongue_I1
 (.cons l_is_tongue_I2
 (.cons l_is_tongue_F0
 (.cons (.ret (.bl true 0 ⟨237, 11, 237, 15⟩) ⟨237, 4, 237, 15⟩)
 .nil)))))) : Rf.Ss).ev T G ρ S := (rfl)
theorem e_law_C0 : (law_C0).ev T G ρ S = ((.bin .add (.mth .join (.str " " 0 ⟨243, 28, 243, 31⟩) (.cons (.var 9 ⟨243, 37, 243, 45⟩) .nil) ⟨243, 28, 243, 36⟩ ⟨243, 28, 243, 46⟩) (.str "\n" 0 ⟨243, 49, 243, 53⟩) ⟨243, 28, 243, 53⟩) : Rf.E).ev T G ρ S := (rfl)
theorem e_law_I0a : (law_I0a).ev T G ρ S = ((.cons (.ret (.bl false 0 ⟨247, 23, 247, 28⟩) ⟨247, 16, 247, 28⟩)
 .nil) : Rf.Ss).ev T G ρ S := (rfl)
theorem e_law_I0 : (law_I0).ev T G ρ S = ((.ite (.bop false (.cons (.not (.isi (.var 7 ⟨246, 30, 246, 40⟩) (.ty "str" "str") ⟨246, 19, 246, 29⟩ ⟨246, 42, 246, 45⟩ ⟨246, 19, 246, 46⟩) ⟨246, 15, 246, 46⟩) (.cons (.cmp .ne (.var 7 ⟨246, 50, 246, 60⟩) (.var 5 ⟨246, 64, 246, 72⟩) ⟨246, 50, 246, 72⟩) .nil)) ⟨246, 15, 246, 72⟩)
 law_I0a
 .nil ⟨246, 12, 247, 28⟩) : Rf.St).ev T G ρ S := (rfl)
theorem e_law_F1b : (law_F1b).ev T G ρ S = ((.cons (.set 7 (.call 8 (.cons (.var 4 ⟨245, 37, 245, 53⟩) .nil) ⟨245, 25, 245, 36⟩ ⟨245, 25, 245, 54⟩) ⟨245, 12, 245, 22⟩ ⟨245, 12, 245, 54⟩)
 (.cons law_I0
 .nil)) : Rf.Ss).ev T G ρ S := (rfl)
theorem e_law_F1 : (law_F1).ev T G ρ S = ((.forr (.nm 6 ⟨244, 12, 244, 21⟩) (.rng (.cons (.int 2 0 ⟨244, 31, 244, 32⟩) .nil) ⟨244, 25, 244, 30⟩ ⟨244, 25, 244, 33⟩)
 law_F1b ⟨244, 8, 247, 28⟩) : Rf.St).ev T G ρ S := (rfl)
theorem e_law_I1a : (law_I1a).ev T G ρ S = ((.cons (.ret (.bl false 0 ⟨249, 19, 249, 24⟩) ⟨249, 12, 249, 24⟩)
 .nil) : Rf.Ss).ev T G ρ S := (rfl)
theorem e_law_I1 : (law_I1).ev T G ρ S = ((.ite (.not (.call 24 (.cons (.var 4 ⟨248, 30, 248, 46⟩) (.cons (.var 3 ⟨248, 48, 248, 62⟩) .nil)) ⟨248, 15, 248, 29⟩ ⟨248, 15, 248, 63⟩) ⟨248, 11, 248, 63⟩)
 law_I1a
 .nil ⟨248, 8, 249, 24⟩) : Rf.St).ev T G ρ S := (rfl)
theorem e_law_F0b : (law_F0b).ev T G ρ S = ((.cons (.set 3 (.call 18 (.cons (.var 0 ⟨241, 35, 241, 46⟩) (.cons (.var 1 ⟨241, 48, 241, 55⟩) .nil)) ⟨241, 25, 241, 34⟩ ⟨241, 25, 241, 56⟩) ⟨241, 8, 241, 22⟩ ⟨241, 8, 241, 56⟩)
 (.cons (.set 4 (.call 19 (.cons (.var 3 ⟨242, 39, 242, 53⟩) .nil) ⟨242, 27, 242, 38⟩ ⟨242, 27, 242, 54⟩) ⟨242, 8, 242, 24⟩ ⟨242, 8, 242, 54⟩)
 (.cons (.set 5 (.mth .join (.str "" 0 ⟨243, 19, 243, 21⟩) (.cons (.comp law_C0 (.nm 9 ⟨243, 58, 243, 66⟩) (.seq (.call 21 (.cons (.var 3 ⟨243, 80, 243, 94⟩) .nil) ⟨243, 70, 243, 79⟩ ⟨243, 70, 243, 95⟩)) .nil ⟨.function, [(".0", .local), ("_law_row", .local)], false, false, []⟩ [(".0", 8), ("_law_row", 9)] ⟨243, 27, 243, 96⟩) .nil) ⟨243, 19, 243, 26⟩ ⟨243, 19, 243, 97⟩) ⟨243, 8, 243, 16⟩ ⟨243, 8, 243, 97⟩)
 (.cons law_F1
 (.cons law_I1
 .nil))))) : Rf.Ss).ev T G ρ S := (rfl)
theorem e_law_F0 : (law_F0).ev T G ρ S = ((.forr (.nm 2 ⟨240, 8, 240, 14⟩) (.rng (.cons (.int 2 0 ⟨240, 24, 240, 25⟩) .nil) ⟨240, 18, 240, 23⟩ ⟨240, 18, 240, 26⟩)
 law_F0b ⟨240, 4, 249, 24⟩) : Rf.St).ev T G ρ S := (rfl)
theorem e_b_law : (b_law).ev T G ρ S = ((.cons (.set 1 (.call 9 (.cons (.var 0 ⟨239, 25, 239, 36⟩) .nil) ⟨239, 14, 239, 24⟩ ⟨239, 14, 239, 37⟩) ⟨239, 4, 239, 11⟩ ⟨239, 4, 239, 37⟩)
 (.cons law_F0
 (.frz 1 (.cons (.ret (.bl true 0 ⟨250, 11, 250, 15⟩) ⟨250, 4, 250, 15⟩)
 .nil)))) : Rf.Ss).ev T G ρ S := (rfl)
theorem e_Rule_init_I0a : (Rule_init_I0a).ev T G ρ S = ((.cons (.rai 1 "numbers that do not go together" 0 ⟨45, 18, 45, 25⟩ ⟨45, 26, 45, 59⟩ ⟨45, 18, 45, 60⟩ ⟨45, 12, 45, 60⟩)
 .nil) : Rf.Ss).ev T G ρ S := (rfl)
theorem e_Rule_init_I0 : (Rule_init_I0).ev T G ρ S = ((.ite (.bop false (.cons (.not (.ch2 .le .le (.int 0 0 ⟨44, 15, 44, 16⟩) (.var 1 ⟨44, 20, 44, 23⟩) (.var 2 ⟨44, 27, 44, 31⟩) ⟨44, 15, 44, 31⟩) ⟨44, 11, 44, 31⟩) (.cons (.cmp .lt (.var 3 ⟨44, 35, 44, 39⟩) (.int 2 0 ⟨44, 42, 44, 43⟩) ⟨44, 35, 44, 43⟩) (.cons (.not (.ch3 .le .le .lt (.int 0 0 ⟨44, 52, 44, 53⟩) (.var 4 ⟨44, 57, 44, 62⟩) (.var 5 ⟨44, 66, 44, 70⟩) (.var 3 ⟨44, 73, 44, 77⟩) ⟨44, 52, 44, 77⟩) ⟨44, 48, 44, 77⟩) .nil))) ⟨44, 11, 44, 78⟩)
 Rule_init_I0a
 .nil ⟨44, 8, 45, 60⟩) : Rf.St).ev T G ρ S := (rfl)
theorem e_Rule_init_I1a : (Rule_init_I1a).ev T G ρ S = ((.cons (.rai 1 "pieces that are none" 0 ⟨47, 18, 47, 25⟩ ⟨47, 26, 47, 48⟩ ⟨47, 18, 47, 49⟩ ⟨47, 12, 47, 49⟩)
 .nil) : Rf.Ss).ev T G ρ S := (rfl)
theorem e_Rule_init_I1 : (Rule_init_I1).ev T G ρ S = ((.ite (.not (.call 2 (.cons (.var 6 ⟨46, 25, 46, 31⟩) .nil) ⟨46, 15, 46, 24⟩ ⟨46, 15, 46, 32⟩) ⟨46, 11, 46, 32⟩)
 Rule_init_I1a
 .nil ⟨46, 8, 47, 49⟩) : Rf.St).ev T G ρ S := (rfl)
theorem e_Rule_init_I2a : (Rule_init_I2a).ev T G ρ S = ((.cons (.rai 1 "parts that do not tell the number" 0 ⟨55, 18, 55, 25⟩ ⟨55, 26, 55, 61⟩ ⟨55, 18, 55, 62⟩ ⟨55, 12, 55, 62⟩)
 .nil) : Rf.Ss).ev T G ρ S := (rfl)
theorem e_Rule_init_I2 : (Rule_init_I2).ev T G ρ S = ((.ite (.not (.call 3 (.cons (.var 0 ⟨54, 26, 54, 30⟩) .nil) ⟨54, 15, 54, 25⟩ ⟨54, 15, 54, 31⟩) ⟨54, 11, 54, 31⟩)
 Rule_init_I2a
 .nil ⟨54, 8, 55, 62⟩) : Rf.St).ev T G ρ S := (rfl)
theorem e_b_Rule_init : (b_Rule_init).ev T G ρ S = ((.cons Rule_init_I0
 (.cons Rule_init_I1
 (.cons (.sfl (.var 0 ⟨48, 8, 48, 12⟩) 3 (.var 1 ⟨48, 19, 48, 22⟩) ⟨48, 8, 48, 16⟩ ⟨48, 8, 48, 22⟩)
 (.cons (.sfl (.var 0 ⟨49, 8, 49, 12⟩) 5 (.var 2 ⟨49, 20, 49, 24⟩) ⟨49, 8, 49, 17⟩ ⟨49, 8, 49, 24⟩)
 (.cons (.sfl (.var 0 ⟨50, 8, 50, 12⟩) 4 (.var 3 ⟨50, 20, 50, 24⟩) ⟨50, 8, 50, 17⟩ ⟨50, 8, 50, 24⟩)
 (.cons (.sfl (.var 0 ⟨51, 8, 51, 12⟩) 0 (.var 4 ⟨51, 21, 51, 26⟩) ⟨51, 8, 51, 18⟩ ⟨51, 8, 51, 26⟩)
 (.cons (.sfl (.var 0 ⟨52, 8, 52, 12⟩) 1 (.var 5 ⟨52, 20, 52, 24⟩) ⟨52, 8, 52, 17⟩ ⟨52, 8, 52, 24⟩)
 (.cons (.sfl (.var 0 ⟨53, 8, 53, 12⟩) 2 (.bfn .list (.cons (.var 6 ⟨53, 27, 53, 33⟩) .nil) ⟨53, 22, 53, 26⟩ ⟨53, 22, 53, 34⟩) ⟨53, 8, 53, 19⟩ ⟨53, 8, 53, 34⟩)
 (.cons Rule_init_I2
 .nil))))))))) : Rf.Ss).ev T G ρ S := (rfl)
theorem e_Tongue_init_I0a : (Tongue_init_I0a).ev T G ρ S = ((.cons (.rai 2 "a bound below nought" 0 ⟨68, 18, 68, 26⟩ ⟨68, 27, 68, 49⟩ ⟨68, 18, 68, 50⟩ ⟨68, 12, 68, 50⟩)
 .nil) : Rf.Ss).ev T G ρ S := (rfl)
theorem e_Tongue_init_I0 : (Tongue_init_I0).ev T G ρ S = ((.ite (.cmp .lt (.var 1 ⟨67, 11, 67, 16⟩) (.int 0 0 ⟨67, 19, 67, 20⟩) ⟨67, 11, 67, 20⟩)
 Tongue_init_I0a
 .nil ⟨67, 8, 68, 50⟩) : Rf.St).ev T G ρ S := (rfl)
theorem e_Tongue_init_C0 : (Tongue_init_C0).ev T G ρ S = ((.call 4 (.cons (.var 6 ⟨69, 28, 69, 32⟩) .nil) ⟨69, 20, 69, 27⟩ ⟨69, 20, 69, 33⟩) : Rf.E).ev T G ρ S := (rfl)
theorem e_Tongue_init_I1a : (Tongue_init_I1a).ev T G ρ S = ((.cons (.rai 3 "a melt that is none" 0 ⟨70, 18, 70, 25⟩ ⟨70, 26, 70, 47⟩ ⟨70, 18, 70, 48⟩ ⟨70, 12, 70, 48⟩)
 .nil) : Rf.Ss).ev T G ρ S := (rfl)
theorem e_Tongue_init_I1 : (Tongue_init_I1).ev T G ρ S = ((.ite (.not (.bfn .all (.cons (.comp Tongue_init_C0 (.nm 6 ⟨69, 38, 69, 42⟩) (.seq (.var 3 ⟨69, 46, 69, 51⟩)) .nil ⟨.function, [(".0", .local), ("melt", .local), ("is_melt", .globalImplicit)], false, false, []⟩ [(".0", 5), ("melt", 6)] ⟨69, 19, 69, 52⟩) .nil) ⟨69, 15, 69, 18⟩ ⟨69, 15, 69, 53⟩) ⟨69, 11, 69, 53⟩)
 Tongue_init_I1a
 .nil ⟨69, 8, 70, 48⟩) : Rf.St).ev T G ρ S := (rfl)
theorem e_Tongue_init_C1 : (Tongue_init_C1).ev T G ρ S = ((.fld (.var 7 ⟨71, 20, 71, 24⟩) 10 ⟨71, 20, 71, 30⟩) : Rf.E).ev T G ρ S := (rfl)
theorem e_Tongue_init_I2a : (Tongue_init_I2a).ev T G ρ S = ((.cons (.rai 4 "two kinds of one title" 0 ⟨72, 18, 72, 23⟩ ⟨72, 24, 72, 48⟩ ⟨72, 18, 72, 49⟩ ⟨72, 12, 72, 49⟩)
 .nil) : Rf.Ss).ev T G ρ S := (rfl)
theorem e_Tongue_init_I2 : (Tongue_init_I2).ev T G ρ S = ((.ite (.cmp .ne (.lens (.comp Tongue_init_C1 (.nm 7 ⟨71, 35, 71, 39⟩) (.seq (.var 4 ⟨71, 43, 71, 48⟩)) .nil ⟨.function, [(".0", .local), ("kind", .local)], false, false, []⟩ [(".0", 5), ("kind", 7)] ⟨71, 19, 71, 49⟩) ⟨71, 11, 71, 14⟩ ⟨71, 15, 71, 18⟩ ⟨71, 15, 71, 50⟩ ⟨71, 11, 71, 51⟩) (.bfn .len (.cons (.var 4 ⟨71, 59, 71, 64⟩) .nil) ⟨71, 55, 71, 58⟩ ⟨71, 55, 71, 65⟩) ⟨71, 11, 71, 65⟩)
 Tongue_init_I2a
 .nil ⟨71, 8, 72, 49⟩) : Rf.St).ev T G ρ S := (rfl)
theorem e_b_Tongue_init : (b_Tongue_init).ev T G ρ S = ((.cons (.set 3 (.orl (.var 3 ⟨65, 16, 65, 21⟩) (.lst .nil ⟨65, 25, 65, 27⟩) ⟨65, 16, 65, 27⟩) ⟨65, 8, 65, 13⟩ ⟨65, 8, 65, 27⟩)
 (.cons (.set 4 (.orl (.var 4 ⟨66, 16, 66, 21⟩) (.lst .nil ⟨66, 25, 66, 27⟩) ⟨66, 16, 66, 27⟩) ⟨66, 8, 66, 13⟩ ⟨66, 8, 66, 27⟩)
 (.cons Tongue_init_I0
 (.cons Tongue_init_I1
 (.cons Tongue_init_I2
 (.cons (.sfl (.var 0 ⟨73, 8, 73, 12⟩) 6 (.var 1 ⟨73, 21, 73, 26⟩) ⟨73, 8, 73, 18⟩ ⟨73, 8, 73, 26⟩)
 (.cons (.sfl (.var 0 ⟨74, 8, 74, 12⟩) 7 (.bfn .list (.cons (.var 2 ⟨74, 26, 74, 31⟩) .nil) ⟨74, 21, 74, 25⟩ ⟨74, 21, 74, 32⟩) ⟨74, 8, 74, 18⟩ ⟨74, 8, 74, 32⟩)
 (.cons (.sfl (.var 0 ⟨75, 8, 75, 12⟩) 8 (.bfn .list (.cons (.var 3 ⟨75, 26, 75, 31⟩) .nil) ⟨75, 21, 75, 25⟩ ⟨75, 21, 75, 32⟩) ⟨75, 8, 75, 18⟩ ⟨75, 8, 75, 32⟩)
 (.cons (.sfl (.var 0 ⟨76, 8, 76, 12⟩) 9 (.bfn .list (.cons (.var 4 ⟨76, 26, 76, 31⟩) .nil) ⟨76, 21, 76, 25⟩ ⟨76, 21, 76, 32⟩) ⟨76, 8, 76, 18⟩ ⟨76, 8, 76, 32⟩)
 .nil))))))))) : Rf.Ss).ev T G ρ S := (rfl)
theorem e_Kind_init_I0a : (Kind_init_I0a).ev T G ρ S = ((.cons (.rai 5 "no kind" 0 ⟨94, 18, 94, 25⟩ ⟨94, 26, 94, 35⟩ ⟨94, 18, 94, 36⟩ ⟨94, 12, 94, 36⟩)
 .nil) : Rf.Ss).ev T G ρ S := (rfl)
theorem e_Kind_init_I0 : (Kind_init_I0).ev T G ρ S = ((.ite (.bop false (.cons (.not (.call 5 (.cons (.var 1 ⟨93, 24, 93, 29⟩) .nil) ⟨93, 15, 93, 23⟩ ⟨93, 15, 93, 30⟩) ⟨93, 11, 93, 30⟩) (.cons (.not (.call 0 (.cons (.var 2 ⟨93, 46, 93, 52⟩) .nil) ⟨93, 38, 93, 45⟩ ⟨93, 38, 93, 53⟩) ⟨93, 34, 93, 53⟩) (.cons (.not (.call 6 (.cons (.var 3 ⟨93, 72, 93, 77⟩) .nil) ⟨93, 62, 93, 71⟩ ⟨93, 62, 93, 78⟩) ⟨93, 58, 93, 78⟩) .nil))) ⟨93, 11, 93, 79⟩)
 Kind_init_I0a
 .nil ⟨93, 8, 94, 36⟩) : Rf.St).ev T G ρ S := (rfl)
theorem e_b_Kind_init : (b_Kind_init).ev T G ρ S = ((.cons Kind_init_I0
 (.cons (.sfl (.var 0 ⟨95, 8, 95, 12⟩) 10 (.var 1 ⟨95, 21, 95, 26⟩) ⟨95, 8, 95, 18⟩ ⟨95, 8, 95, 26⟩)
 (.cons (.sfl (.var 0 ⟨96, 8, 96, 12⟩) 11 (.var 2 ⟨96, 22, 96, 28⟩) ⟨96, 8, 96, 19⟩ ⟨96, 8, 96, 28⟩)
 (.cons (.sfl (.var 0 ⟨97, 8, 97, 12⟩) 12 (.bfn .list (.cons (.var 3 ⟨97, 26, 97, 31⟩) .nil) ⟨97, 21, 97, 25⟩ ⟨97, 21, 97, 32⟩) ⟨97, 8, 97, 18⟩ ⟨97, 8, 97, 32⟩)
 .nil)))) : Rf.Ss).ev T G ρ S := (rfl)
theorem gc_0 : (E.glo 0 p).ev T G ρ S = .ok (.t (.str "abcdefghijklmnopqrstuvwxyz")) S := (rfl)
theorem gc_1 : (E.glo 1 p).ev T G ρ S = .ok (.t (.str "+")) S := (rfl)
theorem gc_2 : (E.glo 2 p).ev T G ρ S = .ok (.t (.int 8)) S := (rfl)
theorem gc_3 : (E.glo 3 p).ev T G ρ S = .ok (.t (.rt [.str "Q", .str "N", .str "W", .str "U", .str "R", .str "K"])) S := (rfl)
theorem gc_4 : (E.glo 4 p).ev T G ρ S = .ok (.t (.str "abcdefghijklmnopqrstuvwxyz")) S := (rfl)
end
theorem gk_0 : G.kit (.own 8) (.own 8) = some true := by kernel_rfl
theorem gk_1 : G.kit (.own 6) (.own 6) = some true := by kernel_rfl
theorem gk_2 : G.kit (.own 7) (.own 7) = some true := by kernel_rfl
theorem gk_3 : G.kit (.ty "int") (.ty "bool" "bool") = some false := by kernel_rfl
theorem gk_4 : G.kit (.ty "int") (.ty "int" "int") = some true := by kernel_rfl
theorem gk_5 : G.kit (.ty "list") (.ty "list" "list") = some true := by kernel_rfl
theorem gk_6 : G.kit (.ty "str") (.ty "str" "str") = some true := by kernel_rfl
theorem gn_0 : G.na.contains (7, 6) = true := by kernel_rfl
theorem gn_1 : G.na.contains (7, 7) = true := by kernel_rfl
theorem gn_2 : G.na.contains (7, 8) = true := by kernel_rfl
theorem gn_3 : G.na.contains (7, 9) = true := by kernel_rfl
theorem gn_4 : G.na.contains (8, 10) = true := by kernel_rfl
theorem gn_5 : G.na.contains (8, 11) = true := by kernel_rfl
theorem gn_6 : G.na.contains (8, 12) = true := by kernel_rfl
theorem gn_7 : G.na.contains (6, 0) = true := by kernel_rfl
theorem gn_8 : G.na.contains (6, 1) = true := by kernel_rfl
theorem gn_9 : G.na.contains (6, 2) = true := by kernel_rfl
theorem gn_10 : G.na.contains (6, 3) = true := by kernel_rfl
theorem gn_11 : G.na.contains (6, 4) = true := by kernel_rfl
theorem gn_12 : G.na.contains (6, 5) = true := by kernel_rfl
theorem gi_6 : G.ini[6]? = some 26 := by kernel_rfl
theorem gi_7 : G.ini[7]? = some 27 := by kernel_rfl
theorem gi_8 : G.ini[8]? = some 28 := by kernel_rfl
def fldN : List Str := ["first", "last", "pieces", "low", "base", "high", "bound", "rules", "melts", "kinds", "title", "ending", "turns"]
theorem fld_inj : ∀ i j, fnF fldN i = fnF fldN j → i = j := fnF_inj (by decide +kernel) (by decide +kernel)
theorem all_mk {l : PySem.W.OpenLaw} {w : World} {K : PySem.W.Frag} {h : Heap} {mg : Str → Option Value} {fa : Addr} (X : K.In h) (G0 : h.Ns mainGlobals mg) (hfa : mg "law" = some (.ref fa))
    {C0 C1 C2 C3 C4 C5 C6 C7 C8 f0 f1 f2 f3 f4 f5 f6 f7 f8 f9 f10 f11 f12 f13 f14 f15 f16 f17 f18 f19 f20 f21 f22 f23 f24 f25 f26 f27 f28 : Addr}
    {od0 an0 od1 an1 od2 an2 od3 an3 od4 an4 od5 an5 od6 an6 od7 an7 od8 an8 od9 an9 od10 an10 od11 an11 od12 an12 od13 an13 od14 an14 od15 an15 od16 an16 od17 an17 od18 an18 od19 an19 od20 an20 od21 an21 od22 an22 od23 an23 od24 an24 od25 an25 od26 an26 od27 an27 od28 an28 : Option Addr} {sl0 sl1 sl2 sl3 sl4 sl5 sl6 sl7 sl8 sl9 sl10 sl11 sl12 sl13 sl14 sl15 sl16 sl17 sl18 sl19 sl20 sl21 sl22 sl23 sl24 sl25 sl26 sl27 sl28 : Array (Option Value)} {oc0 kV0 dc0 pm0 cd0 ct0 oc1 kV1 dc1 pm1 cd1 ct1 oc2 kV2 dc2 pm2 cd2 ct2 oc3 kV3 dc3 pm3 cd3 ct3 oc4 kV4 dc4 pm4 cd4 ct4 oc5 kV5 dc5 pm5 cd5 ct5 oc6 kV6 dc6 pm6 cd6 ct6 oc7 kV7 dc7 pm7 cd7 ct7 oc8 kV8 dc8 pm8 cd8 ct8 oc9 kV9 dc9 pm9 cd9 ct9 oc10 kV10 dc10 pm10 cd10 ct10 oc11 kV11 dc11 pm11 cd11 ct11 oc12 kV12 dc12 pm12 cd12 ct12 oc13 kV13 dc13 pm13 cd13 ct13 oc14 kV14 dc14 pm14 cd14 ct14 oc15 kV15 dc15 pm15 cd15 ct15 oc16 kV16 dc16 pm16 cd16 ct16 oc17 kV17 dc17 pm17 cd17 ct17 oc18 kV18 dc18 pm18 cd18 ct18 oc19 kV19 dc19 pm19 cd19 ct19 oc20 kV20 dc20 pm20 cd20 ct20 oc21 kV21 dc21 pm21 cd21 ct21 oc22 kV22 dc22 pm22 cd22 ct22 oc23 kV23 dc23 pm23 cd23 ct23 oc24 kV24 dc24 pm24 cd24 ct24 oc25 kV25 dc25 pm25 cd25 ct25 oc26 kV26 dc26 pm26 cd26 ct26 oc27 kV27 dc27 pm27 cd27 ct27 oc28 kV28 dc28 pm28 cd28 ct28 : Value}
    {D27 : Addr} {ud_27 : Option Addr} {ui_27 : Array Value} {un_27 : Nat} {us_27 : Array (Option Value)}
    {t0 : Tok}
    {t1 : Tok}
    {t2 : Tok}
    {r3 : Addr} {ud3 : Option Addr} {ui3 : Array Value} {un3 : Nat} {us3 : Array (Option Value)}
    {t4 : Tok}
    (e0 : PySem.W.nsIn K mainGlobals "SayError" = some (some (.ref C0)))
    (e1 : PySem.W.nsIn K mainGlobals "BadRule" = some (some (.ref C1)))
    (e2 : PySem.W.nsIn K mainGlobals "BadBound" = some (some (.ref C2)))
    (e3 : PySem.W.nsIn K mainGlobals "BadMelt" = some (some (.ref C3)))
    (e4 : PySem.W.nsIn K mainGlobals "Twice" = some (some (.ref C4)))
    (e5 : PySem.W.nsIn K mainGlobals "BadKind" = some (some (.ref C5)))
    (e6 : PySem.W.nsIn K mainGlobals "Rule" = some (some (.ref C6)))
    (e7 : PySem.W.nsIn K mainGlobals "Tongue" = some (some (.ref C7)))
    (e8 : PySem.W.nsIn K mainGlobals "Kind" = some (some (.ref C8)))
    (a0 : PySem.W.nsIn K mainGlobals "is_word" = some (some (.ref f0)))
    (l0 : K.lookup f0 = some ⟨oc0, od0, .func (PySem.W.fnOf "is_word" "is_word" (defArgs s0) (defBody s0) (defScope s0) .none kV0 dc0 pm0 an0 cd0 ct0), sl0⟩)
    (d0 : PySem.W.codeIn K cd0 "is_word" = true)
    (k0 : PySem.W.keepIn K (.ref f0) = true)
    (a1 : PySem.W.nsIn K mainGlobals "ties_stand" = some (some (.ref f1)))
    (l1 : K.lookup f1 = some ⟨oc1, od1, .func (PySem.W.fnOf "ties_stand" "ties_stand" (defArgs s1) (defBody s1) (defScope s1) .none kV1 dc1 pm1 an1 cd1 ct1), sl1⟩)
    (d1 : PySem.W.codeIn K cd1 "ties_stand" = true)
    (k1 : PySem.W.keepIn K (.ref f1) = true)
    (a2 : PySem.W.nsIn K mainGlobals "items_fit" = some (some (.ref f2)))
    (l2 : K.lookup f2 = some ⟨oc2, od2, .func (PySem.W.fnOf "items_fit" "items_fit" (defArgs s2) (defBody s2) (defScope s2) .none kV2 dc2 pm2 an2 cd2 ct2), sl2⟩)
    (d2 : PySem.W.codeIn K cd2 "items_fit" = true)
    (k2 : PySem.W.keepIn K (.ref f2) = true)
    (a3 : PySem.W.nsIn K mainGlobals "rule_tells" = some (some (.ref f3)))
    (l3 : K.lookup f3 = some ⟨oc3, od3, .func (PySem.W.fnOf "rule_tells" "rule_tells" (defArgs s3) (defBody s3) (defScope s3) .none kV3 dc3 pm3 an3 cd3 ct3), sl3⟩)
    (d3 : PySem.W.codeIn K cd3 "rule_tells" = true)
    (k3 : PySem.W.keepIn K (.ref f3) = true)
    (a4 : PySem.W.nsIn K mainGlobals "is_melt" = some (some (.ref f4)))
    (l4 : K.lookup f4 = some ⟨oc4, od4, .func (PySem.W.fnOf "is_melt" "is_melt" (defArgs s4) (defBody s4) (defScope s4) .none kV4 dc4 pm4 an4 cd4 ct4), sl4⟩)
    (d4 : PySem.W.codeIn K cd4 "is_melt" = true)
    (k4 : PySem.W.keepIn K (.ref f4) = true)
    (a5 : PySem.W.nsIn K mainGlobals "is_title" = some (some (.ref f5)))
    (l5 : K.lookup f5 = some ⟨oc5, od5, .func (PySem.W.fnOf "is_title" "is_title" (defArgs s5) (defBody s5) (defScope s5) .none kV5 dc5 pm5 an5 cd5 ct5), sl5⟩)
    (d5 : PySem.W.codeIn K cd5 "is_title" = true)
    (k5 : PySem.W.keepIn K (.ref f5) = true)
    (a6 : PySem.W.nsIn K mainGlobals "are_turns" = some (some (.ref f6)))
    (l6 : K.lookup f6 = some ⟨oc6, od6, .func (PySem.W.fnOf "are_turns" "are_turns" (defArgs s6) (defBody s6) (defScope s6) .none kV6 dc6 pm6 an6 cd6 ct6), sl6⟩)
    (d6 : PySem.W.codeIn K cd6 "are_turns" = true)
    (k6 : PySem.W.keepIn K (.ref f6) = true)
    (a7 : PySem.W.nsIn K mainGlobals "rule_row" = some (some (.ref f7)))
    (l7 : K.lookup f7 = some ⟨oc7, od7, .func (PySem.W.fnOf "rule_row" "rule_row" (defArgs s7) (defBody s7) (defScope s7) .none kV7 dc7 pm7 an7 cd7 ct7), sl7⟩)
    (d7 : PySem.W.codeIn K cd7 "rule_row" = true)
    (k7 : PySem.W.keepIn K (.ref f7) = true)
    (a8 : PySem.W.nsIn K mainGlobals "tongue_text" = some (some (.ref f8)))
    (l8 : K.lookup f8 = some ⟨oc8, od8, .func (PySem.W.fnOf "tongue_text" "tongue_text" (defArgs s8) (defBody s8) (defScope s8) .none kV8 dc8 pm8 an8 cd8 ct8), sl8⟩)
    (d8 : PySem.W.codeIn K cd8 "tongue_text" = true)
    (k8 : PySem.W.keepIn K (.ref f8) = true)
    (a9 : PySem.W.nsIn K mainGlobals "_law_begin" = some (some (.ref f9)))
    (l9 : K.lookup f9 = some ⟨oc9, od9, .func (PySem.W.fnOf "_law_begin" "_law_begin" (defArgs s9) (defBody s9) (defScope s9) .none kV9 dc9 pm9 an9 cd9 ct9), sl9⟩)
    (d9 : PySem.W.codeIn K cd9 "_law_begin" = true)
    (k9 : PySem.W.keepIn K (.ref f9) = true)
    (a10 : PySem.W.nsIn K mainGlobals "_law_next" = some (some (.ref f10)))
    (l10 : K.lookup f10 = some ⟨oc10, od10, .func (PySem.W.fnOf "_law_next" "_law_next" (defArgs s10) (defBody s10) (defScope s10) .none kV10 dc10 pm10 an10 cd10 ct10), sl10⟩)
    (d10 : PySem.W.codeIn K cd10 "_law_next" = true)
    (k10 : PySem.W.keepIn K (.ref f10) = true)
    (a11 : PySem.W.nsIn K mainGlobals "_law_words" = some (some (.ref f11)))
    (l11 : K.lookup f11 = some ⟨oc11, od11, .func (PySem.W.fnOf "_law_words" "_law_words" (defArgs s11) (defBody s11) (defScope s11) .none kV11 dc11 pm11 an11 cd11 ct11), sl11⟩)
    (d11 : PySem.W.codeIn K cd11 "_law_words" = true)
    (k11 : PySem.W.keepIn K (.ref f11) = true)
    (a12 : PySem.W.nsIn K mainGlobals "_law_melt" = some (some (.ref f12)))
    (l12 : K.lookup f12 = some ⟨oc12, od12, .func (PySem.W.fnOf "_law_melt" "_law_melt" (defArgs s12) (defBody s12) (defScope s12) .none kV12 dc12 pm12 an12 cd12 ct12), sl12⟩)
    (d12 : PySem.W.codeIn K cd12 "_law_melt" = true)
    (k12 : PySem.W.keepIn K (.ref f12) = true)
    (a13 : PySem.W.nsIn K mainGlobals "_law_melts" = some (some (.ref f13)))
    (l13 : K.lookup f13 = some ⟨oc13, od13, .func (PySem.W.fnOf "_law_melts" "_law_melts" (defArgs s13) (defBody s13) (defScope s13) .none kV13 dc13 pm13 an13 cd13 ct13), sl13⟩)
    (d13 : PySem.W.codeIn K cd13 "_law_melts" = true)
    (k13 : PySem.W.keepIn K (.ref f13) = true)
    (a14 : PySem.W.nsIn K mainGlobals "_law_great" = some (some (.ref f14)))
    (l14 : K.lookup f14 = some ⟨oc14, od14, .func (PySem.W.fnOf "_law_great" "_law_great" (defArgs s14) (defBody s14) (defScope s14) .none kV14 dc14 pm14 an14 cd14 ct14), sl14⟩)
    (d14 : PySem.W.codeIn K cd14 "_law_great" = true)
    (k14 : PySem.W.keepIn K (.ref f14) = true)
    (a15 : PySem.W.nsIn K mainGlobals "_law_items" = some (some (.ref f15)))
    (l15 : K.lookup f15 = some ⟨oc15, od15, .func (PySem.W.fnOf "_law_items" "_law_items" (defArgs s15) (defBody s15) (defScope s15) .none kV15 dc15 pm15 an15 cd15 ct15), sl15⟩)
    (d15 : PySem.W.codeIn K cd15 "_law_items" = true)
    (k15 : PySem.W.keepIn K (.ref f15) = true)
    (a16 : PySem.W.nsIn K mainGlobals "_law_rule" = some (some (.ref f16)))
    (l16 : K.lookup f16 = some ⟨oc16, od16, .func (PySem.W.fnOf "_law_rule" "_law_rule" (defArgs s16) (defBody s16) (defScope s16) .none kV16 dc16 pm16 an16 cd16 ct16), sl16⟩)
    (d16 : PySem.W.codeIn K cd16 "_law_rule" = true)
    (k16 : PySem.W.keepIn K (.ref f16) = true)
    (a17 : PySem.W.nsIn K mainGlobals "_law_kind" = some (some (.ref f17)))
    (l17 : K.lookup f17 = some ⟨oc17, od17, .func (PySem.W.fnOf "_law_kind" "_law_kind" (defArgs s17) (defBody s17) (defScope s17) .none kV17 dc17 pm17 an17 cd17 ct17), sl17⟩)
    (d17 : PySem.W.codeIn K cd17 "_law_kind" = true)
    (k17 : PySem.W.keepIn K (.ref f17) = true)
    (a18 : PySem.W.nsIn K mainGlobals "_law_data" = some (some (.ref f18)))
    (l18 : K.lookup f18 = some ⟨oc18, od18, .func (PySem.W.fnOf "_law_data" "_law_data" (defArgs s18) (defBody s18) (defScope s18) .none kV18 dc18 pm18 an18 cd18 ct18), sl18⟩)
    (d18 : PySem.W.codeIn K cd18 "_law_data" = true)
    (k18 : PySem.W.keepIn K (.ref f18) = true)
    (a19 : PySem.W.nsIn K mainGlobals "_law_tongue" = some (some (.ref f19)))
    (l19 : K.lookup f19 = some ⟨oc19, od19, .func (PySem.W.fnOf "_law_tongue" "_law_tongue" (defArgs s19) (defBody s19) (defScope s19) .none kV19 dc19 pm19 an19 cd19 ct19), sl19⟩)
    (d19 : PySem.W.codeIn K cd19 "_law_tongue" = true)
    (k19 : PySem.W.keepIn K (.ref f19) = true)
    (a20 : PySem.W.nsIn K mainGlobals "_law_rule_row" = some (some (.ref f20)))
    (l20 : K.lookup f20 = some ⟨oc20, od20, .func (PySem.W.fnOf "_law_rule_row" "_law_rule_row" (defArgs s20) (defBody s20) (defScope s20) .none kV20 dc20 pm20 an20 cd20 ct20), sl20⟩)
    (d20 : PySem.W.codeIn K cd20 "_law_rule_row" = true)
    (k20 : PySem.W.keepIn K (.ref f20) = true)
    (a21 : PySem.W.nsIn K mainGlobals "_law_rows" = some (some (.ref f21)))
    (l21 : K.lookup f21 = some ⟨oc21, od21, .func (PySem.W.fnOf "_law_rows" "_law_rows" (defArgs s21) (defBody s21) (defScope s21) .none kV21 dc21 pm21 an21 cd21 ct21), sl21⟩)
    (d21 : PySem.W.codeIn K cd21 "_law_rows" = true)
    (k21 : PySem.W.keepIn K (.ref f21) = true)
    (a22 : PySem.W.nsIn K mainGlobals "_law_whole" = some (some (.ref f22)))
    (l22 : K.lookup f22 = some ⟨oc22, od22, .func (PySem.W.fnOf "_law_whole" "_law_whole" (defArgs s22) (defBody s22) (defScope s22) .none kV22 dc22 pm22 an22 cd22 ct22), sl22⟩)
    (d22 : PySem.W.codeIn K cd22 "_law_whole" = true)
    (k22 : PySem.W.keepIn K (.ref f22) = true)
    (a23 : PySem.W.nsIn K mainGlobals "_law_is_rule" = some (some (.ref f23)))
    (l23 : K.lookup f23 = some ⟨oc23, od23, .func (PySem.W.fnOf "_law_is_rule" "_law_is_rule" (defArgs s23) (defBody s23) (defScope s23) .none kV23 dc23 pm23 an23 cd23 ct23), sl23⟩)
    (d23 : PySem.W.codeIn K cd23 "_law_is_rule" = true)
    (k23 : PySem.W.keepIn K (.ref f23) = true)
    (a24 : PySem.W.nsIn K mainGlobals "_law_is_tongue" = some (some (.ref f24)))
    (l24 : K.lookup f24 = some ⟨oc24, od24, .func (PySem.W.fnOf "_law_is_tongue" "_law_is_tongue" (defArgs s24) (defBody s24) (defScope s24) .none kV24 dc24 pm24 an24 cd24 ct24), sl24⟩)
    (d24 : PySem.W.codeIn K cd24 "_law_is_tongue" = true)
    (k24 : PySem.W.keepIn K (.ref f24) = true)
    (a25 : PySem.W.nsIn K mainGlobals "law" = some (some (.ref f25)))
    (l25 : K.lookup f25 = some ⟨oc25, od25, .func (PySem.W.fnOf "law" "law" (defArgs s25) (defBody s25) (defScope s25) .none kV25 dc25 pm25 an25 cd25 ct25), sl25⟩)
    (d25 : PySem.W.codeIn K cd25 "law" = true)
    (k25 : PySem.W.keepIn K (.ref f25) = true)
    (mi6 : PySem.W.findIn K (.ref C6) "__init__" = some (some (.ref f26)))
    (l26 : K.lookup f26 = some ⟨oc26, od26, .func (PySem.W.fnOf "__init__" "Rule.__init__" (defArgs s26) (defBody s26) (defScope s26) .none kV26 dc26 pm26 an26 cd26 ct26), sl26⟩)
    (d26 : PySem.W.codeIn K cd26 "Rule.__init__" = true)
    (k26 : PySem.W.keepIn K (.ref f26) = true)
    (mi7 : PySem.W.findIn K (.ref C7) "__init__" = some (some (.ref f27)))
    (l27 : K.lookup f27 = some ⟨oc27, od27, .func (PySem.W.fnOf "__init__" "Tongue.__init__" (defArgs s27) (defBody s27) (defScope s27) (.ref D27) kV27 dc27 pm27 an27 cd27 ct27), sl27⟩)
    (lt27 : K.lookup D27 = some ⟨.type "tuple", ud_27, .seq ui_27 un_27, us_27⟩)
    (ut27 : ui_27.toList = List.replicate 2 .none)
    (d27 : PySem.W.codeIn K cd27 "Tongue.__init__" = true)
    (k27 : PySem.W.keepIn K (.ref f27) = true)
    (mi8 : PySem.W.findIn K (.ref C8) "__init__" = some (some (.ref f28)))
    (l28 : K.lookup f28 = some ⟨oc28, od28, .func (PySem.W.fnOf "__init__" "Kind.__init__" (defArgs s28) (defBody s28) (defScope s28) .none kV28 dc28 pm28 an28 cd28 ct28), sl28⟩)
    (d28 : PySem.W.codeIn K cd28 "Kind.__init__" = true)
    (k28 : PySem.W.keepIn K (.ref f28) = true)
    (z0 : PySem.W.nsIn K mainGlobals "all" = some none)
    (z1 : PySem.W.nsIn K mainGlobals "any" = some none)
    (z2 : PySem.W.nsIn K mainGlobals "bool" = some none)
    (z3 : PySem.W.nsIn K mainGlobals "int" = some none)
    (z4 : PySem.W.nsIn K mainGlobals "isinstance" = some none)
    (z5 : PySem.W.nsIn K mainGlobals "len" = some none)
    (z6 : PySem.W.nsIn K mainGlobals "list" = some none)
    (z7 : PySem.W.nsIn K mainGlobals "max" = some none)
    (z8 : PySem.W.nsIn K mainGlobals "min" = some none)
    (z9 : PySem.W.nsIn K mainGlobals "range" = some none)
    (z10 : PySem.W.nsIn K mainGlobals "set" = some none)
    (z11 : PySem.W.nsIn K mainGlobals "str" = some none)
    (q0 : PySem.W.nsIn K mainGlobals "SMALL" = some (some (.str "abcdefghijklmnopqrstuvwxyz" t0)))
    (q1 : PySem.W.nsIn K mainGlobals "TIE" = some (some (.str "+" t1)))
    (q2 : PySem.W.nsIn K mainGlobals "MOST_ITEMS" = some (some (.int 8 t2)))
    (q3 : PySem.W.nsIn K mainGlobals "SIGNS" = some (some (.ref r3)))
    (u3 : K.lookup r3 = some ⟨.type "tuple", ud3, .seq ui3 un3, us3⟩)
    (w3 : ui3.size ≤ sizeLine)
    (y3 : Vals [.str "Q", .str "N", .str "W", .str "U", .str "R", .str "K"] ui3.toList)
    (q4 : PySem.W.nsIn K mainGlobals "LETTERS" = some (some (.str "abcdefghijklmnopqrstuvwxyz" t4)))
    (mk6 : PySem.W.makesIn K C6 = true)
    (mf6 : PySem.W.isFn K (.ref f26) = true)
    (mp6 : PySem.W.keepIn K (.ref C6) = true)
    (mk7 : PySem.W.makesIn K C7 = true)
    (mf7 : PySem.W.isFn K (.ref f27) = true)
    (mp7 : PySem.W.keepIn K (.ref C7) = true)
    (mk8 : PySem.W.makesIn K C8 = true)
    (mf8 : PySem.W.isFn K (.ref f28) = true)
    (mp8 : PySem.W.keepIn K (.ref C8) = true)
    (na7_6 : PySem.W.findIn K (.ref C7) "bound" = some none)
    (pg7 : PySem.W.plainGet K C7 Str.empty = true)
    (hd7 : PySem.W.hasDictIn K C7 = true)
    (po7 : PySem.W.plainOver K C7 = true)
    (sa7 : PySem.W.findIn K (.ref C7) "__setattr__" = some (some (.builtin "object.__setattr__")))
    (na7_7 : PySem.W.findIn K (.ref C7) "rules" = some none)
    (na7_8 : PySem.W.findIn K (.ref C7) "melts" = some none)
    (na7_9 : PySem.W.findIn K (.ref C7) "kinds" = some none)
    (na8_10 : PySem.W.findIn K (.ref C8) "title" = some none)
    (pg8 : PySem.W.plainGet K C8 Str.empty = true)
    (hd8 : PySem.W.hasDictIn K C8 = true)
    (po8 : PySem.W.plainOver K C8 = true)
    (sa8 : PySem.W.findIn K (.ref C8) "__setattr__" = some (some (.builtin "object.__setattr__")))
    (na8_11 : PySem.W.findIn K (.ref C8) "ending" = some none)
    (na8_12 : PySem.W.findIn K (.ref C8) "turns" = some none)
    (na6_0 : PySem.W.findIn K (.ref C6) "first" = some none)
    (pg6 : PySem.W.plainGet K C6 Str.empty = true)
    (hd6 : PySem.W.hasDictIn K C6 = true)
    (po6 : PySem.W.plainOver K C6 = true)
    (sa6 : PySem.W.findIn K (.ref C6) "__setattr__" = some (some (.builtin "object.__setattr__")))
    (na6_1 : PySem.W.findIn K (.ref C6) "last" = some none)
    (na6_2 : PySem.W.findIn K (.ref C6) "pieces" = some none)
    (na6_3 : PySem.W.findIn K (.ref C6) "low" = some none)
    (na6_4 : PySem.W.findIn K (.ref C6) "base" = some none)
    (na6_5 : PySem.W.findIn K (.ref C6) "high" = some none)
    (kc8 : PySem.W.isClsIn K C8 = true)
    (rt8 : PySem.W.typeIn K (.ref C8) = some (.type "type"))
    (kt0 : PySem.W.subIn K (.ref C8) (.ref C8) = some true)
    (hn : PySem.W.specialIn K (.builtin "object.__class__") "__get__" = some (some (.builtin "getset_descriptor.__get__")))
    (ht : PySem.W.takesIn K (.builtin "object.__class__") = some true)
    (ha8 : PySem.W.findIn K (.ref C8) "__class__" = some (some (.builtin "object.__class__")))
    (hm8 : PySem.W.mroIn K C8 (.type "object") = some true)
    (kc6 : PySem.W.isClsIn K C6 = true)
    (rt6 : PySem.W.typeIn K (.ref C6) = some (.type "type"))
    (kt1 : PySem.W.subIn K (.ref C6) (.ref C6) = some true)
    (ha6 : PySem.W.findIn K (.ref C6) "__class__" = some (some (.builtin "object.__class__")))
    (hm6 : PySem.W.mroIn K C6 (.type "object") = some true)
    (kc7 : PySem.W.isClsIn K C7 = true)
    (rt7 : PySem.W.typeIn K (.ref C7) = some (.type "type"))
    (kt2 : PySem.W.subIn K (.ref C7) (.ref C7) = some true)
    (ha7 : PySem.W.findIn K (.ref C7) "__class__" = some (some (.builtin "object.__class__")))
    (hm7 : PySem.W.mroIn K C7 (.type "object") = some true)
    (rx1 : PySem.W.excIn K C1 [.type "ValueError", .type "Exception", .type "BaseException", .type "object"] "ValueError.__new__" = true)
    (rk1 : PySem.W.keepIn K (.ref C1) = true)
    (xs1 : PySem.W.subIn K (.ref C1) (.type "BaseException") = some true)
    (rt1 : PySem.W.typeIn K (.ref C1) = some (.type "type"))
    (rx2 : PySem.W.excIn K C2 [.type "ValueError", .type "Exception", .type "BaseException", .type "object"] "ValueError.__new__" = true)
    (rk2 : PySem.W.keepIn K (.ref C2) = true)
    (xs2 : PySem.W.subIn K (.ref C2) (.type "BaseException") = some true)
    (rt2 : PySem.W.typeIn K (.ref C2) = some (.type "type"))
    (rx3 : PySem.W.excIn K C3 [.type "ValueError", .type "Exception", .type "BaseException", .type "object"] "ValueError.__new__" = true)
    (rk3 : PySem.W.keepIn K (.ref C3) = true)
    (xs3 : PySem.W.subIn K (.ref C3) (.type "BaseException") = some true)
    (rt3 : PySem.W.typeIn K (.ref C3) = some (.type "type"))
    (rx4 : PySem.W.excIn K C4 [.type "ValueError", .type "Exception", .type "BaseException", .type "object"] "ValueError.__new__" = true)
    (rk4 : PySem.W.keepIn K (.ref C4) = true)
    (xs4 : PySem.W.subIn K (.ref C4) (.type "BaseException") = some true)
    (rt4 : PySem.W.typeIn K (.ref C4) = some (.type "type"))
    (rx5 : PySem.W.excIn K C5 [.type "ValueError", .type "Exception", .type "BaseException", .type "object"] "ValueError.__new__" = true)
    (rk5 : PySem.W.keepIn K (.ref C5) = true)
    (xs5 : PySem.W.subIn K (.ref C5) (.type "BaseException") = some true)
    (rt5 : PySem.W.typeIn K (.ref C5) = some (.type "type"))
    : ∃ fd : FuncData, (∀ (s : Shared) (v : Value), BindsTo s fd ⟨[v], []⟩ [("_law_script", v)]) ∧ ∀ base : Heap, K.In base → base.Ns mainGlobals mg → FnOk l.prog w K mg base (L2.CX l.prog w) 80 fa fd ["_law_script"] (spL G fs 40 25 (fnF fldN) K) := by
  have e := hfa.symm.trans (PySem.W.mg_of X G0 a25)
  cases e
  obtain ⟨F0, B0, A0, U0⟩ := fna_mk (g := G) (fs := fs) (f := 0) (fd := ⟨N0, 1, b_is_word, c0⟩) (ps := ["text"]) rfl l0 d0 k0 py0 sc0 fs0 rfl wf0 fun _ _ _ _ _ _ us hl => match us, hl with | [_], _ => rfl
  obtain ⟨F1, B1, A1, U1⟩ := fna_mk (g := G) (fs := fs) (f := 1) (fd := ⟨N1, 1, b_ties_stand, c1⟩) (ps := ["items"]) rfl l1 d1 k1 py1 sc1 fs1 rfl wf1 fun _ _ _ _ _ _ us hl => match us, hl with | [_], _ => rfl
  obtain ⟨F2, B2, A2, U2⟩ := fna_mk (g := G) (fs := fs) (f := 2) (fd := ⟨N2, 1, b_items_fit, c2⟩) (ps := ["items"]) rfl l2 d2 k2 py2 sc2 fs2 rfl wf2 fun _ _ _ _ _ _ us hl => match us, hl with | [_], _ => rfl
  obtain ⟨F3, B3, A3, U3⟩ := fna_mk (g := G) (fs := fs) (f := 3) (fd := ⟨N3, 1, b_rule_tells, c3⟩) (ps := ["rule"]) rfl l3 d3 k3 py3 sc3 fs3 rfl wf3 fun _ _ _ _ _ _ us hl => match us, hl with | [_], _ => rfl
  obtain ⟨F4, B4, A4, U4⟩ := fna_mk (g := G) (fs := fs) (f := 4) (fd := ⟨N4, 1, b_is_melt, c4⟩) (ps := ["melt"]) rfl l4 d4 k4 py4 sc4 fs4 rfl wf4 fun _ _ _ _ _ _ us hl => match us, hl with | [_], _ => rfl
  obtain ⟨F5, B5, A5, U5⟩ := fna_mk (g := G) (fs := fs) (f := 5) (fd := ⟨N5, 1, b_is_title, c5⟩) (ps := ["text"]) rfl l5 d5 k5 py5 sc5 fs5 rfl wf5 fun _ _ _ _ _ _ us hl => match us, hl with | [_], _ => rfl
  obtain ⟨F6, B6, A6, U6⟩ := fna_mk (g := G) (fs := fs) (f := 6) (fd := ⟨N6, 1, b_are_turns, c6⟩) (ps := ["turns"]) rfl l6 d6 k6 py6 sc6 fs6 rfl wf6 fun _ _ _ _ _ _ us hl => match us, hl with | [_], _ => rfl
  obtain ⟨F7, B7, A7, U7⟩ := fna_mk (g := G) (fs := fs) (f := 7) (fd := ⟨N7, 1, b_rule_row, c7⟩) (ps := ["rule"]) rfl l7 d7 k7 py7 sc7 fs7 rfl wf7 fun _ _ _ _ _ _ us hl => match us, hl with | [_], _ => rfl
  obtain ⟨F8, B8, A8, U8⟩ := fna_mk (g := G) (fs := fs) (f := 8) (fd := ⟨N8, 1, b_tongue_text, c8⟩) (ps := ["tongue"]) rfl l8 d8 k8 py8 sc8 fs8 rfl wf8 fun _ _ _ _ _ _ us hl => match us, hl with | [_], _ => rfl
  obtain ⟨F9, B9, A9, U9⟩ := fna_mk (g := G) (fs := fs) (f := 9) (fd := ⟨N9, 1, b_l_begin, c9⟩) (ps := ["_law_script"]) rfl l9 d9 k9 py9 sc9 fs9 rfl wf9 fun _ _ _ _ _ _ us hl => match us, hl with | [_], _ => rfl
  obtain ⟨F10, B10, A10, U10⟩ := fna_mk (g := G) (fs := fs) (f := 10) (fd := ⟨N10, 2, b_l_next, c10⟩) (ps := ["_law_script", "_law_at"]) rfl l10 d10 k10 py10 sc10 fs10 rfl wf10 fun _ _ _ _ _ _ us hl => match us, hl with | [_, _], _ => rfl
  obtain ⟨F11, B11, A11, U11⟩ := fna_mk (g := G) (fs := fs) (f := 11) (fd := ⟨N11, 3, b_l_words, c11⟩) (ps := ["_law_script", "_law_at", "_law_many"]) rfl l11 d11 k11 py11 sc11 fs11 rfl wf11 fun _ _ _ _ _ _ us hl => match us, hl with | [_, _, _], _ => rfl
  obtain ⟨F12, B12, A12, U12⟩ := fna_mk (g := G) (fs := fs) (f := 12) (fd := ⟨N12, 3, b_l_melt, c12⟩) (ps := ["_law_script", "_law_at", "_law_words_here"]) rfl l12 d12 k12 py12 sc12 fs12 rfl wf12 fun _ _ _ _ _ _ us hl => match us, hl with | [_, _, _], _ => rfl
  obtain ⟨F13, B13, A13, U13⟩ := fna_mk (g := G) (fs := fs) (f := 13) (fd := ⟨N13, 4, b_l_melts, c13⟩) (ps := ["_law_script", "_law_at", "_law_words_here", "_law_most"]) rfl l13 d13 k13 py13 sc13 fs13 rfl wf13 fun _ _ _ _ _ _ us hl => match us, hl with | [_, _, _, _], _ => rfl
  obtain ⟨F14, B14, A14, U14⟩ := fna_mk (g := G) (fs := fs) (f := 14) (fd := ⟨N14, 2, b_l_great, c14⟩) (ps := ["_law_script", "_law_at"]) rfl l14 d14 k14 py14 sc14 fs14 rfl wf14 fun _ _ _ _ _ _ us hl => match us, hl with | [_, _], _ => rfl
  obtain ⟨F15, B15, A15, U15⟩ := fna_mk (g := G) (fs := fs) (f := 15) (fd := ⟨N15, 4, b_l_items, c15⟩) (ps := ["_law_script", "_law_at", "_law_words_here", "_law_signs"]) rfl l15 d15 k15 py15 sc15 fs15 rfl wf15 fun _ _ _ _ _ _ us hl => match us, hl with | [_, _, _, _], _ => rfl
  obtain ⟨F16, B16, A16, U16⟩ := fna_mk (g := G) (fs := fs) (f := 16) (fd := ⟨N16, 4, b_l_rule, c16⟩) (ps := ["_law_script", "_law_at", "_law_words_here", "_law_small"]) rfl l16 d16 k16 py16 sc16 fs16 rfl wf16 fun _ _ _ _ _ _ us hl => match us, hl with | [_, _, _, _], _ => rfl
  obtain ⟨F17, B17, A17, U17⟩ := fna_mk (g := G) (fs := fs) (f := 17) (fd := ⟨N17, 4, b_l_kind, c17⟩) (ps := ["_law_script", "_law_at", "_law_words_here", "_law_k"]) rfl l17 d17 k17 py17 sc17 fs17 rfl wf17 fun _ _ _ _ _ _ us hl => match us, hl with | [_, _, _, _], _ => rfl
  obtain ⟨F18, B18, A18, U18⟩ := fna_mk (g := G) (fs := fs) (f := 18) (fd := ⟨N18, 2, b_l_data, c18⟩) (ps := ["_law_script", "_law_at"]) rfl l18 d18 k18 py18 sc18 fs18 rfl wf18 fun _ _ _ _ _ _ us hl => match us, hl with | [_, _], _ => rfl
  obtain ⟨F19, B19, A19, U19⟩ := fna_mk (g := G) (fs := fs) (f := 19) (fd := ⟨N19, 1, b_l_tongue, c19⟩) (ps := ["_law_data_here"]) rfl l19 d19 k19 py19 sc19 fs19 rfl wf19 fun _ _ _ _ _ _ us hl => match us, hl with | [_], _ => rfl
  obtain ⟨F20, B20, A20, U20⟩ := fna_mk (g := G) (fs := fs) (f := 20) (fd := ⟨N20, 1, b_l_rule_row, c20⟩) (ps := ["_law_rule_here"]) rfl l20 d20 k20 py20 sc20 fs20 rfl wf20 fun _ _ _ _ _ _ us hl => match us, hl with | [_], _ => rfl
  obtain ⟨F21, B21, A21, U21⟩ := fna_mk (g := G) (fs := fs) (f := 21) (fd := ⟨N21, 1, b_l_rows, c21⟩) (ps := ["_law_data_here"]) rfl l21 d21 k21 py21 sc21 fs21 rfl wf21 fun _ _ _ _ _ _ us hl => match us, hl with | [_], _ => rfl
  obtain ⟨F22, B22, A22, U22⟩ := fna_mk (g := G) (fs := fs) (f := 22) (fd := ⟨N22, 1, b_l_whole, c22⟩) (ps := ["_law_found"]) rfl l22 d22 k22 py22 sc22 fs22 rfl wf22 fun _ _ _ _ _ _ us hl => match us, hl with | [_], _ => rfl
  obtain ⟨F23, B23, A23, U23⟩ := fna_mk (g := G) (fs := fs) (f := 23) (fd := ⟨N23, 2, b_l_is_rule, c23⟩) (ps := ["_law_rule_here", "_law_due"]) rfl l23 d23 k23 py23 sc23 fs23 rfl wf23 fun _ _ _ _ _ _ us hl => match us, hl with | [_, _], _ => rfl
  obtain ⟨F24, B24, A24, U24⟩ := fna_mk (g := G) (fs := fs) (f := 24) (fd := ⟨N24, 2, b_l_is_tongue, c24⟩) (ps := ["_law_tongue_here", "_law_data_here"]) rfl l24 d24 k24 py24 sc24 fs24 rfl wf24 fun _ _ _ _ _ _ us hl => match us, hl with | [_, _], _ => rfl
  obtain ⟨F25, B25, A25, U25⟩ := fna_mk (g := G) (fs := fs) (f := 25) (fd := ⟨N25, 1, b_law, c25⟩) (ps := ["_law_script"]) rfl l25 d25 k25 py25 sc25 fs25 rfl wf25 fun _ _ _ _ _ _ us hl => match us, hl with | [_], _ => rfl
  obtain ⟨F26, B26, A26, U26⟩ := fna_mk (g := G) (fs := fs) (f := 26) (fd := ⟨N26, 7, b_Rule_init, c26⟩) (ps := ["self", "low", "high", "base", "first", "last", "pieces"]) rfl l26 d26 k26 py26 sc26 fs26 rfl wf26 fun _ _ _ _ _ _ us hl => match us, hl with | [_, _, _, _, _, _, _], _ => rfl
  obtain ⟨F27, A27, U27⟩ := fnd_mk (g := G) (fs := fs) (f := 27) (m := 2) (fd := ⟨N27, 5, b_Tongue_init, c27⟩) (ps := ["self", "bound", "rules", "melts", "kinds"]) (by decide) rfl l27 lt27 ut27 d27 k27 py27 sc27 fs27 rfl wf27
  have B27_0 := fnd_binds (n := 5) (nd := 0) (ps := ["self", "bound", "rules", "melts", "kinds"]) U27 (by decide) (by decide) rfl fun _ _ _ _ _ _ _ us its h1 h2 => match us, its, h1, h2 with | [_, _, _, _, _], [_, _], _, _ => ⟨_, rfl, rfl⟩
  obtain ⟨F28, B28, A28, U28⟩ := fna_mk (g := G) (fs := fs) (f := 28) (fd := ⟨N28, 4, b_Kind_init, c28⟩) (ps := ["self", "title", "ending", "turns"]) rfl l28 d28 k28 py28 sc28 fs28 rfl wf28 fun _ _ _ _ _ _ us hl => match us, hl with | [_, _, _, _], _ => rfl
  have M : MOk G ⟨fun c => ([C0, C1, C2, C3, C4, C5, C6, C7, C8] : List Addr).getD c 0, fnF fldN, fld_inj⟩ fs K mg := {
    bi := (show ∀ x ∈ (["all", "any", "bool", "int", "isinstance", "len", "list", "max", "min", "range", "set", "str"] : List Str), mg x = none from (List.forall_mem_cons.mpr ⟨(PySem.W.mg_none_of X G0 z0), (List.forall_mem_cons.mpr ⟨(PySem.W.mg_none_of X G0 z1), (List.forall_mem_cons.mpr ⟨(PySem.W.mg_none_of X G0 z2), (List.forall_mem_cons.mpr ⟨(PySem.W.mg_none_of X G0 z3), (List.forall_mem_cons.mpr ⟨(PySem.W.mg_none_of X G0 z4), (List.forall_mem_cons.mpr ⟨(PySem.W.mg_none_of X G0 z5), (List.forall_mem_cons.mpr ⟨(PySem.W.mg_none_of X G0 z6), (List.forall_mem_cons.mpr ⟨(PySem.W.mg_none_of X G0 z7), (List.forall_mem_cons.mpr ⟨(PySem.W.mg_none_of X G0 z8), (List.forall_mem_cons.mpr ⟨(PySem.W.mg_none_of X G0 z9), (List.forall_mem_cons.mpr ⟨(PySem.W.mg_none_of X G0 z10), (List.forall_mem_cons.mpr ⟨(PySem.W.mg_none_of X G0 z11), (fun _ h => nomatch h)⟩)⟩)⟩)⟩)⟩)⟩)⟩)⟩)⟩)⟩)⟩)⟩))
    cst := fun i x d e => at_zip (P := fun q _ => ∃ v u, mg q.1 = some u ∧ RelV v u ∧ ∀ H, Den K _ H v q.2) (l := G.cst) (List.forall_mem_cons.mpr ⟨⟨.str "abcdefghijklmnopqrstuvwxyz", _, PySem.W.mg_of X G0 q0, ⟨_, rfl⟩, fun _ => .str _⟩, (List.forall_mem_cons.mpr ⟨⟨.str "+", _, PySem.W.mg_of X G0 q1, ⟨_, rfl⟩, fun _ => .str _⟩, (List.forall_mem_cons.mpr ⟨⟨.int 8, _, PySem.W.mg_of X G0 q2, ⟨_, rfl⟩, fun _ => .int _⟩, (List.forall_mem_cons.mpr ⟨⟨.ref r3, _, PySem.W.mg_of X G0 q3, rfl, den_rt u3 w3 y3 fun _ => (.cons (.str _) (.cons (.str _) (.cons (.str _) (.cons (.str _) (.cons (.str _) (.cons (.str _) .nil))))))⟩, (List.forall_mem_cons.mpr ⟨⟨.str "abcdefghijklmnopqrstuvwxyz", _, PySem.W.mg_of X G0 q4, ⟨_, rfl⟩, fun _ => .str _⟩, (fun _ h => nomatch h)⟩)⟩)⟩)⟩)⟩) i (x, d) e
    fn := at_zip (l := G.fnm) (List.forall_mem_cons.mpr ⟨(fun _ => ⟨f0, F0, ["text"], PySem.W.mg_of X G0 a0, k0, B0, A0⟩), (List.forall_mem_cons.mpr ⟨(fun _ => ⟨f1, F1, ["items"], PySem.W.mg_of X G0 a1, k1, B1, A1⟩), (List.forall_mem_cons.mpr ⟨(fun _ => ⟨f2, F2, ["items"], PySem.W.mg_of X G0 a2, k2, B2, A2⟩), (List.forall_mem_cons.mpr ⟨(fun _ => ⟨f3, F3, ["rule"], PySem.W.mg_of X G0 a3, k3, B3, A3⟩), (List.forall_mem_cons.mpr ⟨(fun _ => ⟨f4, F4, ["melt"], PySem.W.mg_of X G0 a4, k4, B4, A4⟩), (List.forall_mem_cons.mpr ⟨(fun _ => ⟨f5, F5, ["text"], PySem.W.mg_of X G0 a5, k5, B5, A5⟩), (List.forall_mem_cons.mpr ⟨(fun _ => ⟨f6, F6, ["turns"], PySem.W.mg_of X G0 a6, k6, B6, A6⟩), (List.forall_mem_cons.mpr ⟨(fun _ => ⟨f7, F7, ["rule"], PySem.W.mg_of X G0 a7, k7, B7, A7⟩), (List.forall_mem_cons.mpr ⟨(fun _ => ⟨f8, F8, ["tongue"], PySem.W.mg_of X G0 a8, k8, B8, A8⟩), (List.forall_mem_cons.mpr ⟨(fun _ => ⟨f9, F9, ["_law_script"], PySem.W.mg_of X G0 a9, k9, B9, A9⟩), (List.forall_mem_cons.mpr ⟨(fun _ => ⟨f10, F10, ["_law_script", "_law_at"], PySem.W.mg_of X G0 a10, k10, B10, A10⟩), (List.forall_mem_cons.mpr ⟨(fun _ => ⟨f11, F11, ["_law_script", "_law_at", "_law_many"], PySem.W.mg_of X G0 a11, k11, B11, A11⟩), (List.forall_mem_cons.mpr ⟨(fun _ => ⟨f12, F12, ["_law_script", "_law_at", "_law_words_here"], PySem.W.mg_of X G0 a12, k12, B12, A12⟩), (List.forall_mem_cons.mpr ⟨(fun _ => ⟨f13, F13, ["_law_script", "_law_at", "_law_words_here", "_law_most"], PySem.W.mg_of X G0 a13, k13, B13, A13⟩), (List.forall_mem_cons.mpr ⟨(fun _ => ⟨f14, F14, ["_law_script", "_law_at"], PySem.W.mg_of X G0 a14, k14, B14, A14⟩), (List.forall_mem_cons.mpr ⟨(fun _ => ⟨f15, F15, ["_law_script", "_law_at", "_law_words_here", "_law_signs"], PySem.W.mg_of X G0 a15, k15, B15, A15⟩), (List.forall_mem_cons.mpr ⟨(fun _ => ⟨f16, F16, ["_law_script", "_law_at", "_law_words_here", "_law_small"], PySem.W.mg_of X G0 a16, k16, B16, A16⟩), (List.forall_mem_cons.mpr ⟨(fun _ => ⟨f17, F17, ["_law_script", "_law_at", "_law_words_here", "_law_k"], PySem.W.mg_of X G0 a17, k17, B17, A17⟩), (List.forall_mem_cons.mpr ⟨(fun _ => ⟨f18, F18, ["_law_script", "_law_at"], PySem.W.mg_of X G0 a18, k18, B18, A18⟩), (List.forall_mem_cons.mpr ⟨(fun _ => ⟨f19, F19, ["_law_data_here"], PySem.W.mg_of X G0 a19, k19, B19, A19⟩), (List.forall_mem_cons.mpr ⟨(fun _ => ⟨f20, F20, ["_law_rule_here"], PySem.W.mg_of X G0 a20, k20, B20, A20⟩), (List.forall_mem_cons.mpr ⟨(fun _ => ⟨f21, F21, ["_law_data_here"], PySem.W.mg_of X G0 a21, k21, B21, A21⟩), (List.forall_mem_cons.mpr ⟨(fun _ => ⟨f22, F22, ["_law_found"], PySem.W.mg_of X G0 a22, k22, B22, A22⟩), (List.forall_mem_cons.mpr ⟨(fun _ => ⟨f23, F23, ["_law_rule_here", "_law_due"], PySem.W.mg_of X G0 a23, k23, B23, A23⟩), (List.forall_mem_cons.mpr ⟨(fun _ => ⟨f24, F24, ["_law_tongue_here", "_law_data_here"], PySem.W.mg_of X G0 a24, k24, B24, A24⟩), (List.forall_mem_cons.mpr ⟨(fun _ => ⟨fa, F25, ["_law_script"], PySem.W.mg_of X G0 a25, k25, B25, A25⟩), (List.forall_mem_cons.mpr ⟨(fun h => absurd rfl h), (List.forall_mem_cons.mpr ⟨(fun h => absurd rfl h), (List.forall_mem_cons.mpr ⟨(fun h => absurd rfl h), (fun _ h => nomatch h)⟩)⟩)⟩)⟩)⟩)⟩)⟩)⟩)⟩)⟩)⟩)⟩)⟩)⟩)⟩)⟩)⟩)⟩)⟩)⟩)⟩)⟩)⟩)⟩)⟩)⟩)⟩)⟩)⟩)
    mkc := fun c nd hm => ((List.forall_mem_cons.mpr ⟨⟨"Rule", f26, F26, ["self", "low", "high", "base", "first", "last", "pieces"], rfl, PySem.W.mg_of X G0 e6, ⟨mk6, mi6, mf6, mp6⟩, B26, A26⟩, (List.forall_mem_cons.mpr ⟨⟨"Tongue", f27, F27, ["self", "bound", "rules", "melts", "kinds"], rfl, PySem.W.mg_of X G0 e7, ⟨mk7, mi7, mf7, mp7⟩, B27_0, A27⟩, (List.forall_mem_cons.mpr ⟨⟨"Kind", f28, F28, ["self", "title", "ending", "turns"], rfl, PySem.W.mg_of X G0 e8, ⟨mk8, mi8, mf8, mp8⟩, B28, A28⟩, (fun _ h => nomatch h)⟩)⟩)⟩) : ∀ q ∈ G.mkn, ∃ x fI fd ps, G.cnm[q.1]? = some x ∧ mg x = some (.ref (([C0, C1, C2, C3, C4, C5, C6, C7, C8] : List Addr).getD q.1 0)) ∧ Mk K (([C0, C1, C2, C3, C4, C5, C6, C7, C8] : List Addr).getD q.1 0) fI ∧ Binds K fd ps (List.replicate q.2 Value.none) ∧ FnA K G fs ((G.ini[q.1]?).getD 0) fI fd ps) (c, nd) hm
    fld := fun i x e => by show (fldN[i]?).getD _ = x; rw [show fldN[i]? = some x from e]; rfl
    na := fun c f hm => ((List.forall_mem_cons.mpr ⟨⟨⟨pg7, hd7, po7, sa7⟩, na7_6⟩, (List.forall_mem_cons.mpr ⟨⟨⟨pg7, hd7, po7, sa7⟩, na7_7⟩, (List.forall_mem_cons.mpr ⟨⟨⟨pg7, hd7, po7, sa7⟩, na7_8⟩, (List.forall_mem_cons.mpr ⟨⟨⟨pg7, hd7, po7, sa7⟩, na7_9⟩, (List.forall_mem_cons.mpr ⟨⟨⟨pg8, hd8, po8, sa8⟩, na8_10⟩, (List.forall_mem_cons.mpr ⟨⟨⟨pg8, hd8, po8, sa8⟩, na8_11⟩, (List.forall_mem_cons.mpr ⟨⟨⟨pg8, hd8, po8, sa8⟩, na8_12⟩, (List.forall_mem_cons.mpr ⟨⟨⟨pg6, hd6, po6, sa6⟩, na6_0⟩, (List.forall_mem_cons.mpr ⟨⟨⟨pg6, hd6, po6, sa6⟩, na6_1⟩, (List.forall_mem_cons.mpr ⟨⟨⟨pg6, hd6, po6, sa6⟩, na6_2⟩, (List.forall_mem_cons.mpr ⟨⟨⟨pg6, hd6, po6, sa6⟩, na6_3⟩, (List.forall_mem_cons.mpr ⟨⟨⟨pg6, hd6, po6, sa6⟩, na6_4⟩, (List.forall_mem_cons.mpr ⟨⟨⟨pg6, hd6, po6, sa6⟩, na6_5⟩, (fun _ h => nomatch h)⟩)⟩)⟩)⟩)⟩)⟩)⟩)⟩)⟩)⟩)⟩)⟩)⟩) : ∀ q ∈ G.na, Cls K (([C0, C1, C2, C3, C4, C5, C6, C7, C8] : List Addr).getD q.1 0) ∧ NoAttr K (([C0, C1, C2, C3, C4, C5, C6, C7, C8] : List Addr).getD q.1 0) (fnF fldN q.2)) (c, f) hm
    cn := at_zip (l := G.cnm) (List.forall_mem_cons.mpr ⟨(PySem.W.mg_of X G0 e0), (List.forall_mem_cons.mpr ⟨(PySem.W.mg_of X G0 e1), (List.forall_mem_cons.mpr ⟨(PySem.W.mg_of X G0 e2), (List.forall_mem_cons.mpr ⟨(PySem.W.mg_of X G0 e3), (List.forall_mem_cons.mpr ⟨(PySem.W.mg_of X G0 e4), (List.forall_mem_cons.mpr ⟨(PySem.W.mg_of X G0 e5), (List.forall_mem_cons.mpr ⟨(PySem.W.mg_of X G0 e6), (List.forall_mem_cons.mpr ⟨(PySem.W.mg_of X G0 e7), (List.forall_mem_cons.mpr ⟨(PySem.W.mg_of X G0 e8), (fun _ h => nomatch h)⟩)⟩)⟩)⟩)⟩)⟩)⟩)⟩)⟩)
    kit := fun t c b e => ((List.forall_mem_cons.mpr ⟨(kit_own kc8 rt8 kt0 (fun z => nomatch z)), (List.forall_mem_cons.mpr ⟨(kit_own kc6 rt6 kt1 (fun z => nomatch z)), (List.forall_mem_cons.mpr ⟨(kit_own kc7 rt7 kt2 (fun z => nomatch z)), (List.forall_mem_cons.mpr ⟨(kit_ty (by kernel_rfl)), (List.forall_mem_cons.mpr ⟨(kit_ty (by kernel_rfl)), (List.forall_mem_cons.mpr ⟨(kit_ty (by kernel_rfl)), (List.forall_mem_cons.mpr ⟨(kit_ty (by kernel_rfl)), (fun _ h => nomatch h)⟩)⟩)⟩)⟩)⟩)⟩)⟩) : ∀ q ∈ kitT, PySem.W.kitOne K (tyV ⟨fun c => ([C0, C1, C2, C3, C4, C5, C6, C7, C8] : List Addr).getD c 0, fnF fldN, fld_inj⟩ q.1.1) (clV ⟨fun c => ([C0, C1, C2, C3, C4, C5, C6, C7, C8] : List Addr).getD c 0, fnF fldN, fld_inj⟩ q.1.2) = some q.2) ((t, c), b) (lookup_mem' (l := kitT) e)
    ins := fun c u b e => ((List.forall_mem_cons.mpr ⟨(⟨⟨pg8, hd8, po8, sa8⟩, ha8, hn, ht, hm8⟩ : InsOk K C8), (List.forall_mem_cons.mpr ⟨(⟨⟨pg6, hd6, po6, sa6⟩, ha6, hn, ht, hm6⟩ : InsOk K C6), (List.forall_mem_cons.mpr ⟨(⟨⟨pg7, hd7, po7, sa7⟩, ha7, hn, ht, hm7⟩ : InsOk K C7), (List.forall_mem_cons.mpr ⟨trivial, (List.forall_mem_cons.mpr ⟨trivial, (List.forall_mem_cons.mpr ⟨trivial, (List.forall_mem_cons.mpr ⟨trivial, (fun _ h => nomatch h)⟩)⟩)⟩)⟩)⟩)⟩)⟩) : ∀ q ∈ kitT, match q.1.1 with | .own c => InsOk K (([C0, C1, C2, C3, C4, C5, C6, C7, C8] : List Addr).getD c 0) | .exc c => ExcK K (([C0, C1, C2, C3, C4, C5, C6, C7, C8] : List Addr).getD c 0) | _ => True) ((.own c, u), b) (lookup_mem' (l := kitT) e)
    exc := fun c u b e => ((List.forall_mem_cons.mpr ⟨(⟨⟨pg8, hd8, po8, sa8⟩, ha8, hn, ht, hm8⟩ : InsOk K C8), (List.forall_mem_cons.mpr ⟨(⟨⟨pg6, hd6, po6, sa6⟩, ha6, hn, ht, hm6⟩ : InsOk K C6), (List.forall_mem_cons.mpr ⟨(⟨⟨pg7, hd7, po7, sa7⟩, ha7, hn, ht, hm7⟩ : InsOk K C7), (List.forall_mem_cons.mpr ⟨trivial, (List.forall_mem_cons.mpr ⟨trivial, (List.forall_mem_cons.mpr ⟨trivial, (List.forall_mem_cons.mpr ⟨trivial, (fun _ h => nomatch h)⟩)⟩)⟩)⟩)⟩)⟩)⟩) : ∀ q ∈ kitT, match q.1.1 with | .own c => InsOk K (([C0, C1, C2, C3, C4, C5, C6, C7, C8] : List Addr).getD c 0) | .exc c => ExcK K (([C0, C1, C2, C3, C4, C5, C6, C7, C8] : List Addr).getD c 0) | _ => True) ((.exc c, u), b) (lookup_mem' (l := kitT) e)
    hit := fun c d b e => ((fun _ h => nomatch h) : ∀ q ∈ hitT, PySem.W.exmOne K (.ref (([C0, C1, C2, C3, C4, C5, C6, C7, C8] : List Addr).getD q.1.1 0)) (.ref (([C0, C1, C2, C3, C4, C5, C6, C7, C8] : List Addr).getD q.1.2 0)) = some q.2) ((c, d), b) (lookup_mem' (l := hitT) e)
    rai := (List.forall_mem_cons.mpr ⟨⟨_, _, _, _, PySem.F.excBase_ValueError, rx1, rk1, xs1, rt1⟩, (List.forall_mem_cons.mpr ⟨⟨_, _, _, _, PySem.F.excBase_ValueError, rx2, rk2, xs2, rt2⟩, (List.forall_mem_cons.mpr ⟨⟨_, _, _, _, PySem.F.excBase_ValueError, rx3, rk3, xs3, rt3⟩, (List.forall_mem_cons.mpr ⟨⟨_, _, _, _, PySem.F.excBase_ValueError, rx4, rk4, xs4, rt4⟩, (List.forall_mem_cons.mpr ⟨⟨_, _, _, _, PySem.F.excBase_ValueError, rx5, rk5, xs5, rt5⟩, (fun _ h => nomatch h)⟩)⟩)⟩)⟩)⟩) }
  exact ⟨F25, law_binds U25 (fun _ _ _ _ _ _ _ => rfl), fun base _ _ => law_ok (n := 40) M A25⟩
theorem walk {l : PySem.W.OpenLaw} {qq : Program} {loose : List Str} {XP : (Str → Option Value) → Heap → Prop} {YP : World → Heap → Prop} {d : DefRec} {K : Params → PySem.W.Frag} (hn : l.most = some 63) (hdf : d.params.defaults = [])
    (hlaw : ∀ ns : List Int, ns.length ≤ 63 → ∃ S, Tn G fs 40 25 [.t (.ro (ns.map .int))] [] = .ok (.t (.bl true)) S)
    (hY : ∀ (w : World) (h : Heap), YP w h → (K w.params).In h)
    (F : ∀ (w : World) (mg : Str → Option Value) (fa : Addr) (h : Heap), (K w.params).In h → h.Ns mainGlobals mg → mg d.name = some (.ref fa) →
      ∃ fd : FuncData, (∀ (s : Shared) (u : Value), BindsTo s fd ⟨[u], []⟩ [("_law_script", u)]) ∧ ∀ base : Heap, (K w.params).In base → base.Ns mainGlobals mg → FnOk l.prog w (K w.params) mg base (L2.CX l.prog w) 80 fa fd ["_law_script"] (spL G fs 40 25 (fnF fldN) (K w.params))) :
    PySem.W.WalkO qq loose XP YP l.row.toRowW d [] (fun f vs => PySem.call f vs) :=
  L2.walk_of (n := 63) (k := 80) (x := "_law_script") (CX := fun w => L2.CX l.prog w) (sp := fun w => spL G fs 40 25 (fnF fldN) (K w.params)) hn (by decide) hdf ⟨rfl, by decide, by decide⟩ hY F (fun w H a ns hl ho hS => spL_of hlaw (K w.params) H a ns hl ho hS) fun _ H s e s' z => cx_none H s e s' z
end K32

namespace K32
open PySem PySem.Spec PyProof.Rows L2 Rf
local macro_rules
  | `(tactic| push_cast) => `(tactic| simp (decide := true) only [↓ev_var, ↓ev_int, ↓ev_str, ↓ev_bl, ↓ev_non, ↓ev_bin, ↓ev_neg, ↓ev_cmp, ↓ev_ch2, ↓ev_ch3, ↓ev_bop, ↓bop_one, ↓bop_and, ↓bop_or, ↓ev_not, ↓ev_ife, ↓ev_lst, ↓ev_tup, ↓ev_dct0, ↓ev_call, ↓ev_mk, ↓ev_bfn, ↓ev_mth, ↓ev_ix, ↓ev_sl, ↓ev_fld2, ↓ev_isi, ↓ev_isis, ↓ev_cmpr, ↓ev_orl, or_non, or_nil, or_cons, ↓ev_lens, lens_nil, ↓ev_fmt, ↓ev_fstr, ↓ev_popx, ↓js_nil, ↓js_cons, ↓ev_new, ↓ev_frz, ↓es_nil, ↓es_cons, ↓all_nil, ↓all_cons, ↓eo_no, ↓eo_so, ↓sr_seq, ↓sr_rng, ↓sr_enum, ↓sr_zip, ↓sr_rev, ↓ss_nil, ↓ss_cons, ↓ss_frz, ↓st_set, ↓st_unp, ↓st_aug, ↓st_expr, ↓st_doc, ↓st_ret, ↓st_retN, ↓st_ite, ↓st_for, ↓st_wl, ↓st_brk, ↓st_cont, ↓st_pass, ↓st_rai, ↓st_tri, ↓st_mut, ↓st_smu, ↓st_sfl, ↓st_ist, lk0, lkS, okL_some, bnd_k, bnd_exc, lift_ok, lift_exc, sq_next, sq_ret, sq_brk, sq_cont, sq_exc, rd2_gen, rd1_t, onB_t, onT2_t, onT1_t, onO_some, onO_none, okq_some, rd_t, cmpThen_b, newW_l, newW_d, frzW_t, frzW_l, allR_b, intW_i, seqW_s, seqW_lst, seqW_ro, seqW_tup, seqW_rt, elR_ok, tsR_b, tg_nm, tg_tp, go_nil, go_cons, unp_tup, unp_rt, unp_lst, unp_ro, tgu_tp, flL_t, ct_eq, wipeO_nil, wipeO_cons, List.map_cons, List.map_nil, fldR_ins, lku_hit, lku_miss, put_nil, put_hit, put_miss, sflR_0, mkEnd_ok, mkEnd_exc, ty_non, ty_bl, ty_int, ty_str, ty_lst, ty_tup, ty_dct, ty_ins, ty_exc, kr_t, kr_f, kitsP_nil, kitsP_cons, take_app, take_appk, take_appL, List.take_succ_cons, List.take_zero, List.take_nil, List.take_length_add_append, rep0, rep1, rep2, cq_nil, List.append_nil, seqW_loc, seqO_l, tri_next, tri_ret, tri_brk, tri_cont, tri_exc, frzE_eq, frzR_l, stE_0, stE_S, frzR_t, mutR_l, isLst_l, ma_app, ma_pop, ma_ins, ma_rev, ma_ext, mu_app, mu_ext, mu_pop, mu_rev, istR_l, get_app0, get_appk, get_0, get_S, set_app0, set_appk, rd_loc, tr_lst, tr_ins, tr_dct, ix_nil, ix_cons, ix_map, atI_modI, atI_modS, atI_modL, b2_repL, cutD_eq, cutL_map, cutL_to, Option.getD_some, Nat.reduceEqDiff, inSeq_s, sx_nil, sx_cons, sx_map, sx_app, Option.isSome_some, Option.isSome_map, bls_map, bls_mapf, bx_nil, bx_cons, mty_s, mty_l, mty_ro, xm_strip, xm_countS, mo_joint, mo_stript, mo_startswitht, mo_endswitht, mo_countt, mo_splitt, mo_islowert, mo_countf, xm_sw, xm_ew, m_and, m_or, m_not, m_id, sq_ret_if, sq_exc_if, bf_lenS, bf_str, fmtW_s, fmtW_i, joinQ_s, isLstE_l, isLstO_l, popW_l, popO_l, xi_str, xl_str, Bool.false_eq_true, decide_eq_true_eq, Bool.decide_eq_true, Bool.decide_eq_false, decide_true, decide_false, Bool.true_and, Bool.false_and, Bool.and_true, Bool.and_false, Bool.true_or, Bool.false_or, Bool.or_true, Bool.or_false, lq_next, lq_cont, lq_brk, lq_ret, lq_exc, setE_ok, endF_ret, endF_next, endF_exc, leave_t, leave_0, at_nil, at_cons, rds_nil, rds_cons, Option.bind_some, List.take_length, List.length_cons, List.length_nil, set_c0, set_cS, Nat.reduceAdd, Nat.reduceLT, reduceIte, ↓reduceIte, Option.map_some, Nat.zero_lt_succ, Nat.add_one_pos, Nat.lt_add_left_iff_pos, List.getElem?_cons_zero, List.getElem?_cons_succ, if_true, if_false, Bool.not_true, Bool.not_false, Option.bind_some, b2_add, b2_sub, b2_mul, b2_fdiv, b2_mod, b2_pow, c2_lt, c2_le, c2_gt, c2_ge, c2_eq, c2_ne, eqv_int, eqv_str, eqv_bl, eqv_strs, eqv_strs0, c2_is, c2_isn, non_non, non_int, non_str, non_bl, non_lst, non_tup, non_ins, b2_addS, b2_addL, c2_memL, c2_memRo, c2_memT, c2_memRt, c2_nmemL, c2_nmemRo, c2_nmemT, c2_nmemRt, c2_memS, c2_memD, c2_nmemD, xi_dct, bf_lenL, bf_lenRo, bf_lenT, bf_lenRt, bf_list, bf_listD, bf_divmod, bf_max2, bf_min2, bf_all, bf_any, xl_lst, xl_ro, xi_lst, xi_ro, xi_tup, xi_rt, atI_lit, atI_m1, List.getLast?_concat, it_lst, it_ro, it_tup, it_rt, ls_lst, ls_ro, ist_lit, ist_m1, ↓e_b_is_word, ↓e_ties_stand_I0a, ↓e_ties_stand_I0, ↓e_ties_stand_F0b, ↓e_ties_stand_F0, ↓e_b_ties_stand, ↓e_items_fit_I0a, ↓e_items_fit_I0, ↓e_items_fit_I1a, ↓e_items_fit_I1, ↓e_items_fit_F0b, ↓e_items_fit_F0, ↓e_items_fit_C0, ↓e_items_fit_C1, ↓e_items_fit_I2a, ↓e_items_fit_I2, ↓e_b_items_fit, ↓e_rule_tells_C0, ↓e_b_rule_tells, ↓e_is_melt_C0, ↓e_is_melt_I0a, ↓e_is_melt_I0, ↓e_is_melt_C1, ↓e_b_is_melt, ↓e_is_title_I0a, ↓e_is_title_I0, ↓e_is_title_C0, ↓e_b_is_title, ↓e_are_turns_I0a, ↓e_are_turns_I0, ↓e_are_turns_F0b, ↓e_are_turns_F0, ↓e_b_are_turns, ↓e_rule_row_I0a, ↓e_rule_row_I0, ↓e_rule_row_C0, ↓e_b_rule_row, ↓e_tongue_text_C0, ↓e_tongue_text_C1, ↓e_tongue_text_C2, ↓e_tongue_text_F0b, ↓e_tongue_text_F0, ↓e_tongue_text_C3, ↓e_b_tongue_text, ↓e_l_begin_F0b, ↓e_l_begin_F0, ↓e_b_l_begin, ↓e_l_next_I0a, ↓e_l_next_I0, ↓e_b_l_next, ↓e_l_words_C0, ↓e_b_l_words, ↓e_b_l_melt, ↓e_l_melts_C0, ↓e_b_l_melts, ↓e_l_great_I0a, ↓e_l_great_I0, ↓e_b_l_great, ↓e_l_items_I0a, ↓e_l_items_I0, ↓e_l_items_F0b, ↓e_l_items_F0, ↓e_l_items_I1a, ↓e_l_items_I1, ↓e_l_items_W0b, ↓e_l_items_W0, ↓e_b_l_items, ↓e_l_rule_I0a, ↓e_l_rule_I0, ↓e_l_rule_I1a, ↓e_l_rule_I1, ↓e_l_rule_I2a, ↓e_l_rule_I2, ↓e_l_rule_I3a, ↓e_l_rule_I3, ↓e_l_rule_C0, ↓e_l_rule_I4a, ↓e_l_rule_I4, ↓e_b_l_rule, ↓e_l_kind_F0b, ↓e_l_kind_F0, ↓e_b_l_kind, ↓e_l_data_I0a, ↓e_l_data_I0, ↓e_l_data_F0b, ↓e_l_data_F0, ↓e_l_data_C0, ↓e_b_l_data, ↓e_l_tongue_C0, ↓e_l_tongue_C1, ↓e_b_l_tongue, ↓e_l_rule_row_I0a, ↓e_l_rule_row_I0, ↓e_l_rule_row_C0, ↓e_b_l_rule_row, ↓e_l_rows_C0, ↓e_l_rows_C1, ↓e_l_rows_C2, ↓e_l_rows_F0b, ↓e_l_rows_F0, ↓e_b_l_rows, ↓e_b_l_whole, ↓e_l_is_rule_C0, ↓e_l_is_rule_I0a, ↓e_l_is_rule_I0, ↓e_b_l_is_rule, ↓e_l_is_tongue_I0a, ↓e_l_is_tongue_I0, ↓e_l_is_tongue_I1a, ↓e_l_is_tongue_I1, ↓e_l_is_tongue_C0, ↓e_l_is_tongue_I2a, ↓e_l_is_tongue_I2, ↓e_l_is_tongue_I3a, ↓e_l_is_tongue_I3, ↓e_l_is_tongue_F0b, ↓e_l_is_tongue_F0, ↓e_b_l_is_tongue, ↓e_law_C0, ↓e_law_I0a, ↓e_law_I0, ↓e_law_F1b, ↓e_law_F1, ↓e_law_I1a, ↓e_law_I1, ↓e_law_F0b, ↓e_law_F0, ↓e_b_law, ↓e_Rule_init_I0a, ↓e_Rule_init_I0, ↓e_Rule_init_I1a, ↓e_Rule_init_I1, ↓e_Rule_init_I2a, ↓e_Rule_init_I2, ↓e_b_Rule_init, ↓e_Tongue_init_I0a, ↓e_Tongue_init_I0, ↓e_Tongue_init_C0, ↓e_Tongue_init_I1a, ↓e_Tongue_init_I1, ↓e_Tongue_init_C1, ↓e_Tongue_init_I2a, ↓e_Tongue_init_I2, ↓e_b_Tongue_init, ↓e_Kind_init_I0a, ↓e_Kind_init_I0, ↓e_b_Kind_init, ↓gc_0, ↓gc_1, ↓gc_2, ↓gc_3, ↓gc_4, gk_0, gk_1, gk_2, gk_3, gk_4, gk_5, gk_6, gn_0, gn_1, gn_2, gn_3, gn_4, gn_5, gn_6, gn_7, gn_8, gn_9, gn_10, gn_11, gn_12, gi_6, gi_7, gi_8])
local macro_rules
  | `(tactic| push_cast [$xs,*]) => `(tactic| simp (decide := true) only [↓ev_var, ↓ev_int, ↓ev_str, ↓ev_bl, ↓ev_non, ↓ev_bin, ↓ev_neg, ↓ev_cmp, ↓ev_ch2, ↓ev_ch3, ↓ev_bop, ↓bop_one, ↓bop_and, ↓bop_or, ↓ev_not, ↓ev_ife, ↓ev_lst, ↓ev_tup, ↓ev_dct0, ↓ev_call, ↓ev_mk, ↓ev_bfn, ↓ev_mth, ↓ev_ix, ↓ev_sl, ↓ev_fld2, ↓ev_isi, ↓ev_isis, ↓ev_cmpr, ↓ev_orl, or_non, or_nil, or_cons, ↓ev_lens, lens_nil, ↓ev_fmt, ↓ev_fstr, ↓ev_popx, ↓js_nil, ↓js_cons, ↓ev_new, ↓ev_frz, ↓es_nil, ↓es_cons, ↓all_nil, ↓all_cons, ↓eo_no, ↓eo_so, ↓sr_seq, ↓sr_rng, ↓sr_enum, ↓sr_zip, ↓sr_rev, ↓ss_nil, ↓ss_cons, ↓ss_frz, ↓st_set, ↓st_unp, ↓st_aug, ↓st_expr, ↓st_doc, ↓st_ret, ↓st_retN, ↓st_ite, ↓st_for, ↓st_wl, ↓st_brk, ↓st_cont, ↓st_pass, ↓st_rai, ↓st_tri, ↓st_mut, ↓st_smu, ↓st_sfl, ↓st_ist, lk0, lkS, okL_some, bnd_k, bnd_exc, lift_ok, lift_exc, sq_next, sq_ret, sq_brk, sq_cont, sq_exc, rd2_gen, rd1_t, onB_t, onT2_t, onT1_t, onO_some, onO_none, okq_some, rd_t, cmpThen_b, newW_l, newW_d, frzW_t, frzW_l, allR_b, intW_i, seqW_s, seqW_lst, seqW_ro, seqW_tup, seqW_rt, elR_ok, tsR_b, tg_nm, tg_tp, go_nil, go_cons, unp_tup, unp_rt, unp_lst, unp_ro, tgu_tp, flL_t, ct_eq, wipeO_nil, wipeO_cons, List.map_cons, List.map_nil, fldR_ins, lku_hit, lku_miss, put_nil, put_hit, put_miss, sflR_0, mkEnd_ok, mkEnd_exc, ty_non, ty_bl, ty_int, ty_str, ty_lst, ty_tup, ty_dct, ty_ins, ty_exc, kr_t, kr_f, kitsP_nil, kitsP_cons, take_app, take_appk, take_appL, List.take_succ_cons, List.take_zero, List.take_nil, List.take_length_add_append, rep0, rep1, rep2, cq_nil, List.append_nil, seqW_loc, seqO_l, tri_next, tri_ret, tri_brk, tri_cont, tri_exc, frzE_eq, frzR_l, stE_0, stE_S, frzR_t, mutR_l, isLst_l, ma_app, ma_pop, ma_ins, ma_rev, ma_ext, mu_app, mu_ext, mu_pop, mu_rev, istR_l, get_app0, get_appk, get_0, get_S, set_app0, set_appk, rd_loc, tr_lst, tr_ins, tr_dct, ix_nil, ix_cons, ix_map, atI_modI, atI_modS, atI_modL, b2_repL, cutD_eq, cutL_map, cutL_to, Option.getD_some, Nat.reduceEqDiff, inSeq_s, sx_nil, sx_cons, sx_map, sx_app, Option.isSome_some, Option.isSome_map, bls_map, bls_mapf, bx_nil, bx_cons, mty_s, mty_l, mty_ro, xm_strip, xm_countS, mo_joint, mo_stript, mo_startswitht, mo_endswitht, mo_countt, mo_splitt, mo_islowert, mo_countf, xm_sw, xm_ew, m_and, m_or, m_not, m_id, sq_ret_if, sq_exc_if, bf_lenS, bf_str, fmtW_s, fmtW_i, joinQ_s, isLstE_l, isLstO_l, popW_l, popO_l, xi_str, xl_str, Bool.false_eq_true, decide_eq_true_eq, Bool.decide_eq_true, Bool.decide_eq_false, decide_true, decide_false, Bool.true_and, Bool.false_and, Bool.and_true, Bool.and_false, Bool.true_or, Bool.false_or, Bool.or_true, Bool.or_false, lq_next, lq_cont, lq_brk, lq_ret, lq_exc, setE_ok, endF_ret, endF_next, endF_exc, leave_t, leave_0, at_nil, at_cons, rds_nil, rds_cons, Option.bind_some, List.take_length, List.length_cons, List.length_nil, set_c0, set_cS, Nat.reduceAdd, Nat.reduceLT, reduceIte, ↓reduceIte, Option.map_some, Nat.zero_lt_succ, Nat.add_one_pos, Nat.lt_add_left_iff_pos, List.getElem?_cons_zero, List.getElem?_cons_succ, if_true, if_false, Bool.not_true, Bool.not_false, Option.bind_some, b2_add, b2_sub, b2_mul, b2_fdiv, b2_mod, b2_pow, c2_lt, c2_le, c2_gt, c2_ge, c2_eq, c2_ne, eqv_int, eqv_str, eqv_bl, eqv_strs, eqv_strs0, c2_is, c2_isn, non_non, non_int, non_str, non_bl, non_lst, non_tup, non_ins, b2_addS, b2_addL, c2_memL, c2_memRo, c2_memT, c2_memRt, c2_nmemL, c2_nmemRo, c2_nmemT, c2_nmemRt, c2_memS, c2_memD, c2_nmemD, xi_dct, bf_lenL, bf_lenRo, bf_lenT, bf_lenRt, bf_list, bf_listD, bf_divmod, bf_max2, bf_min2, bf_all, bf_any, xl_lst, xl_ro, xi_lst, xi_ro, xi_tup, xi_rt, atI_lit, atI_m1, List.getLast?_concat, it_lst, it_ro, it_tup, it_rt, ls_lst, ls_ro, ist_lit, ist_m1, ↓e_b_is_word, ↓e_ties_stand_I0a, ↓e_ties_stand_I0, ↓e_ties_stand_F0b, ↓e_ties_stand_F0, ↓e_b_ties_stand, ↓e_items_fit_I0a, ↓e_items_fit_I0, ↓e_items_fit_I1a, ↓e_items_fit_I1, ↓e_items_fit_F0b, ↓e_items_fit_F0, ↓e_items_fit_C0, ↓e_items_fit_C1, ↓e_items_fit_I2a, ↓e_items_fit_I2, ↓e_b_items_fit, ↓e_rule_tells_C0, ↓e_b_rule_tells, ↓e_is_melt_C0, ↓e_is_melt_I0a, ↓e_is_melt_I0, ↓e_is_melt_C1, ↓e_b_is_melt, ↓e_is_title_I0a, ↓e_is_title_I0, ↓e_is_title_C0, ↓e_b_is_title, ↓e_are_turns_I0a, ↓e_are_turns_I0, ↓e_are_turns_F0b, ↓e_are_turns_F0, ↓e_b_are_turns, ↓e_rule_row_I0a, ↓e_rule_row_I0, ↓e_rule_row_C0, ↓e_b_rule_row, ↓e_tongue_text_C0, ↓e_tongue_text_C1, ↓e_tongue_text_C2, ↓e_tongue_text_F0b, ↓e_tongue_text_F0, ↓e_tongue_text_C3, ↓e_b_tongue_text, ↓e_l_begin_F0b, ↓e_l_begin_F0, ↓e_b_l_begin, ↓e_l_next_I0a, ↓e_l_next_I0, ↓e_b_l_next, ↓e_l_words_C0, ↓e_b_l_words, ↓e_b_l_melt, ↓e_l_melts_C0, ↓e_b_l_melts, ↓e_l_great_I0a, ↓e_l_great_I0, ↓e_b_l_great, ↓e_l_items_I0a, ↓e_l_items_I0, ↓e_l_items_F0b, ↓e_l_items_F0, ↓e_l_items_I1a, ↓e_l_items_I1, ↓e_l_items_W0b, ↓e_l_items_W0, ↓e_b_l_items, ↓e_l_rule_I0a, ↓e_l_rule_I0, ↓e_l_rule_I1a, ↓e_l_rule_I1, ↓e_l_rule_I2a, ↓e_l_rule_I2, ↓e_l_rule_I3a, ↓e_l_rule_I3, ↓e_l_rule_C0, ↓e_l_rule_I4a, ↓e_l_rule_I4, ↓e_b_l_rule, ↓e_l_kind_F0b, ↓e_l_kind_F0, ↓e_b_l_kind, ↓e_l_data_I0a, ↓e_l_data_I0, ↓e_l_data_F0b, ↓e_l_data_F0, ↓e_l_data_C0, ↓e_b_l_data, ↓e_l_tongue_C0, ↓e_l_tongue_C1, ↓e_b_l_tongue, ↓e_l_rule_row_I0a, ↓e_l_rule_row_I0, ↓e_l_rule_row_C0, ↓e_b_l_rule_row, ↓e_l_rows_C0, ↓e_l_rows_C1, ↓e_l_rows_C2, ↓e_l_rows_F0b, ↓e_l_rows_F0, ↓e_b_l_rows, ↓e_b_l_whole, ↓e_l_is_rule_C0, ↓e_l_is_rule_I0a, ↓e_l_is_rule_I0, ↓e_b_l_is_rule, ↓e_l_is_tongue_I0a, ↓e_l_is_tongue_I0, ↓e_l_is_tongue_I1a, ↓e_l_is_tongue_I1, ↓e_l_is_tongue_C0, ↓e_l_is_tongue_I2a, ↓e_l_is_tongue_I2, ↓e_l_is_tongue_I3a, ↓e_l_is_tongue_I3, ↓e_l_is_tongue_F0b, ↓e_l_is_tongue_F0, ↓e_b_l_is_tongue, ↓e_law_C0, ↓e_law_I0a, ↓e_law_I0, ↓e_law_F1b, ↓e_law_F1, ↓e_law_I1a, ↓e_law_I1, ↓e_law_F0b, ↓e_law_F0, ↓e_b_law, ↓e_Rule_init_I0a, ↓e_Rule_init_I0, ↓e_Rule_init_I1a, ↓e_Rule_init_I1, ↓e_Rule_init_I2a, ↓e_Rule_init_I2, ↓e_b_Rule_init, ↓e_Tongue_init_I0a, ↓e_Tongue_init_I0, ↓e_Tongue_init_C0, ↓e_Tongue_init_I1a, ↓e_Tongue_init_I1, ↓e_Tongue_init_C1, ↓e_Tongue_init_I2a, ↓e_Tongue_init_I2, ↓e_b_Tongue_init, ↓e_Kind_init_I0a, ↓e_Kind_init_I0, ↓e_b_Kind_init, ↓gc_0, ↓gc_1, ↓gc_2, ↓gc_3, ↓gc_4, gk_0, gk_1, gk_2, gk_3, gk_4, gk_5, gk_6, gn_0, gn_1, gn_2, gn_3, gn_4, gn_5, gn_6, gn_7, gn_8, gn_9, gn_10, gn_11, gn_12, gi_6, gi_7, gi_8, $xs,*])
local macro_rules
  | `(tactic| simp! [$xs,*]) => `(tactic| simp (decide := true) [↓ev_var, ↓ev_int, ↓ev_str, ↓ev_bl, ↓ev_non, ↓ev_bin, ↓ev_neg, ↓ev_cmp, ↓ev_ch2, ↓ev_ch3, ↓ev_bop, ↓bop_one, ↓bop_and, ↓bop_or, ↓ev_not, ↓ev_ife, ↓ev_lst, ↓ev_tup, ↓ev_dct0, ↓ev_call, ↓ev_mk, ↓ev_bfn, ↓ev_mth, ↓ev_ix, ↓ev_sl, ↓ev_fld2, ↓ev_isi, ↓ev_isis, ↓ev_cmpr, ↓ev_orl, or_non, or_nil, or_cons, ↓ev_lens, lens_nil, ↓ev_fmt, ↓ev_fstr, ↓ev_popx, ↓js_nil, ↓js_cons, ↓ev_new, ↓ev_frz, ↓es_nil, ↓es_cons, ↓all_nil, ↓all_cons, ↓eo_no, ↓eo_so, ↓sr_seq, ↓sr_rng, ↓sr_enum, ↓sr_zip, ↓sr_rev, ↓ss_nil, ↓ss_cons, ↓ss_frz, ↓st_set, ↓st_unp, ↓st_aug, ↓st_expr, ↓st_doc, ↓st_ret, ↓st_retN, ↓st_ite, ↓st_for, ↓st_wl, ↓st_brk, ↓st_cont, ↓st_pass, ↓st_rai, ↓st_tri, ↓st_mut, ↓st_smu, ↓st_sfl, ↓st_ist, lk0, lkS, okL_some, bnd_k, bnd_exc, lift_ok, lift_exc, sq_next, sq_ret, sq_brk, sq_cont, sq_exc, rd2_gen, rd1_t, onB_t, onT2_t, onT1_t, onO_some, onO_none, okq_some, rd_t, cmpThen_b, newW_l, newW_d, frzW_t, frzW_l, allR_b, intW_i, seqW_s, seqW_lst, seqW_ro, seqW_tup, seqW_rt, elR_ok, tsR_b, tg_nm, tg_tp, go_nil, go_cons, unp_tup, unp_rt, unp_lst, unp_ro, tgu_tp, flL_t, ct_eq, wipeO_nil, wipeO_cons, List.map_cons, List.map_nil, fldR_ins, lku_hit, lku_miss, put_nil, put_hit, put_miss, sflR_0, mkEnd_ok, mkEnd_exc, ty_non, ty_bl, ty_int, ty_str, ty_lst, ty_tup, ty_dct, ty_ins, ty_exc, kr_t, kr_f, kitsP_nil, kitsP_cons, take_app, take_appk, take_appL, List.take_succ_cons, List.take_zero, List.take_nil, List.take_length_add_append, rep0, rep1, rep2, cq_nil, List.append_nil, seqW_loc, seqO_l, tri_next, tri_ret, tri_brk, tri_cont, tri_exc, frzE_eq, frzR_l, stE_0, stE_S, frzR_t, mutR_l, isLst_l, ma_app, ma_pop, ma_ins, ma_rev, ma_ext, mu_app, mu_ext, mu_pop, mu_rev, istR_l, get_app0, get_appk, get_0, get_S, set_app0, set_appk, rd_loc, tr_lst, tr_ins, tr_dct, ix_nil, ix_cons, ix_map, atI_modI, atI_modS, atI_modL, b2_repL, cutD_eq, cutL_map, cutL_to, Option.getD_some, Nat.reduceEqDiff, inSeq_s, sx_nil, sx_cons, sx_map, sx_app, Option.isSome_some, Option.isSome_map, bls_map, bls_mapf, bx_nil, bx_cons, mty_s, mty_l, mty_ro, xm_strip, xm_countS, mo_joint, mo_stript, mo_startswitht, mo_endswitht, mo_countt, mo_splitt, mo_islowert, mo_countf, xm_sw, xm_ew, m_and, m_or, m_not, m_id, sq_ret_if, sq_exc_if, bf_lenS, bf_str, fmtW_s, fmtW_i, joinQ_s, isLstE_l, isLstO_l, popW_l, popO_l, xi_str, xl_str, Bool.false_eq_true, decide_eq_true_eq, Bool.decide_eq_true, Bool.decide_eq_false, decide_true, decide_false, Bool.true_and, Bool.false_and, Bool.and_true, Bool.and_false, Bool.true_or, Bool.false_or, Bool.or_true, Bool.or_false, lq_next, lq_cont, lq_brk, lq_ret, lq_exc, setE_ok, endF_ret, endF_next, endF_exc, leave_t, leave_0, at_nil, at_cons, rds_nil, rds_cons, Option.bind_some, List.take_length, List.length_cons, List.length_nil, set_c0, set_cS, Nat.reduceAdd, Nat.reduceLT, reduceIte, ↓reduceIte, Option.map_some, Nat.zero_lt_succ, Nat.add_one_pos, Nat.lt_add_left_iff_pos, List.getElem?_cons_zero, List.getElem?_cons_succ, if_true, if_false, Bool.not_true, Bool.not_false, Option.bind_some, b2_add, b2_sub, b2_mul, b2_fdiv, b2_mod, b2_pow, c2_lt, c2_le, c2_gt, c2_ge, c2_eq, c2_ne, eqv_int, eqv_str, eqv_bl, eqv_strs, eqv_strs0, c2_is, c2_isn, non_non, non_int, non_str, non_bl, non_lst, non_tup, non_ins, b2_addS, b2_addL, c2_memL, c2_memRo, c2_memT, c2_memRt, c2_nmemL, c2_nmemRo, c2_nmemT, c2_nmemRt, c2_memS, c2_memD, c2_nmemD, xi_dct, bf_lenL, bf_lenRo, bf_lenT, bf_lenRt, bf_list, bf_listD, bf_divmod, bf_max2, bf_min2, bf_all, bf_any, xl_lst, xl_ro, xi_lst, xi_ro, xi_tup, xi_rt, atI_lit, atI_m1, List.getLast?_concat, it_lst, it_ro, it_tup, it_rt, ls_lst, ls_ro, ist_lit, ist_m1, ↓e_b_is_word, ↓e_ties_stand_I0a, ↓e_ties_stand_I0, ↓e_ties_stand_F0b, ↓e_ties_stand_F0, ↓e_b_ties_stand, ↓e_items_fit_I0a, ↓e_items_fit_I0, ↓e_items_fit_I1a, ↓e_items_fit_I1, ↓e_items_fit_F0b, ↓e_items_fit_F0, ↓e_items_fit_C0, ↓e_items_fit_C1, ↓e_items_fit_I2a, ↓e_items_fit_I2, ↓e_b_items_fit, ↓e_rule_tells_C0, ↓e_b_rule_tells, ↓e_is_melt_C0, ↓e_is_melt_I0a, ↓e_is_melt_I0, ↓e_is_melt_C1, ↓e_b_is_melt, ↓e_is_title_I0a, ↓e_is_title_I0, ↓e_is_title_C0, ↓e_b_is_title, ↓e_are_turns_I0a, ↓e_are_turns_I0, ↓e_are_turns_F0b, ↓e_are_turns_F0, ↓e_b_are_turns, ↓e_rule_row_I0a, ↓e_rule_row_I0, ↓e_rule_row_C0, ↓e_b_rule_row, ↓e_tongue_text_C0, ↓e_tongue_text_C1, ↓e_tongue_text_C2, ↓e_tongue_text_F0b, ↓e_tongue_text_F0, ↓e_tongue_text_C3, ↓e_b_tongue_text, ↓e_l_begin_F0b, ↓e_l_begin_F0, ↓e_b_l_begin, ↓e_l_next_I0a, ↓e_l_next_I0, ↓e_b_l_next, ↓e_l_words_C0, ↓e_b_l_words, ↓e_b_l_melt, ↓e_l_melts_C0, ↓e_b_l_melts, ↓e_l_great_I0a, ↓e_l_great_I0, ↓e_b_l_great, ↓e_l_items_I0a, ↓e_l_items_I0, ↓e_l_items_F0b, ↓e_l_items_F0, ↓e_l_items_I1a, ↓e_l_items_I1, ↓e_l_items_W0b, ↓e_l_items_W0, ↓e_b_l_items, ↓e_l_rule_I0a, ↓e_l_rule_I0, ↓e_l_rule_I1a, ↓e_l_rule_I1, ↓e_l_rule_I2a, ↓e_l_rule_I2, ↓e_l_rule_I3a, ↓e_l_rule_I3, ↓e_l_rule_C0, ↓e_l_rule_I4a, ↓e_l_rule_I4, ↓e_b_l_rule, ↓e_l_kind_F0b, ↓e_l_kind_F0, ↓e_b_l_kind, ↓e_l_data_I0a, ↓e_l_data_I0, ↓e_l_data_F0b, ↓e_l_data_F0, ↓e_l_data_C0, ↓e_b_l_data, ↓e_l_tongue_C0, ↓e_l_tongue_C1, ↓e_b_l_tongue, ↓e_l_rule_row_I0a, ↓e_l_rule_row_I0, ↓e_l_rule_row_C0, ↓e_b_l_rule_row, ↓e_l_rows_C0, ↓e_l_rows_C1, ↓e_l_rows_C2, ↓e_l_rows_F0b, ↓e_l_rows_F0, ↓e_b_l_rows, ↓e_b_l_whole, ↓e_l_is_rule_C0, ↓e_l_is_rule_I0a, ↓e_l_is_rule_I0, ↓e_b_l_is_rule, ↓e_l_is_tongue_I0a, ↓e_l_is_tongue_I0, ↓e_l_is_tongue_I1a, ↓e_l_is_tongue_I1, ↓e_l_is_tongue_C0, ↓e_l_is_tongue_I2a, ↓e_l_is_tongue_I2, ↓e_l_is_tongue_I3a, ↓e_l_is_tongue_I3, ↓e_l_is_tongue_F0b, ↓e_l_is_tongue_F0, ↓e_b_l_is_tongue, ↓e_law_C0, ↓e_law_I0a, ↓e_law_I0, ↓e_law_F1b, ↓e_law_F1, ↓e_law_I1a, ↓e_law_I1, ↓e_law_F0b, ↓e_law_F0, ↓e_b_law, ↓e_Rule_init_I0a, ↓e_Rule_init_I0, ↓e_Rule_init_I1a, ↓e_Rule_init_I1, ↓e_Rule_init_I2a, ↓e_Rule_init_I2, ↓e_b_Rule_init, ↓e_Tongue_init_I0a, ↓e_Tongue_init_I0, ↓e_Tongue_init_C0, ↓e_Tongue_init_I1a, ↓e_Tongue_init_I1, ↓e_Tongue_init_C1, ↓e_Tongue_init_I2a, ↓e_Tongue_init_I2, ↓e_b_Tongue_init, ↓e_Kind_init_I0a, ↓e_Kind_init_I0, ↓e_b_Kind_init, ↓gc_0, ↓gc_1, ↓gc_2, ↓gc_3, ↓gc_4, gk_0, gk_1, gk_2, gk_3, gk_4, gk_5, gk_6, gn_0, gn_1, gn_2, gn_3, gn_4, gn_5, gn_6, gn_7, gn_8, gn_9, gn_10, gn_11, gn_12, gi_6, gi_7, gi_8, $xs,*])
local macro_rules
  | `(tactic| simp!) => `(tactic| simp (decide := true) [↓ev_var, ↓ev_int, ↓ev_str, ↓ev_bl, ↓ev_non, ↓ev_bin, ↓ev_neg, ↓ev_cmp, ↓ev_ch2, ↓ev_ch3, ↓ev_bop, ↓bop_one, ↓bop_and, ↓bop_or, ↓ev_not, ↓ev_ife, ↓ev_lst, ↓ev_tup, ↓ev_dct0, ↓ev_call, ↓ev_mk, ↓ev_bfn, ↓ev_mth, ↓ev_ix, ↓ev_sl, ↓ev_fld2, ↓ev_isi, ↓ev_isis, ↓ev_cmpr, ↓ev_orl, or_non, or_nil, or_cons, ↓ev_lens, lens_nil, ↓ev_fmt, ↓ev_fstr, ↓ev_popx, ↓js_nil, ↓js_cons, ↓ev_new, ↓ev_frz, ↓es_nil, ↓es_cons, ↓all_nil, ↓all_cons, ↓eo_no, ↓eo_so, ↓sr_seq, ↓sr_rng, ↓sr_enum, ↓sr_zip, ↓sr_rev, ↓ss_nil, ↓ss_cons, ↓ss_frz, ↓st_set, ↓st_unp, ↓st_aug, ↓st_expr, ↓st_doc, ↓st_ret, ↓st_retN, ↓st_ite, ↓st_for, ↓st_wl, ↓st_brk, ↓st_cont, ↓st_pass, ↓st_rai, ↓st_tri, ↓st_mut, ↓st_smu, ↓st_sfl, ↓st_ist, lk0, lkS, okL_some, bnd_k, bnd_exc, lift_ok, lift_exc, sq_next, sq_ret, sq_brk, sq_cont, sq_exc, rd2_gen, rd1_t, onB_t, onT2_t, onT1_t, onO_some, onO_none, okq_some, rd_t, cmpThen_b, newW_l, newW_d, frzW_t, frzW_l, allR_b, intW_i, seqW_s, seqW_lst, seqW_ro, seqW_tup, seqW_rt, elR_ok, tsR_b, tg_nm, tg_tp, go_nil, go_cons, unp_tup, unp_rt, unp_lst, unp_ro, tgu_tp, flL_t, ct_eq, wipeO_nil, wipeO_cons, List.map_cons, List.map_nil, fldR_ins, lku_hit, lku_miss, put_nil, put_hit, put_miss, sflR_0, mkEnd_ok, mkEnd_exc, ty_non, ty_bl, ty_int, ty_str, ty_lst, ty_tup, ty_dct, ty_ins, ty_exc, kr_t, kr_f, kitsP_nil, kitsP_cons, take_app, take_appk, take_appL, List.take_succ_cons, List.take_zero, List.take_nil, List.take_length_add_append, rep0, rep1, rep2, cq_nil, List.append_nil, seqW_loc, seqO_l, tri_next, tri_ret, tri_brk, tri_cont, tri_exc, frzE_eq, frzR_l, stE_0, stE_S, frzR_t, mutR_l, isLst_l, ma_app, ma_pop, ma_ins, ma_rev, ma_ext, mu_app, mu_ext, mu_pop, mu_rev, istR_l, get_app0, get_appk, get_0, get_S, set_app0, set_appk, rd_loc, tr_lst, tr_ins, tr_dct, ix_nil, ix_cons, ix_map, atI_modI, atI_modS, atI_modL, b2_repL, cutD_eq, cutL_map, cutL_to, Option.getD_some, Nat.reduceEqDiff, inSeq_s, sx_nil, sx_cons, sx_map, sx_app, Option.isSome_some, Option.isSome_map, bls_map, bls_mapf, bx_nil, bx_cons, mty_s, mty_l, mty_ro, xm_strip, xm_countS, mo_joint, mo_stript, mo_startswitht, mo_endswitht, mo_countt, mo_splitt, mo_islowert, mo_countf, xm_sw, xm_ew, m_and, m_or, m_not, m_id, sq_ret_if, sq_exc_if, bf_lenS, bf_str, fmtW_s, fmtW_i, joinQ_s, isLstE_l, isLstO_l, popW_l, popO_l, xi_str, xl_str, Bool.false_eq_true, decide_eq_true_eq, Bool.decide_eq_true, Bool.decide_eq_false, decide_true, decide_false, Bool.true_and, Bool.false_and, Bool.and_true, Bool.and_false, Bool.true_or, Bool.false_or, Bool.or_true, Bool.or_false, lq_next, lq_cont, lq_brk, lq_ret, lq_exc, setE_ok, endF_ret, endF_next, endF_exc, leave_t, leave_0, at_nil, at_cons, rds_nil, rds_cons, Option.bind_some, List.take_length, List.length_cons, List.length_nil, set_c0, set_cS, Nat.reduceAdd, Nat.reduceLT, reduceIte, ↓reduceIte, Option.map_some, Nat.zero_lt_succ, Nat.add_one_pos, Nat.lt_add_left_iff_pos, List.getElem?_cons_zero, List.getElem?_cons_succ, if_true, if_false, Bool.not_true, Bool.not_false, Option.bind_some, b2_add, b2_sub, b2_mul, b2_fdiv, b2_mod, b2_pow, c2_lt, c2_le, c2_gt, c2_ge, c2_eq, c2_ne, eqv_int, eqv_str, eqv_bl, eqv_strs, eqv_strs0, c2_is, c2_isn, non_non, non_int, non_str, non_bl, non_lst, non_tup, non_ins, b2_addS, b2_addL, c2_memL, c2_memRo, c2_memT, c2_memRt, c2_nmemL, c2_nmemRo, c2_nmemT, c2_nmemRt, c2_memS, c2_memD, c2_nmemD, xi_dct, bf_lenL, bf_lenRo, bf_lenT, bf_lenRt, bf_list, bf_listD, bf_divmod, bf_max2, bf_min2, bf_all, bf_any, xl_lst, xl_ro, xi_lst, xi_ro, xi_tup, xi_rt, atI_lit, atI_m1, List.getLast?_concat, it_lst, it_ro, it_tup, it_rt, ls_lst, ls_ro, ist_lit, ist_m1, ↓e_b_is_word, ↓e_ties_stand_I0a, ↓e_ties_stand_I0, ↓e_ties_stand_F0b, ↓e_ties_stand_F0, ↓e_b_ties_stand, ↓e_items_fit_I0a, ↓e_items_fit_I0, ↓e_items_fit_I1a, ↓e_items_fit_I1, ↓e_items_fit_F0b, ↓e_items_fit_F0, ↓e_items_fit_C0, ↓e_items_fit_C1, ↓e_items_fit_I2a, ↓e_items_fit_I2, ↓e_b_items_fit, ↓e_rule_tells_C0, ↓e_b_rule_tells, ↓e_is_melt_C0, ↓e_is_melt_I0a, ↓e_is_melt_I0, ↓e_is_melt_C1, ↓e_b_is_melt, ↓e_is_title_I0a, ↓e_is_title_I0, ↓e_is_title_C0, ↓e_b_is_title, ↓e_are_turns_I0a, ↓e_are_turns_I0, ↓e_are_turns_F0b, ↓e_are_turns_F0, ↓e_b_are_turns, ↓e_rule_row_I0a, ↓e_rule_row_I0, ↓e_rule_row_C0, ↓e_b_rule_row, ↓e_tongue_text_C0, ↓e_tongue_text_C1, ↓e_tongue_text_C2, ↓e_tongue_text_F0b, ↓e_tongue_text_F0, ↓e_tongue_text_C3, ↓e_b_tongue_text, ↓e_l_begin_F0b, ↓e_l_begin_F0, ↓e_b_l_begin, ↓e_l_next_I0a, ↓e_l_next_I0, ↓e_b_l_next, ↓e_l_words_C0, ↓e_b_l_words, ↓e_b_l_melt, ↓e_l_melts_C0, ↓e_b_l_melts, ↓e_l_great_I0a, ↓e_l_great_I0, ↓e_b_l_great, ↓e_l_items_I0a, ↓e_l_items_I0, ↓e_l_items_F0b, ↓e_l_items_F0, ↓e_l_items_I1a, ↓e_l_items_I1, ↓e_l_items_W0b, ↓e_l_items_W0, ↓e_b_l_items, ↓e_l_rule_I0a, ↓e_l_rule_I0, ↓e_l_rule_I1a, ↓e_l_rule_I1, ↓e_l_rule_I2a, ↓e_l_rule_I2, ↓e_l_rule_I3a, ↓e_l_rule_I3, ↓e_l_rule_C0, ↓e_l_rule_I4a, ↓e_l_rule_I4, ↓e_b_l_rule, ↓e_l_kind_F0b, ↓e_l_kind_F0, ↓e_b_l_kind, ↓e_l_data_I0a, ↓e_l_data_I0, ↓e_l_data_F0b, ↓e_l_data_F0, ↓e_l_data_C0, ↓e_b_l_data, ↓e_l_tongue_C0, ↓e_l_tongue_C1, ↓e_b_l_tongue, ↓e_l_rule_row_I0a, ↓e_l_rule_row_I0, ↓e_l_rule_row_C0, ↓e_b_l_rule_row, ↓e_l_rows_C0, ↓e_l_rows_C1, ↓e_l_rows_C2, ↓e_l_rows_F0b, ↓e_l_rows_F0, ↓e_b_l_rows, ↓e_b_l_whole, ↓e_l_is_rule_C0, ↓e_l_is_rule_I0a, ↓e_l_is_rule_I0, ↓e_b_l_is_rule, ↓e_l_is_tongue_I0a, ↓e_l_is_tongue_I0, ↓e_l_is_tongue_I1a, ↓e_l_is_tongue_I1, ↓e_l_is_tongue_C0, ↓e_l_is_tongue_I2a, ↓e_l_is_tongue_I2, ↓e_l_is_tongue_I3a, ↓e_l_is_tongue_I3, ↓e_l_is_tongue_F0b, ↓e_l_is_tongue_F0, ↓e_b_l_is_tongue, ↓e_law_C0, ↓e_law_I0a, ↓e_law_I0, ↓e_law_F1b, ↓e_law_F1, ↓e_law_I1a, ↓e_law_I1, ↓e_law_F0b, ↓e_law_F0, ↓e_b_law, ↓e_Rule_init_I0a, ↓e_Rule_init_I0, ↓e_Rule_init_I1a, ↓e_Rule_init_I1, ↓e_Rule_init_I2a, ↓e_Rule_init_I2, ↓e_b_Rule_init, ↓e_Tongue_init_I0a, ↓e_Tongue_init_I0, ↓e_Tongue_init_C0, ↓e_Tongue_init_I1a, ↓e_Tongue_init_I1, ↓e_Tongue_init_C1, ↓e_Tongue_init_I2a, ↓e_Tongue_init_I2, ↓e_b_Tongue_init, ↓e_Kind_init_I0a, ↓e_Kind_init_I0, ↓e_b_Kind_init, ↓gc_0, ↓gc_1, ↓gc_2, ↓gc_3, ↓gc_4, gk_0, gk_1, gk_2, gk_3, gk_4, gk_5, gk_6, gn_0, gn_1, gn_2, gn_3, gn_4, gn_5, gn_6, gn_7, gn_8, gn_9, gn_10, gn_11, gn_12, gi_6, gi_7, gi_8])
local macro_rules
  | `(tactic| dsimp! [$xs,*]) => `(tactic| simp (decide := true) only [↓ev_var, ↓ev_int, ↓ev_str, ↓ev_bl, ↓ev_non, ↓ev_bin, ↓ev_neg, ↓ev_cmp, ↓ev_ch2, ↓ev_ch3, ↓ev_bop, ↓bop_one, ↓bop_and, ↓bop_or, ↓ev_not, ↓ev_ife, ↓ev_lst, ↓ev_tup, ↓ev_dct0, ↓ev_call, ↓ev_mk, ↓ev_bfn, ↓ev_mth, ↓ev_ix, ↓ev_sl, ↓ev_fld2, ↓ev_isi, ↓ev_isis, ↓ev_cmpr, ↓ev_orl, or_non, or_nil, or_cons, ↓ev_lens, lens_nil, ↓ev_fmt, ↓ev_fstr, ↓ev_popx, ↓js_nil, ↓js_cons, ↓ev_new, ↓ev_frz, ↓es_nil, ↓es_cons, ↓all_nil, ↓all_cons, ↓eo_no, ↓eo_so, ↓sr_seq, ↓sr_rng, ↓sr_enum, ↓sr_zip, ↓sr_rev, ↓ss_nil, ↓ss_cons, ↓ss_frz, ↓st_set, ↓st_unp, ↓st_aug, ↓st_expr, ↓st_doc, ↓st_ret, ↓st_retN, ↓st_ite, ↓st_for, ↓st_wl, ↓st_brk, ↓st_cont, ↓st_pass, ↓st_rai, ↓st_tri, ↓st_mut, ↓st_smu, ↓st_sfl, ↓st_ist, lk0, lkS, okL_some, bnd_k, bnd_exc, lift_ok, lift_exc, sq_next, sq_ret, sq_brk, sq_cont, sq_exc, rd2_gen, rd1_t, onB_t, onT2_t, onT1_t, onO_some, onO_none, okq_some, rd_t, cmpThen_b, newW_l, newW_d, frzW_t, frzW_l, allR_b, intW_i, seqW_s, seqW_lst, seqW_ro, seqW_tup, seqW_rt, elR_ok, tsR_b, tg_nm, tg_tp, go_nil, go_cons, unp_tup, unp_rt, unp_lst, unp_ro, tgu_tp, flL_t, ct_eq, wipeO_nil, wipeO_cons, List.map_cons, List.map_nil, fldR_ins, lku_hit, lku_miss, put_nil, put_hit, put_miss, sflR_0, mkEnd_ok, mkEnd_exc, ty_non, ty_bl, ty_int, ty_str, ty_lst, ty_tup, ty_dct, ty_ins, ty_exc, kr_t, kr_f, kitsP_nil, kitsP_cons, take_app, take_appk, take_appL, List.take_succ_cons, List.take_zero, List.take_nil, List.take_length_add_append, rep0, rep1, rep2, cq_nil, List.append_nil, seqW_loc, seqO_l, tri_next, tri_ret, tri_brk, tri_cont, tri_exc, frzE_eq, frzR_l, stE_0, stE_S, frzR_t, mutR_l, isLst_l, ma_app, ma_pop, ma_ins, ma_rev, ma_ext, mu_app, mu_ext, mu_pop, mu_rev, istR_l, get_app0, get_appk, get_0, get_S, set_app0, set_appk, rd_loc, tr_lst, tr_ins, tr_dct, ix_nil, ix_cons, ix_map, atI_modI, atI_modS, atI_modL, b2_repL, cutD_eq, cutL_map, cutL_to, Option.getD_some, Nat.reduceEqDiff, inSeq_s, sx_nil, sx_cons, sx_map, sx_app, Option.isSome_some, Option.isSome_map, bls_map, bls_mapf, bx_nil, bx_cons, mty_s, mty_l, mty_ro, xm_strip, xm_countS, mo_joint, mo_stript, mo_startswitht, mo_endswitht, mo_countt, mo_splitt, mo_islowert, mo_countf, xm_sw, xm_ew, m_and, m_or, m_not, m_id, sq_ret_if, sq_exc_if, bf_lenS, bf_str, fmtW_s, fmtW_i, joinQ_s, isLstE_l, isLstO_l, popW_l, popO_l, xi_str, xl_str, Bool.false_eq_true, decide_eq_true_eq, Bool.decide_eq_true, Bool.decide_eq_false, decide_true, decide_false, Bool.true_and, Bool.false_and, Bool.and_true, Bool.and_false, Bool.true_or, Bool.false_or, Bool.or_true, Bool.or_false, lq_next, lq_cont, lq_brk, lq_ret, lq_exc, setE_ok, endF_ret, endF_next, endF_exc, leave_t, leave_0, at_nil, at_cons, rds_nil, rds_cons, Option.bind_some, List.take_length, List.length_cons, List.length_nil, set_c0, set_cS, Nat.reduceAdd, Nat.reduceLT, reduceIte, ↓reduceIte, Option.map_some, Nat.zero_lt_succ, Nat.add_one_pos, Nat.lt_add_left_iff_pos, List.getElem?_cons_zero, List.getElem?_cons_succ, if_true, if_false, Bool.not_true, Bool.not_false, Option.bind_some, b2_add, b2_sub, b2_mul, b2_fdiv, b2_mod, b2_pow, c2_lt, c2_le, c2_gt, c2_ge, c2_eq, c2_ne, eqv_int, eqv_str, eqv_bl, eqv_strs, eqv_strs0, c2_is, c2_isn, non_non, non_int, non_str, non_bl, non_lst, non_tup, non_ins, b2_addS, b2_addL, c2_memL, c2_memRo, c2_memT, c2_memRt, c2_nmemL, c2_nmemRo, c2_nmemT, c2_nmemRt, c2_memS, c2_memD, c2_nmemD, xi_dct, bf_lenL, bf_lenRo, bf_lenT, bf_lenRt, bf_list, bf_listD, bf_divmod, bf_max2, bf_min2, bf_all, bf_any, xl_lst, xl_ro, xi_lst, xi_ro, xi_tup, xi_rt, atI_lit, atI_m1, List.getLast?_concat, it_lst, it_ro, it_tup, it_rt, ls_lst, ls_ro, ist_lit, ist_m1, ↓e_b_is_word, ↓e_ties_stand_I0a, ↓e_ties_stand_I0, ↓e_ties_stand_F0b, ↓e_ties_stand_F0, ↓e_b_ties_stand, ↓e_items_fit_I0a, ↓e_items_fit_I0, ↓e_items_fit_I1a, ↓e_items_fit_I1, ↓e_items_fit_F0b, ↓e_items_fit_F0, ↓e_items_fit_C0, ↓e_items_fit_C1, ↓e_items_fit_I2a, ↓e_items_fit_I2, ↓e_b_items_fit, ↓e_rule_tells_C0, ↓e_b_rule_tells, ↓e_is_melt_C0, ↓e_is_melt_I0a, ↓e_is_melt_I0, ↓e_is_melt_C1, ↓e_b_is_melt, ↓e_is_title_I0a, ↓e_is_title_I0, ↓e_is_title_C0, ↓e_b_is_title, ↓e_are_turns_I0a, ↓e_are_turns_I0, ↓e_are_turns_F0b, ↓e_are_turns_F0, ↓e_b_are_turns, ↓e_rule_row_I0a, ↓e_rule_row_I0, ↓e_rule_row_C0, ↓e_b_rule_row, ↓e_tongue_text_C0, ↓e_tongue_text_C1, ↓e_tongue_text_C2, ↓e_tongue_text_F0b, ↓e_tongue_text_F0, ↓e_tongue_text_C3, ↓e_b_tongue_text, ↓e_l_begin_F0b, ↓e_l_begin_F0, ↓e_b_l_begin, ↓e_l_next_I0a, ↓e_l_next_I0, ↓e_b_l_next, ↓e_l_words_C0, ↓e_b_l_words, ↓e_b_l_melt, ↓e_l_melts_C0, ↓e_b_l_melts, ↓e_l_great_I0a, ↓e_l_great_I0, ↓e_b_l_great, ↓e_l_items_I0a, ↓e_l_items_I0, ↓e_l_items_F0b, ↓e_l_items_F0, ↓e_l_items_I1a, ↓e_l_items_I1, ↓e_l_items_W0b, ↓e_l_items_W0, ↓e_b_l_items, ↓e_l_rule_I0a, ↓e_l_rule_I0, ↓e_l_rule_I1a, ↓e_l_rule_I1, ↓e_l_rule_I2a, ↓e_l_rule_I2, ↓e_l_rule_I3a, ↓e_l_rule_I3, ↓e_l_rule_C0, ↓e_l_rule_I4a, ↓e_l_rule_I4, ↓e_b_l_rule, ↓e_l_kind_F0b, ↓e_l_kind_F0, ↓e_b_l_kind, ↓e_l_data_I0a, ↓e_l_data_I0, ↓e_l_data_F0b, ↓e_l_data_F0, ↓e_l_data_C0, ↓e_b_l_data, ↓e_l_tongue_C0, ↓e_l_tongue_C1, ↓e_b_l_tongue, ↓e_l_rule_row_I0a, ↓e_l_rule_row_I0, ↓e_l_rule_row_C0, ↓e_b_l_rule_row, ↓e_l_rows_C0, ↓e_l_rows_C1, ↓e_l_rows_C2, ↓e_l_rows_F0b, ↓e_l_rows_F0, ↓e_b_l_rows, ↓e_b_l_whole, ↓e_l_is_rule_C0, ↓e_l_is_rule_I0a, ↓e_l_is_rule_I0, ↓e_b_l_is_rule, ↓e_l_is_tongue_I0a, ↓e_l_is_tongue_I0, ↓e_l_is_tongue_I1a, ↓e_l_is_tongue_I1, ↓e_l_is_tongue_C0, ↓e_l_is_tongue_I2a, ↓e_l_is_tongue_I2, ↓e_l_is_tongue_I3a, ↓e_l_is_tongue_I3, ↓e_l_is_tongue_F0b, ↓e_l_is_tongue_F0, ↓e_b_l_is_tongue, ↓e_law_C0, ↓e_law_I0a, ↓e_law_I0, ↓e_law_F1b, ↓e_law_F1, ↓e_law_I1a, ↓e_law_I1, ↓e_law_F0b, ↓e_law_F0, ↓e_b_law, ↓e_Rule_init_I0a, ↓e_Rule_init_I0, ↓e_Rule_init_I1a, ↓e_Rule_init_I1, ↓e_Rule_init_I2a, ↓e_Rule_init_I2, ↓e_b_Rule_init, ↓e_Tongue_init_I0a, ↓e_Tongue_init_I0, ↓e_Tongue_init_C0, ↓e_Tongue_init_I1a, ↓e_Tongue_init_I1, ↓e_Tongue_init_C1, ↓e_Tongue_init_I2a, ↓e_Tongue_init_I2, ↓e_b_Tongue_init, ↓e_Kind_init_I0a, ↓e_Kind_init_I0, ↓e_b_Kind_init, ↓gc_0, ↓gc_1, ↓gc_2, ↓gc_3, ↓gc_4, gk_0, gk_1, gk_2, gk_3, gk_4, gk_5, gk_6, gn_0, gn_1, gn_2, gn_3, gn_4, gn_5, gn_6, gn_7, gn_8, gn_9, gn_10, gn_11, gn_12, gi_6, gi_7, gi_8, $xs,*])
local macro_rules
  | `(tactic| dsimp!) => `(tactic| simp (decide := true) only [↓ev_var, ↓ev_int, ↓ev_str, ↓ev_bl, ↓ev_non, ↓ev_bin, ↓ev_neg, ↓ev_cmp, ↓ev_ch2, ↓ev_ch3, ↓ev_bop, ↓bop_one, ↓bop_and, ↓bop_or, ↓ev_not, ↓ev_ife, ↓ev_lst, ↓ev_tup, ↓ev_dct0, ↓ev_call, ↓ev_mk, ↓ev_bfn, ↓ev_mth, ↓ev_ix, ↓ev_sl, ↓ev_fld2, ↓ev_isi, ↓ev_isis, ↓ev_cmpr, ↓ev_orl, or_non, or_nil, or_cons, ↓ev_lens, lens_nil, ↓ev_fmt, ↓ev_fstr, ↓ev_popx, ↓js_nil, ↓js_cons, ↓ev_new, ↓ev_frz, ↓es_nil, ↓es_cons, ↓all_nil, ↓all_cons, ↓eo_no, ↓eo_so, ↓sr_seq, ↓sr_rng, ↓sr_enum, ↓sr_zip, ↓sr_rev, ↓ss_nil, ↓ss_cons, ↓ss_frz, ↓st_set, ↓st_unp, ↓st_aug, ↓st_expr, ↓st_doc, ↓st_ret, ↓st_retN, ↓st_ite, ↓st_for, ↓st_wl, ↓st_brk, ↓st_cont, ↓st_pass, ↓st_rai, ↓st_tri, ↓st_mut, ↓st_smu, ↓st_sfl, ↓st_ist, lk0, lkS, okL_some, bnd_k, bnd_exc, lift_ok, lift_exc, sq_next, sq_ret, sq_brk, sq_cont, sq_exc, rd2_gen, rd1_t, onB_t, onT2_t, onT1_t, onO_some, onO_none, okq_some, rd_t, cmpThen_b, newW_l, newW_d, frzW_t, frzW_l, allR_b, intW_i, seqW_s, seqW_lst, seqW_ro, seqW_tup, seqW_rt, elR_ok, tsR_b, tg_nm, tg_tp, go_nil, go_cons, unp_tup, unp_rt, unp_lst, unp_ro, tgu_tp, flL_t, ct_eq, wipeO_nil, wipeO_cons, List.map_cons, List.map_nil, fldR_ins, lku_hit, lku_miss, put_nil, put_hit, put_miss, sflR_0, mkEnd_ok, mkEnd_exc, ty_non, ty_bl, ty_int, ty_str, ty_lst, ty_tup, ty_dct, ty_ins, ty_exc, kr_t, kr_f, kitsP_nil, kitsP_cons, take_app, take_appk, take_appL, List.take_succ_cons, List.take_zero, List.take_nil, List.take_length_add_append, rep0, rep1, rep2, cq_nil, List.append_nil, seqW_loc, seqO_l, tri_next, tri_ret, tri_brk, tri_cont, tri_exc, frzE_eq, frzR_l, stE_0, stE_S, frzR_t, mutR_l, isLst_l, ma_app, ma_pop, ma_ins, ma_rev, ma_ext, mu_app, mu_ext, mu_pop, mu_rev, istR_l, get_app0, get_appk, get_0, get_S, set_app0, set_appk, rd_loc, tr_lst, tr_ins, tr_dct, ix_nil, ix_cons, ix_map, atI_modI, atI_modS, atI_modL, b2_repL, cutD_eq, cutL_map, cutL_to, Option.getD_some, Nat.reduceEqDiff, inSeq_s, sx_nil, sx_cons, sx_map, sx_app, Option.isSome_some, Option.isSome_map, bls_map, bls_mapf, bx_nil, bx_cons, mty_s, mty_l, mty_ro, xm_strip, xm_countS, mo_joint, mo_stript, mo_startswitht, mo_endswitht, mo_countt, mo_splitt, mo_islowert, mo_countf, xm_sw, xm_ew, m_and, m_or, m_not, m_id, sq_ret_if, sq_exc_if, bf_lenS, bf_str, fmtW_s, fmtW_i, joinQ_s, isLstE_l, isLstO_l, popW_l, popO_l, xi_str, xl_str, Bool.false_eq_true, decide_eq_true_eq, Bool.decide_eq_true, Bool.decide_eq_false, decide_true, decide_false, Bool.true_and, Bool.false_and, Bool.and_true, Bool.and_false, Bool.true_or, Bool.false_or, Bool.or_true, Bool.or_false, lq_next, lq_cont, lq_brk, lq_ret, lq_exc, setE_ok, endF_ret, endF_next, endF_exc, leave_t, leave_0, at_nil, at_cons, rds_nil, rds_cons, Option.bind_some, List.take_length, List.length_cons, List.length_nil, set_c0, set_cS, Nat.reduceAdd, Nat.reduceLT, reduceIte, ↓reduceIte, Option.map_some, Nat.zero_lt_succ, Nat.add_one_pos, Nat.lt_add_left_iff_pos, List.getElem?_cons_zero, List.getElem?_cons_succ, if_true, if_false, Bool.not_true, Bool.not_false, Option.bind_some, b2_add, b2_sub, b2_mul, b2_fdiv, b2_mod, b2_pow, c2_lt, c2_le, c2_gt, c2_ge, c2_eq, c2_ne, eqv_int, eqv_str, eqv_bl, eqv_strs, eqv_strs0, c2_is, c2_isn, non_non, non_int, non_str, non_bl, non_lst, non_tup, non_ins, b2_addS, b2_addL, c2_memL, c2_memRo, c2_memT, c2_memRt, c2_nmemL, c2_nmemRo, c2_nmemT, c2_nmemRt, c2_memS, c2_memD, c2_nmemD, xi_dct, bf_lenL, bf_lenRo, bf_lenT, bf_lenRt, bf_list, bf_listD, bf_divmod, bf_max2, bf_min2, bf_all, bf_any, xl_lst, xl_ro, xi_lst, xi_ro, xi_tup, xi_rt, atI_lit, atI_m1, List.getLast?_concat, it_lst, it_ro, it_tup, it_rt, ls_lst, ls_ro, ist_lit, ist_m1, ↓e_b_is_word, ↓e_ties_stand_I0a, ↓e_ties_stand_I0, ↓e_ties_stand_F0b, ↓e_ties_stand_F0, ↓e_b_ties_stand, ↓e_items_fit_I0a, ↓e_items_fit_I0, ↓e_items_fit_I1a, ↓e_items_fit_I1, ↓e_items_fit_F0b, ↓e_items_fit_F0, ↓e_items_fit_C0, ↓e_items_fit_C1, ↓e_items_fit_I2a, ↓e_items_fit_I2, ↓e_b_items_fit, ↓e_rule_tells_C0, ↓e_b_rule_tells, ↓e_is_melt_C0, ↓e_is_melt_I0a, ↓e_is_melt_I0, ↓e_is_melt_C1, ↓e_b_is_melt, ↓e_is_title_I0a, ↓e_is_title_I0, ↓e_is_title_C0, ↓e_b_is_title, ↓e_are_turns_I0a, ↓e_are_turns_I0, ↓e_are_turns_F0b, ↓e_are_turns_F0, ↓e_b_are_turns, ↓e_rule_row_I0a, ↓e_rule_row_I0, ↓e_rule_row_C0, ↓e_b_rule_row, ↓e_tongue_text_C0, ↓e_tongue_text_C1, ↓e_tongue_text_C2, ↓e_tongue_text_F0b, ↓e_tongue_text_F0, ↓e_tongue_text_C3, ↓e_b_tongue_text, ↓e_l_begin_F0b, ↓e_l_begin_F0, ↓e_b_l_begin, ↓e_l_next_I0a, ↓e_l_next_I0, ↓e_b_l_next, ↓e_l_words_C0, ↓e_b_l_words, ↓e_b_l_melt, ↓e_l_melts_C0, ↓e_b_l_melts, ↓e_l_great_I0a, ↓e_l_great_I0, ↓e_b_l_great, ↓e_l_items_I0a, ↓e_l_items_I0, ↓e_l_items_F0b, ↓e_l_items_F0, ↓e_l_items_I1a, ↓e_l_items_I1, ↓e_l_items_W0b, ↓e_l_items_W0, ↓e_b_l_items, ↓e_l_rule_I0a, ↓e_l_rule_I0, ↓e_l_rule_I1a, ↓e_l_rule_I1, ↓e_l_rule_I2a, ↓e_l_rule_I2, ↓e_l_rule_I3a, ↓e_l_rule_I3, ↓e_l_rule_C0, ↓e_l_rule_I4a, ↓e_l_rule_I4, ↓e_b_l_rule, ↓e_l_kind_F0b, ↓e_l_kind_F0, ↓e_b_l_kind, ↓e_l_data_I0a, ↓e_l_data_I0, ↓e_l_data_F0b, ↓e_l_data_F0, ↓e_l_data_C0, ↓e_b_l_data, ↓e_l_tongue_C0, ↓e_l_tongue_C1, ↓e_b_l_tongue, ↓e_l_rule_row_I0a, ↓e_l_rule_row_I0, ↓e_l_rule_row_C0, ↓e_b_l_rule_row, ↓e_l_rows_C0, ↓e_l_rows_C1, ↓e_l_rows_C2, ↓e_l_rows_F0b, ↓e_l_rows_F0, ↓e_b_l_rows, ↓e_b_l_whole, ↓e_l_is_rule_C0, ↓e_l_is_rule_I0a, ↓e_l_is_rule_I0, ↓e_b_l_is_rule, ↓e_l_is_tongue_I0a, ↓e_l_is_tongue_I0, ↓e_l_is_tongue_I1a, ↓e_l_is_tongue_I1, ↓e_l_is_tongue_C0, ↓e_l_is_tongue_I2a, ↓e_l_is_tongue_I2, ↓e_l_is_tongue_I3a, ↓e_l_is_tongue_I3, ↓e_l_is_tongue_F0b, ↓e_l_is_tongue_F0, ↓e_b_l_is_tongue, ↓e_law_C0, ↓e_law_I0a, ↓e_law_I0, ↓e_law_F1b, ↓e_law_F1, ↓e_law_I1a, ↓e_law_I1, ↓e_law_F0b, ↓e_law_F0, ↓e_b_law, ↓e_Rule_init_I0a, ↓e_Rule_init_I0, ↓e_Rule_init_I1a, ↓e_Rule_init_I1, ↓e_Rule_init_I2a, ↓e_Rule_init_I2, ↓e_b_Rule_init, ↓e_Tongue_init_I0a, ↓e_Tongue_init_I0, ↓e_Tongue_init_C0, ↓e_Tongue_init_I1a, ↓e_Tongue_init_I1, ↓e_Tongue_init_C1, ↓e_Tongue_init_I2a, ↓e_Tongue_init_I2, ↓e_b_Tongue_init, ↓e_Kind_init_I0a, ↓e_Kind_init_I0, ↓e_b_Kind_init, ↓gc_0, ↓gc_1, ↓gc_2, ↓gc_3, ↓gc_4, gk_0, gk_1, gk_2, gk_3, gk_4, gk_5, gk_6, gn_0, gn_1, gn_2, gn_3, gn_4, gn_5, gn_6, gn_7, gn_8, gn_9, gn_10, gn_11, gn_12, gi_6, gi_7, gi_8])
theorem p_is_word (n : Nat) (x : Str) (h : x.length ≤ sizeLine) (S : Store) : Tn G fs (n+1) 0 [.t (.str x)] S = .ok (.t (.bl (isWord x))) S := by
  rw [t_is_word]
  have : Ls x 16777216 := ⟨h⟩
  push_cast
  simp only [isWord, Bool.and_true, strip_small, Bool.decide_eq_true, Bool.and_assoc]
/-- no tie at the begin, none behind another one -/
def tsG : Str → List Str → Option Str
  | a, [] => some a
  | a, x :: r => if x = "+" ∧ a = "+" then none else tsG x r
theorem tsG_app : ∀ (xs ys : List Str) (a : Str), tsG a (xs ++ ys) = (tsG a xs).bind fun b => tsG b ys
  | [], ys, a => rfl
  | x :: xs, ys, a => by
    simp only [List.cons_append, tsG]
    split
    · rfl
    · exact tsG_app xs ys x
def tiesStand (xs : List Str) : Bool := match tsG "+" xs with | none => false | some a => decide (a ≠ "+")
theorem ties_loop {n : Nat} {S : Store} {w : Option W} (xs : List Str) (a : Str) (j : Option W) : ∃ j', ∀ p, fl (Tn G fs n) G (.nm 2 p) ties_stand_F0b (xs.map .str) [w, some (.t (.str a)), j] S = match tsG a xs with | some a' => .next [w, some (.t (.str a')), j'] S | none => .ret (.t (.bl false)) S := by
  induction xs generalizing a j with
  | nil => exact ⟨j, fun _ => rfl⟩
  | cons x r ih =>
    obtain ⟨j', ih⟩ := ih x (some (.t (.str x)))
    refine ⟨j', fun p => ?_⟩
    push_cast [List.map_cons, fl_cons, tsG]
    by_cases h : x = "+"
    · subst h; by_cases k : a = "+" <;> simp! [k, ih]
    · simp! [h, ih]
theorem p_ties_stand (n : Nat) (xs : List Str) (S : Store) (u : W) (hu : IsL S u (xs.map .str)) : Tn G fs (n+1) 1 [u] S = .ok (.t (.bl (tiesStand xs))) S := by
  rw [t_ties_stand]
  push_cast [seqW_isl hu]
  rw [flL_isl (fun ρ => ∃ (a : Str) (j : Option W), ρ = [some u, some (.t (.str a)), j]) hu ⟨_, _, rfl⟩ ?_]
  · obtain ⟨j', h⟩ := ties_loop (n := n) (S := S) (w := some u) xs "+" none
    simp only [h, tiesStand]
    cases tsG "+" xs <;> simp!
  · rintro d hd _ ⟨a, j, rfl⟩ ρ1 h1
    obtain ⟨x, _, rfl⟩ := List.mem_map.mp hd
    simp (decide := true) only [lk0, lkS, okL_some, bnd_k, bnd_exc, lift_ok, lift_exc, sq_next, sq_ret, sq_brk, sq_cont, sq_exc, rd2_gen, rd1_t, onB_t, onT2_t, onT1_t, onO_some, onO_none, okq_some, rd_t, cmpThen_b, newW_l, newW_d, frzW_t, frzW_l, allR_b, intW_i, seqW_s, seqW_lst, seqW_ro, seqW_tup, seqW_rt, elR_ok, tsR_b, tg_nm, tg_tp, go_nil, go_cons, unp_tup, unp_rt, unp_lst, unp_ro, tgu_tp, flL_t, ct_eq, wipeO_nil, wipeO_cons, List.map_cons, List.map_nil, fldR_ins, lku_hit, lku_miss, put_nil, put_hit, put_miss, sflR_0, mkEnd_ok, mkEnd_exc, ty_non, ty_bl, ty_int, ty_str, ty_lst, ty_tup, ty_dct, ty_ins, ty_exc, kr_t, kr_f, kitsP_nil, kitsP_cons, take_app, take_appk, take_appL, List.take_succ_cons, List.take_zero, List.take_nil, List.take_length_add_append, rep0, rep1, rep2, cq_nil, List.append_nil, seqW_loc, seqO_l, tri_next, tri_ret, tri_brk, tri_cont, tri_exc, frzE_eq, frzR_l, stE_0, stE_S, frzR_t, mutR_l, isLst_l, ma_app, ma_pop, ma_ins, ma_rev, ma_ext, mu_app, mu_ext, mu_pop, mu_rev, istR_l, get_app0, get_appk, get_0, get_S, set_app0, set_appk, rd_loc, tr_lst, tr_ins, tr_dct, ix_nil, ix_cons, ix_map, atI_modI, atI_modS, atI_modL, b2_repL, cutD_eq, cutL_map, cutL_to, Option.getD_some, Nat.reduceEqDiff, inSeq_s, sx_nil, sx_cons, sx_map, sx_app, Option.isSome_some, Option.isSome_map, bls_map, bls_mapf, bx_nil, bx_cons, mty_s, mty_l, mty_ro, xm_strip, xm_countS, mo_joint, mo_stript, mo_startswitht, mo_endswitht, mo_countt, mo_splitt, mo_islowert, mo_countf, xm_sw, xm_ew, m_and, m_or, m_not, m_id, sq_ret_if, sq_exc_if, bf_lenS, bf_str, fmtW_s, fmtW_i, joinQ_s, isLstE_l, isLstO_l, popW_l, popO_l, xi_str, xl_str, Bool.false_eq_true, decide_eq_true_eq, Bool.decide_eq_true, Bool.decide_eq_false, decide_true, decide_false, Bool.true_and, Bool.false_and, Bool.and_true, Bool.and_false, Bool.true_or, Bool.false_or, Bool.or_true, Bool.or_false, lq_next, lq_cont, lq_brk, lq_ret, lq_exc, setE_ok, endF_ret, endF_next, endF_exc, leave_t, leave_0, at_nil, at_cons, rds_nil, rds_cons, Option.bind_some, List.take_length, List.length_cons, List.length_nil, set_c0, set_cS, Nat.reduceAdd, Nat.reduceLT, reduceIte, ↓reduceIte, Option.map_some, Nat.zero_lt_succ, Nat.add_one_pos, Nat.lt_add_left_iff_pos, List.getElem?_cons_zero, List.getElem?_cons_succ, if_true, if_false, Bool.not_true, Bool.not_false, Option.bind_some, b2_add, b2_sub, b2_mul, b2_fdiv, b2_mod, b2_pow, c2_lt, c2_le, c2_gt, c2_ge, c2_eq, c2_ne, eqv_int, eqv_str, eqv_bl, eqv_strs, eqv_strs0, c2_is, c2_isn, non_non, non_int, non_str, non_bl, non_lst, non_tup, non_ins, b2_addS, b2_addL, c2_memL, c2_memRo, c2_memT, c2_memRt, c2_nmemL, c2_nmemRo, c2_nmemT, c2_nmemRt, c2_memS, c2_memD, c2_nmemD, xi_dct, bf_lenL, bf_lenRo, bf_lenT, bf_lenRt, bf_list, bf_listD, bf_divmod, bf_max2, bf_min2, bf_all, bf_any, xl_lst, xl_ro, xi_lst, xi_ro, xi_tup, xi_rt, atI_lit, atI_m1, List.getLast?_concat, it_lst, it_ro, it_tup, it_rt, ls_lst, ls_ro, ist_lit, ist_m1, Option.some.injEq] at h1
    subst h1
    push_cast
    split <;> simp! [Kps]
/-- a rule's items -/
def SIGNS : List Str := ["Q", "N", "W", "U", "R", "K"]
def okItem (x : Str) : Bool := decide (x = "+") || decide (x ∈ SIGNS) || isWord x
def itemsFit (xs : List Str) : Bool := decide ((1 : Int) ≤ xs.length) && decide ((xs.length : Int) ≤ 8) && xs.all okItem && xs.any isWord && SIGNS.all (fun s => decide (xs.count s ≤ 1)) && tiesStand xs
theorem fit_loop {n : Nat} {S : Store} {w w2 w3 : Option W} (xs : List Str) (hx : ∀ x ∈ xs, x.length ≤ sizeLine) (j : Option W) : ∃ j', ∀ p, fl (Tn G fs (n+1)) G (.nm 1 p) items_fit_F0b (xs.map .str) [w, j, w2, w3] S = if xs.all okItem = true then .next [w, j', w2, w3] S else .ret (.t (.bl false)) S := by
  induction xs generalizing j with
  | nil => exact ⟨j, fun _ => rfl⟩
  | cons x r ih =>
    obtain ⟨j', ih⟩ := ih (fun y hy => hx y (List.mem_cons_of_mem _ hy)) (some (.t (.str x)))
    refine ⟨j', fun p => ?_⟩
    have hl := hx x List.mem_cons_self
    push_cast [List.map_cons, fl_cons, p_is_word, hl, ih]
    have e : (!decide (x = "+") && (!decide (x ∈ (["Q", "N", "W", "U", "R", "K"] : List Str)) && !isWord x)) = !okItem x := by
      simp only [okItem, SIGNS, Bool.and_true, Bool.not_or, Bool.and_assoc]
      rfl
    rw [e, List.all_cons]
    cases okItem x <;> simp! [ih]
theorem p_items_fit (n : Nat) (xs : List Str) (hx : ∀ x ∈ xs, x.length ≤ sizeLine) (hl : xs.length ≤ sizeLine) (S : Store) (u : W) (hu : IsL S u (xs.map .str)) : Tn G fs (n+2) 2 [u] S = .ok (.t (.bl (itemsFit xs))) S := by
  rw [t_items_fit]
  push_cast [List.length_map, rd_isl hu, seqW_isl hu]
  rw [flL_isl (fun ρ => ∃ (j : Option W), ρ = [some u, j, none, none]) hu ⟨_, rfl⟩ ?_]
  rotate_left
  · rintro d hd _ ⟨j, rfl⟩ ρ1 h1
    obtain ⟨x, hm, rfl⟩ := List.mem_map.mp hd
    simp (decide := true) only [lk0, lkS, okL_some, bnd_k, bnd_exc, lift_ok, lift_exc, sq_next, sq_ret, sq_brk, sq_cont, sq_exc, rd2_gen, rd1_t, onB_t, onT2_t, onT1_t, onO_some, onO_none, okq_some, rd_t, cmpThen_b, newW_l, newW_d, frzW_t, frzW_l, allR_b, intW_i, seqW_s, seqW_lst, seqW_ro, seqW_tup, seqW_rt, elR_ok, tsR_b, tg_nm, tg_tp, go_nil, go_cons, unp_tup, unp_rt, unp_lst, unp_ro, tgu_tp, flL_t, ct_eq, wipeO_nil, wipeO_cons, List.map_cons, List.map_nil, fldR_ins, lku_hit, lku_miss, put_nil, put_hit, put_miss, sflR_0, mkEnd_ok, mkEnd_exc, ty_non, ty_bl, ty_int, ty_str, ty_lst, ty_tup, ty_dct, ty_ins, ty_exc, kr_t, kr_f, kitsP_nil, kitsP_cons, take_app, take_appk, take_appL, List.take_succ_cons, List.take_zero, List.take_nil, List.take_length_add_append, rep0, rep1, rep2, cq_nil, List.append_nil, seqW_loc, seqO_l, tri_next, tri_ret, tri_brk, tri_cont, tri_exc, frzE_eq, frzR_l, stE_0, stE_S, frzR_t, mutR_l, isLst_l, ma_app, ma_pop, ma_ins, ma_rev, ma_ext, mu_app, mu_ext, mu_pop, mu_rev, istR_l, get_app0, get_appk, get_0, get_S, set_app0, set_appk, rd_loc, tr_lst, tr_ins, tr_dct, ix_nil, ix_cons, ix_map, atI_modI, atI_modS, atI_modL, b2_repL, cutD_eq, cutL_map, cutL_to, Option.getD_some, Nat.reduceEqDiff, inSeq_s, sx_nil, sx_cons, sx_map, sx_app, Option.isSome_some, Option.isSome_map, bls_map, bls_mapf, bx_nil, bx_cons, mty_s, mty_l, mty_ro, xm_strip, xm_countS, mo_joint, mo_stript, mo_startswitht, mo_endswitht, mo_countt, mo_splitt, mo_islowert, mo_countf, xm_sw, xm_ew, m_and, m_or, m_not, m_id, sq_ret_if, sq_exc_if, bf_lenS, bf_str, fmtW_s, fmtW_i, joinQ_s, isLstE_l, isLstO_l, popW_l, popO_l, xi_str, xl_str, Bool.false_eq_true, decide_eq_true_eq, Bool.decide_eq_true, Bool.decide_eq_false, decide_true, decide_false, Bool.true_and, Bool.false_and, Bool.and_true, Bool.and_false, Bool.true_or, Bool.false_or, Bool.or_true, Bool.or_false, lq_next, lq_cont, lq_brk, lq_ret, lq_exc, setE_ok, endF_ret, endF_next, endF_exc, leave_t, leave_0, at_nil, at_cons, rds_nil, rds_cons, Option.bind_some, List.take_length, List.length_cons, List.length_nil, set_c0, set_cS, Nat.reduceAdd, Nat.reduceLT, reduceIte, ↓reduceIte, Option.map_some, Nat.zero_lt_succ, Nat.add_one_pos, Nat.lt_add_left_iff_pos, List.getElem?_cons_zero, List.getElem?_cons_succ, if_true, if_false, Bool.not_true, Bool.not_false, Option.bind_some, b2_add, b2_sub, b2_mul, b2_fdiv, b2_mod, b2_pow, c2_lt, c2_le, c2_gt, c2_ge, c2_eq, c2_ne, eqv_int, eqv_str, eqv_bl, eqv_strs, eqv_strs0, c2_is, c2_isn, non_non, non_int, non_str, non_bl, non_lst, non_tup, non_ins, b2_addS, b2_addL, c2_memL, c2_memRo, c2_memT, c2_memRt, c2_nmemL, c2_nmemRo, c2_nmemT, c2_nmemRt, c2_memS, c2_memD, c2_nmemD, xi_dct, bf_lenL, bf_lenRo, bf_lenT, bf_lenRt, bf_list, bf_listD, bf_divmod, bf_max2, bf_min2, bf_all, bf_any, xl_lst, xl_ro, xi_lst, xi_ro, xi_tup, xi_rt, atI_lit, atI_m1, List.getLast?_concat, it_lst, it_ro, it_tup, it_rt, ls_lst, ls_ro, ist_lit, ist_m1, Option.some.injEq] at h1
    subst h1
    push_cast [p_is_word, hx x hm]
    split <;> simp! [Kps]
  obtain ⟨j', h⟩ := fit_loop (n := n) (S := S) (w := some u) (w2 := none) (w3 := none) xs hx none
  simp only [h, itemsFit]
  cases h1 : decide ((1 : Int) ≤ xs.length) && decide ((xs.length : Int) ≤ 8)
  · simp!
  cases h2 : xs.all okItem
  · simp!
  push_cast [seqW_isl hu]
  rw [cq_isl xs D.str (fun x => D.bl (isWord x)) hu ?_ hl]
  push_cast
  rw [show [D.str "Q", D.str "N", D.str "W", D.str "U", D.str "R", D.str "K"] = SIGNS.map D.str from rfl, cq_map SIGNS D.str (fun s => D.bl (decide (1 < (xs.count s : Int)))) ?_ (by decide)]
  push_cast [p_ties_stand _ xs S u hu]
  · have e1 : (List.map isWord xs).any id = xs.any isWord := by rw [List.any_map]; rfl
    have e2 : (List.map (fun a => decide (1 < (List.count a xs : Int))) SIGNS).any id = !SIGNS.all fun s => decide (List.count s xs ≤ 1) := by
      rw [List.any_map, List.not_all_eq_any_not]
      congr 1
      funext a
      by_cases q : List.count a xs ≤ 1 <;> simp [q] <;> omega
    rw [e1, e2]
    cases xs.any isWord <;> cases (SIGNS.all fun s => decide (List.count s xs ≤ 1)) <;> simp!
  · intro s _ acc
    push_cast [rd_isl (hu.app), mty_isl (hu.app)]
  · intro x h3 acc
    push_cast [p_is_word, hx x h3]
/-! ### rules -/
structure Nums where
  low : Int
  high : Int
  base : Int
  first : Int
  last : Int
def insR (q : Nums) (xs : List Str) : List (Nat × D) := [(3, .int q.low), (5, .int q.high), (4, .int q.base), (0, .int q.first), (1, .int q.last), (2, .lst (xs.map .str))]
def numsOk (q : Nums) : Bool := decide (0 ≤ q.low) && decide (q.low ≤ q.high) && decide (2 ≤ q.base) && decide (0 ≤ q.first) && decide (q.first ≤ q.last) && decide (q.last < q.base)
def tells (q : Nums) (xs : List Str) : Bool := (decide (q.first = q.last) || decide (("R" : Str) ∈ xs) || decide (("K" : Str) ∈ xs)) && (decide (q.low / q.base = q.high / q.base) || (["Q", "N", "W", "U"] : List Str).any fun s => decide (s ∈ xs))
def ruleOk (q : Nums) (xs : List Str) : Bool := numsOk q && itemsFit xs && tells q xs
theorem p_rule_tells (n : Nat) (q : Nums) (xs : List Str) (hb : 2 ≤ q.base) {m : Nat} [Bd q.base m] (hm : Nat.blt m 9000 = true) (S : Store) : Tn G fs (n+1) 3 [.loc S.length] (S ++ [some (.ins 6 (insR q xs))]) = .ok (.t (.bl (tells q xs))) (S ++ [some (.ins 6 (insR q xs))]) := by
  have : Ps q.base := ⟨by omega⟩
  rw [t_rule_tells]
  push_cast [insR, hm]
  generalize hS : S ++ [some (Ob.ins 6 [(3, .int q.low), (5, .int q.high), (4, .int q.base), (0, .int q.first), (1, .int q.last), (2, .lst (xs.map .str))])] = S1
  rw [show [D.str "Q", D.str "N", D.str "W", D.str "U"] = (["Q", "N", "W", "U"] : List Str).map D.str from rfl, cq_map (["Q", "N", "W", "U"] : List Str) D.str (fun s => D.bl (decide (s ∈ xs))) ?_ (by decide)]
  · push_cast [tells, Bool.and_true, Bool.or_false, List.any_cons, List.any_nil, id, Bool.or_assoc]
  · intro s _ acc
    subst hS
    push_cast [List.append_assoc, List.cons_append, List.nil_append]
theorem p_Rule_init (n : Nat) (q : Nums) (xs : List Str) {m : Nat} [Bd q.base m] (hm : Nat.blt m 9000 = true) (hx : ∀ x ∈ xs, x.length ≤ sizeLine) (hl : xs.length ≤ sizeLine) (S : Store) (u : W) (hu : IsL S u (xs.map .str)) :
    Tn G fs (n+3) 26 [.loc S.length, .t (.int q.low), .t (.int q.high), .t (.int q.base), .t (.int q.first), .t (.int q.last), u] (S ++ [some (.ins 6 [])]) =
      if ruleOk q xs = true then .ok (.t .non) (S ++ [some (.ins 6 (insR q xs))]) else .exc 1 (S ++ [some (.ins 6 (if numsOk q && itemsFit xs then insR q xs else []))]) := by
  rw [t_Rule_init]
  push_cast
  have e : (!(decide (0 ≤ q.low) && decide (q.low ≤ q.high)) || (decide (q.base < 2) || !(decide (0 ≤ q.first) && (decide (q.first ≤ q.last) && decide (q.last < q.base))))) = !numsOk q := by
    have : decide (q.base < 2) = !decide (2 ≤ q.base) := by by_cases h : 2 ≤ q.base <;> simp [h] <;> omega
    simp only [numsOk, Bool.and_true, this, Bool.not_and, Bool.or_assoc, Bool.not_not]
  rw [e]
  unfold ruleOk
  cases h1 : numsOk q
  · simp!
  have hb : 2 ≤ q.base := by
    simp only [numsOk, Bool.and_eq_true, decide_eq_true_eq] at h1
    exact h1.1.1.1.2
  push_cast [p_items_fit _ xs hx hl _ u hu.app, rd_isl hu.app]
  cases h2 : itemsFit xs
  · simp!
  have := p_rule_tells (n + 1) q xs hb hm S
  simp only [insR] at this
  push_cast [this]
  cases tells q xs <;> simp! [insR]
theorem p_mkRule (n : Nat) (q : Nums) (xs : List Str) {m : Nat} [Bd q.base m] (hm : Nat.blt m 9000 = true) (hx : ∀ x ∈ xs, x.length ≤ sizeLine) (hl : xs.length ≤ sizeLine) (S : Store) (u : W) (hu : IsL S u (xs.map .str)) :
    mkEnd 6 S.length (Tn G fs (n+3) 26 [.loc S.length, .t (.int q.low), .t (.int q.high), .t (.int q.base), .t (.int q.first), .t (.int q.last), u] (S ++ [some (.ins 6 [])])) =
      if ruleOk q xs = true then .ok (.t (.ins 6 (insR q xs))) S else .exc 1 S := by
  rw [p_Rule_init n q xs hm hx hl S u hu]
  split
  · rw [mkEnd_ok]
  · rw [mkEnd_exc]
/-! the cursor: how far the script has been drawn from, and the number there -/
def begF (cs : List Int) (a : Int) : Int := cs.foldl (fun n c => (n * 69621 + c % 2147483647 + 11) % 2147483647) a
def cellC (cs : List Int) (i : Nat) : Int := if cs = [] then 0 else pick 0 cs ((i : Int) % (cs.length : Int))
def bNum (cs : List Int) : Nat → Int
  | 0 => begF cs 7
  | i + 1 => (bNum cs i + cellC cs (i + 1) % 2147483647 + ((i : Int) + 1) * ((i : Int) + 1)) * 48271 % 2147483629
def AT (cs : List Int) (i : Nat) : Option Ob := some (.lst [.int i, .int (bNum cs i)])
def V (cs : List Int) (i : Nat) : Int := bNum cs i / 3
theorem begF_ok (cs : List Int) : ∀ a : Int, 0 ≤ a ∧ a < 2147483647 → 0 ≤ begF cs a ∧ begF cs a < 2147483647 := by
  induction cs with
  | nil => intro a h; exact h
  | cons c cs ih =>
    intro a h
    exact ih _ ⟨Int.emod_nonneg _ (by omega), Int.emod_lt_of_pos _ (by omega)⟩
theorem bNum_ok (cs : List Int) (i : Nat) : 0 ≤ bNum cs i ∧ bNum cs i < 2147483647 := by
  cases i with
  | zero => exact begF_ok cs 7 (by omega)
  | succ i =>
    have h1 : 0 ≤ bNum cs (i + 1) := Int.emod_nonneg _ (by omega)
    have h2 : bNum cs (i + 1) < 2147483629 := Int.emod_lt_of_pos _ (by omega)
    omega
instance {cs : List Int} {i : Nat} : Bd (bNum cs i) 31 := ⟨by have := bNum_ok cs i; omega⟩
instance {cs : List Int} {i : Nat} : Ng (bNum cs i) := ⟨(bNum_ok cs i).1⟩
theorem V_ok (cs : List Int) (i : Nat) : 0 ≤ V cs i ∧ V cs i < 715827883 := by
  have := bNum_ok cs i
  unfold V
  omega
instance {cs : List Int} {i : Nat} : Bd (V cs i) 30 := ⟨by have := V_ok cs i; omega⟩
instance {cs : List Int} {i : Nat} : Ng (V cs i) := ⟨(V_ok cs i).1⟩
class Cn (i : Nat) (k : outParam Nat) : Prop where h : i ≤ k
instance : Cn 0 0 := ⟨Nat.le_refl _⟩
instance {i k : Nat} [Cn i k] : Cn (i + 1) (k + 1) := ⟨Nat.succ_le_succ Cn.h⟩
theorem beg_loop {n : Nat} {S : Store} {w : Option W} (cs : List Int) (a : Int) (ha : 0 ≤ a ∧ a < 2147483647) (j : Option W) : ∃ j', ∀ p, fl (Tn G fs n) G (.nm 2 p) l_begin_F0b (cs.map .int) [w, some (.t (.int a)), j] S = .next [w, some (.t (.int (begF cs a))), j'] S := by
  induction cs generalizing a j with
  | nil => exact ⟨j, fun _ => rfl⟩
  | cons c r ih =>
    obtain ⟨j', ih⟩ := ih ((a * 69621 + c % 2147483647 + 11) % 2147483647) ⟨Int.emod_nonneg _ (by omega), Int.emod_lt_of_pos _ (by omega)⟩ (some (.t (.int c)))
    refine ⟨j', fun p => ?_⟩
    have : Bd a 31 := ⟨by omega⟩
    push_cast [List.map_cons, fl_cons, ih]
    rfl
theorem p_l_begin (n : Nat) (cs : List Int) : Tn G fs (n+1) 9 [.t (.ro (cs.map .int))] [] = .ok (.loc 0) [AT cs 0] := by
  rw [t_l_begin]
  push_cast
  obtain ⟨j', h⟩ := beg_loop (n := n) (S := []) (w := some (.t (.ro (cs.map .int)))) cs 7 (by omega) none
  push_cast [h]
  rfl
theorem p_l_next (n : Nat) (cs : List Int) (i : Nat) {k : Nat} [Cn i k] (hk : Nat.ble k 1000000 = true) (S : Store) : Tn G fs (n+1) 10 [.t (.ro (cs.map .int)), .loc 0] (AT cs i :: S) = .ok (.t (.int (V cs (i + 1)))) (AT cs (i + 1) :: S) := by
  rw [t_l_next]
  have hi : i ≤ 1000000 := Nat.le_trans Cn.h (Nat.le_of_ble_eq_true hk)
  have : Bd (i : Int) 20 := ⟨by omega⟩
  by_cases hc : cs = []
  · subst hc
    unfold AT
    push_cast
    simp only [V, bNum, cellC, if_true, Int.natCast_add, Int.natCast_one]
  · have hl : 0 < cs.length := List.length_pos_iff.mpr hc
    have : Ps (cs.length : Int) := ⟨by omega⟩
    have e : ∀ x : Int, atI (cs.map D.int) (x % (cs.length : Int)) = some (.int (pick 0 cs (x % (cs.length : Int)))) := fun x => by
      have h0 := Int.emod_nonneg x (show (cs.length : Int) ≠ 0 by omega)
      have h1 := Int.emod_lt_of_pos x (show (0 : Int) < cs.length by omega)
      rw [atI_pick (.int 0) h0 (by rw [List.length_map]; exact h1)]
      unfold pick
      rw [List.getD_eq_getElem?_getD, List.getD_eq_getElem?_getD, List.getElem?_map]
      have : (x % (cs.length : Int)).toNat < cs.length := by omega
      simp [this]
    unfold AT
    push_cast [List.length_map, e, show (0 : Int) < cs.length by omega]
    simp only [V, bNum, cellC, if_neg hc, Int.natCast_add, Int.natCast_one]
theorem atI_len {ws : List Str} (h : ws ≠ []) (x : Int) : atI (ws.map D.str) (x % (ws.length : Int)) = some (.str (pick Str.empty ws (x % (ws.length : Int)))) := by
  have hl : 0 < ws.length := List.length_pos_iff.mpr h
  have h0 := Int.emod_nonneg x (show (ws.length : Int) ≠ 0 by omega)
  have h1 := Int.emod_lt_of_pos x (show (0 : Int) < ws.length by omega)
  rw [atI_pick (.str Str.empty) h0 (by rw [List.length_map]; exact h1)]
  unfold pick
  rw [List.getD_eq_getElem?_getD, List.getD_eq_getElem?_getD, List.getElem?_map]
  have : (x % (ws.length : Int)).toNat < ws.length := by omega
  simp [this]
theorem pick_len {ws : List Str} (h : ws ≠ []) (x : Int) : pick Str.empty ws (x % (ws.length : Int)) ∈ ws := by
  have hl : 0 < ws.length := List.length_pos_iff.mpr h
  exact pick_mem (Int.emod_nonneg _ (by omega)) (Int.emod_lt_of_pos _ (by omega))
theorem pick26 (i : Int) : pick 0 (tl SMALL) (i % 26) ∈ tl SMALL := pick_mem (Int.emod_nonneg _ (by omega)) (by have := Int.emod_lt_of_pos i (show (0 : Int) < 26 by omega); exact this)
/-! words drawn by the cursor -/
theorem wordl {w : Str} (h : isWord w = true) : 2 ≤ (tl w).length ∧ (tl w).length ≤ 10 ∧ ∀ c ∈ tl w, c ∈ tl SMALL := by
  obtain ⟨h1, h2⟩ := isWord_len h
  rw [tl_len] at h1 h2
  refine ⟨h1, h2, fun c hc => ?_⟩
  unfold isWord at h
  simp only [Bool.and_eq_true, List.all_eq_true] at h
  have := h.2 c hc
  rwa [List.contains_eq_mem, decide_eq_true_eq] at this
theorem cutw_ok {st : Str} {z q c : Nat} (hz : (tl st).length = z) (hs : ∀ c ∈ tl st, c ∈ tl SMALL) (h2 : 2 ≤ z) (h10 : z ≤ 10) (hq : q < z) (hc : c ∈ tl SMALL) : isWord (cutS st none (some (q : Int)) ++ ⟨#[c]⟩ ++ cutS st (some ((q : Int) + 1)) none) = true := by
  have e : (q : Int) + 1 = ((q + 1 : Nat) : Int) := by omega
  apply isWord_of
  · simp only [tl_app, cutS_tl, cutL_to, e, cutL_from, tl_ch, List.length_append, List.length_take, List.length_drop, List.length_singleton, hz]; omega
  · simp only [tl_app, cutS_tl, cutL_to, e, cutL_from, tl_ch, List.length_append, List.length_take, List.length_drop, List.length_singleton, hz]; omega
  · intro d hd
    simp only [tl_app, cutS_tl, tl_ch, List.mem_append, List.mem_singleton] at hd
    rcases hd with (hd | rfl) | hd
    · exact hs d (cutL_mem hd)
    · exact hc
    · exact hs d (cutL_mem hd)
theorem repS_tl {x : Str} {k : Nat} : tl (repS x k) = (List.replicate k (tl x)).flatten := (rfl)
instance {x : Str} {k m : Nat} [Ls x m] : Ls (repS x k) (k * m) := ⟨by rw [repS_len]; exact Nat.mul_le_mul_left k Ls.h⟩
theorem stem_ok {a b z k : Nat} (ha : a ∈ tl SMALL) (hb : b ∈ tl SMALL) (hz : z ≤ 2 * k) : (tl (cutS (repS (⟨#[a]⟩ ++ ⟨#[b]⟩) k) none (some (z : Int)))).length = z ∧ ∀ c ∈ tl (cutS (repS (⟨#[a]⟩ ++ ⟨#[b]⟩) k) none (some (z : Int))), c ∈ tl SMALL := by
  constructor
  · rw [cutS_tl, cutL_to, List.length_take, ← tl_len, repS_len, len_append]
    have : (⟨#[a]⟩ : Str).length + (⟨#[b]⟩ : Str).length = 2 := rfl
    rw [this]; omega
  · intro c hc
    rw [cutS_tl] at hc
    have hc := cutL_mem hc
    rw [repS_tl, List.mem_flatten] at hc
    obtain ⟨l, hl, hc⟩ := hc
    have := (List.mem_replicate.mp hl).2
    subst this
    rw [tl_app, tl_ch, tl_ch] at hc
    simp only [List.cons_append, List.nil_append, List.mem_cons, List.not_mem_nil, or_false] at hc
    rcases hc with rfl | rfl
    · exact ha
    · exact hb
theorem p_l_words (n : Nat) (cs : List Int) (i m : Nat) (hi : i ≤ 5000) (hm : m ≤ 100) (S : Store) : ∃ ws : List Str, Tn G fs (n+2) 11 [.t (.ro (cs.map .int)), .loc 0, .t (.int m)] (AT cs i :: S) = .ok (.t (.lst (ws.map .str))) (AT cs (i + 1) :: S) ∧ ws.length = m ∧ ∀ w ∈ ws, isWord w = true := by
  rw [t_l_words]
  have : Cn i 5000 := ⟨hi⟩
  obtain ⟨z, hz, z1, z2⟩ : ∃ z : Nat, 2 + V cs (i + 1) % 9 = (z : Int) ∧ 2 ≤ z ∧ z ≤ 10 := ⟨(2 + V cs (i + 1) % 9).toNat, by omega, by omega, by omega⟩
  obtain ⟨q, hq, q1⟩ : ∃ q : Nat, V cs (i + 1) / 9 % (z : Int) = (q : Int) ∧ q < z := ⟨(V cs (i + 1) / 9 % (z : Int)).toNat, by have := Int.emod_nonneg (V cs (i + 1) / 9) (show (z : Int) ≠ 0 by omega); omega, by have := Int.emod_lt_of_pos (V cs (i + 1) / 9) (show (0 : Int) < z by omega); omega⟩
  have : Ps (z : Int) := ⟨by omega⟩
  have : Bd (z : Int) 5 := ⟨by omega⟩
  push_cast [p_l_next, hz, hq, b2_repS]
  rw [rng1 (by omega)]
  have hst := stem_ok (k := 5) (pick26 (V cs (i + 1) / 81)) (pick26 (V cs (i + 1) / 2106)) (show z ≤ 2 * 5 by omega)
  simp only [SMALL] at hst
  rw [show Int.toNat 5 = 5 from rfl]
  generalize cutS (repS _ 5) none (some (z : Int)) = st at *
  obtain ⟨hs1, hs2⟩ := hst
  have : Ls st 10 := ⟨by rw [tl_len, hs1]; exact z2⟩
  have : Bd (q : Int) 5 := ⟨by omega⟩
  push_cast [Int.toNat_natCast]
  rw [cq_map (List.range m) (fun k : Nat => D.int k) (fun k => .str (cutS st none (some (q : Int)) ++ ⟨#[pick 0 (tl SMALL) ((V cs (i + 1) / 54756 % 26 + k) % 26)]⟩ ++ cutS st (some ((q : Int) + 1)) none)) ?_ (sl_n (by rw [List.length_range]; omega))]
  · refine ⟨(List.range m).map fun k : Nat => cutS st none (some (q : Int)) ++ ⟨#[pick 0 (tl SMALL) ((V cs (i + 1) / 54756 % 26 + k) % 26)]⟩ ++ cutS st (some ((q : Int) + 1)) none, by simp!, by simp, fun w hw => ?_⟩
    obtain ⟨k, _, rfl⟩ := List.mem_map.mp hw
    exact cutw_ok hs1 hs2 z1 z2 q1 (pick26 _)
  · intro k hk acc
    have : Bd (k : Int) 8 := ⟨by have := List.mem_range.mp hk; omega⟩
    push_cast [SMALL]
/-! melts -/
structure Melt where
  a : Str
  b : Str
  m : Str
def Melt.d (x : Melt) : D := .tup [.str x.a, .str x.b, .str x.m]
def smA (x : Str) : Bool := x.cps.toList.all fun c => SMALL.cps.toList.contains c
def meltOk (x : Melt) : Bool := (smA x.a && smA x.b && smA x.m) && (decide ((1 : Int) ≤ x.a.length) && decide ((x.a.length : Int) ≤ 3)) && (decide ((1 : Int) ≤ x.b.length) && decide ((x.b.length : Int) ≤ 3)) && (decide (max 1 ((x.a.length : Int) + x.b.length - 1) ≤ x.m.length) && decide ((x.m.length : Int) ≤ 6))
theorem p_is_melt (n : Nat) (x : Melt) {k : Nat} [Ls x.a k] [Ls x.b k] [Ls x.m k] (hk : k ≤ 16777216) (S : Store) : Tn G fs (n+1) 4 [.t x.d] S = .ok (.t (.bl (meltOk x))) S := by
  rw [t_is_melt]
  have hk' : Nat.ble k 16777216 = true := Nat.ble_eq.mpr hk
  have hl : ∀ y ∈ [x.a, x.b, x.m], y.length ≤ k := by
    intro y hy
    simp only [List.mem_cons, List.not_mem_nil, or_false] at hy
    rcases hy with rfl | rfl | rfl <;> exact Ls.h
  unfold Melt.d
  push_cast
  rw [show [D.str x.a, D.str x.b, D.str x.m] = [x.a, x.b, x.m].map D.str from rfl, cq_map [x.a, x.b, x.m] D.str (fun y => D.bl (!smA y)) ?_ (sl_n (by simp))]
  · push_cast
    have e : [!smA x.a, !smA x.b, !smA x.m].any id = !(smA x.a && smA x.b && smA x.m) := by
      cases smA x.a <;> cases smA x.b <;> cases smA x.m <;> rfl
    rw [e]
    unfold meltOk
    cases h : smA x.a && smA x.b && smA x.m
    · simp!
    rw [show [D.str x.a, D.str x.b, D.str x.m] = [x.a, x.b, x.m].map D.str from rfl, cq_map [x.a, x.b, x.m] D.str (fun y => D.int y.length) ?_ (sl_n (by simp))]
    · push_cast
      simp only [Bool.true_and, Bool.and_assoc]
    · intro y hy acc
      have : Ls y k := ⟨hl y hy⟩
      push_cast [hk']
  · intro y hy acc
    have : Ls y k := ⟨hl y hy⟩
    push_cast [hk', strip_small, smA, SMALL]
theorem cutL_neg {α : Type} {xs : List α} {k : Nat} (hk : 1 ≤ k) : cutL xs (some (-(k : Int))) none = xs.drop (xs.length - k) := by
  unfold cutL
  rw [HT.sIx_none]
  have : HT.sIx xs.length 0 (some (-(k : Int))) = xs.length - k := by
    show (if -(k : Int) < 0 then (-(k : Int) + (xs.length : Int)).toNat else min (-(k : Int)).toNat xs.length) = _
    rw [if_pos (by omega)]
    omega
  rw [this, List.take_of_length_le (by rw [List.length_drop]; omega)]
theorem smA_of {x : Str} (h : ∀ c ∈ tl x, c ∈ tl SMALL) : smA x = true := by
  unfold smA
  rw [List.all_eq_true]
  intro c hc
  rw [List.contains_eq_mem, decide_eq_true_eq]
  exact h c hc
theorem p_l_melt (n : Nat) (cs : List Int) (i : Nat) (hi : i ≤ 5000) (S : Store) (ws : List Str) (hn : ws ≠ []) (hw : ∀ w ∈ ws, isWord w = true) : ∃ x : Melt, Tn G fs (n+2) 12 [.t (.ro (cs.map .int)), .loc 0, .t (.lst (ws.map .str))] (AT cs i :: S) = .ok (.t x.d) (AT cs (i + 3) :: S) ∧ meltOk x = true := by
  rw [t_l_melt]
  have : Cn i 5000 := ⟨hi⟩
  have hl : 0 < ws.length := List.length_pos_iff.mpr hn
  have : Ps (ws.length : Int) := ⟨by omega⟩
  have wa := wordl (hw _ (pick_len hn (V cs (i + 1) / 9)))
  have wb := wordl (hw _ (pick_len hn (V cs (i + 1 + 1))))
  have v0 := V_ok cs (i + 1)
  obtain ⟨r, hr, r1⟩ : ∃ r : Nat, V cs (i + 1) % 3 = (r : Int) ∧ r ≤ 2 := ⟨(V cs (i + 1) % 3).toNat, by omega, by omega⟩
  obtain ⟨q, hq, q1⟩ : ∃ q : Nat, V cs (i + 1) / 3 % 3 = (q : Int) ∧ q ≤ 2 := ⟨(V cs (i + 1) / 3 % 3).toNat, by omega, by omega⟩
  push_cast [p_l_next, List.length_map, atI_len hn, hr, hq]
  generalize pick Str.empty ws (V cs (i + 1) / 9 % (ws.length : Int)) = o at *
  generalize pick Str.empty ws (V cs (i + 1 + 1) % (ws.length : Int)) = t at *
  obtain ⟨a1, a2, a3⟩ := wa
  obtain ⟨b1, b2, b3⟩ := wb
  have : Ls o 10 := ⟨by rw [tl_len]; exact a2⟩
  have : Ls t 10 := ⟨by rw [tl_len]; exact b2⟩
  obtain ⟨oc, ho, ho2⟩ : ∃ c, o.cps.toList[0]? = some c ∧ c ∈ tl SMALL := ⟨(tl o)[0], List.getElem?_eq_getElem (show 0 < (tl o).length by omega), a3 _ (List.getElem_mem _)⟩
  obtain ⟨tc, ht, ht2⟩ : ∃ c, t.cps.toList[0]? = some c ∧ c ∈ tl SMALL := ⟨(tl t)[0], List.getElem?_eq_getElem (show 0 < (tl t).length by omega), b3 _ (List.getElem_mem _)⟩
  have eA : -(1 + (r : Int)) = -((r + 1 : Nat) : Int) := by omega
  have eB : 1 + (q : Int) = ((q + 1 : Nat) : Int) := by omega
  rw [eA]
  have A1 : (tl (cutS o (some (-((r + 1 : Nat) : Int))) none)).length = min (r + 1) (tl o).length := by
    rw [cutS_tl, cutL_neg (by omega), List.length_drop]; omega
  have A2 : ∀ c ∈ tl (cutS o (some (-((r + 1 : Nat) : Int))) none), c ∈ tl SMALL := fun c hc => a3 c (cutL_mem (by rwa [cutS_tl] at hc))
  have B1 : (tl (cutS t none (some ((q + 1 : Nat) : Int)))).length = min (q + 1) (tl t).length := by
    rw [cutS_tl, cutL_to, List.length_take]
  have B2 : ∀ c ∈ tl (cutS t none (some ((q + 1 : Nat) : Int))), c ∈ tl SMALL := fun c hc => b3 c (cutL_mem (by rwa [cutS_tl] at hc))
  generalize hA : cutS o (some (-((r + 1 : Nat) : Int))) none = A at *
  generalize hB : cutS t none (some ((q + 1 : Nat) : Int)) = B at *
  have : Ls A 3 := ⟨by rw [tl_len]; omega⟩
  have : Ls B 3 := ⟨by rw [tl_len]; omega⟩
  rw [← tl_len] at A1 B1
  obtain ⟨z, hz, z1⟩ : ∃ z : Nat, min 6 (max 1 ((A.length : Int) + (B.length : Int) - 1) + V cs (i + 1 + 1 + 1) % 3) = (z : Int) ∧ (max 1 ((A.length : Int) + (B.length : Int) - 1) ≤ z ∧ z ≤ 6) := ⟨(min 6 (max 1 ((A.length : Int) + (B.length : Int) - 1) + V cs (i + 1 + 1 + 1) % 3)).toNat, by omega, by omega, by omega⟩
  push_cast [p_l_next, hr, hq, hA, eB, hB, hz, ho, ht, b2_repS]
  rw [show Int.toNat 2 = 2 from rfl, show (r : Int) + (z : Int) = ((r + z : Nat) : Int) by omega]
  have hs : tl ((⟨#[tc]⟩ : Str) ++ Str.ofString "u" ++ ⟨#[oc]⟩ ++ Str.ofString "e") = [tc, 117, oc, 101] := by
    rw [tl_app, tl_app, tl_app, tl_ch, tl_ch]
    rfl
  have M1 : (tl (cutS (repS ((⟨#[tc]⟩ : Str) ++ Str.ofString "u" ++ ⟨#[oc]⟩ ++ Str.ofString "e") 2) (some (r : Int)) (some ((r + z : Nat) : Int)))).length = z := by
    rw [cutS_tl, repS_tl, hs, cutL_both, List.length_take, List.length_drop]
    simp
    omega
  have M2 : ∀ c ∈ tl (cutS (repS ((⟨#[tc]⟩ : Str) ++ Str.ofString "u" ++ ⟨#[oc]⟩ ++ Str.ofString "e") 2) (some (r : Int)) (some ((r + z : Nat) : Int))), c ∈ tl SMALL := by
    intro c hc
    rw [cutS_tl] at hc
    have hc := cutL_mem hc
    rw [repS_tl, hs, List.mem_flatten] at hc
    obtain ⟨l, hl, hc⟩ := hc
    have := (List.mem_replicate.mp hl).2
    subst this
    simp only [List.mem_cons, List.not_mem_nil, or_false] at hc
    have hu : (117 : Nat) ∈ tl SMALL ∧ (101 : Nat) ∈ tl SMALL := by decide +kernel
    rcases hc with rfl | rfl | rfl | rfl
    · exact ht2
    · exact hu.1
    · exact ho2
    · exact hu.2
  generalize cutS (repS ((⟨#[tc]⟩ : Str) ++ Str.ofString "u" ++ ⟨#[oc]⟩ ++ Str.ofString "e") 2) (some (r : Int)) (some ((r + z : Nat) : Int)) = M at *
  refine ⟨⟨A, B, M⟩, rfl, ?_⟩
  rw [← tl_len] at M1
  unfold meltOk
  dsimp only
  rw [smA_of A2, smA_of B2, smA_of M2]
  simp only [Bool.true_and, Bool.and_eq_true, decide_eq_true_eq]
  omega
abbrev meltsD (ms : List Melt) : List D := ms.map Melt.d
/-- a comprehension whose turns change the store -/
theorem cq_st {α : Type} {T : Nat → List W → Store → Res W} {g : Sig} {ρ : Env'} {elt tg ifs} (xs : List α) (enc : α → D) (St : Nat → Store) (L : Nat) (hL : ∀ i, (St i).length = L) (P : D → Prop) (m lim i : Nat) (hi : i + m * xs.length ≤ lim)
    (h : ∀ x ∈ xs, ∀ i acc, i + m ≤ lim → ∃ d i', ct T g elt tg ifs ρ (enc x) (St i ++ [some (.lst acc)]) = .ok (some d) (St i' ++ [some (.lst acc)]) ∧ P d ∧ i' ≤ i + m) (hl : xs.length ≤ sizeLine) :
    ∃ ds i', cq T g elt tg ifs ρ (xs.map enc, none) (St i) = .ok (.t (.lst ds)) (St i') ∧ ds.length = xs.length ∧ (∀ d ∈ ds, P d) ∧ i' ≤ i + m * xs.length := by
  have key : ∀ (k j i : Nat) (acc : List D), k + j = xs.length → acc.length = j → i + m * k ≤ lim → ∃ ds i', turnsL (ct T g elt tg ifs ρ) L (xs.map enc, none) k j (St i ++ [some (.lst acc)]) = .ok () (St i' ++ [some (.lst (acc ++ ds))]) ∧ ds.length = k ∧ (∀ d ∈ ds, P d) ∧ i' ≤ i + m * k := by
    intro k
    induction k with
    | zero => intro j i acc h1 h2 h3; exact ⟨[], i, by simp [turnsL, itOk], rfl, (fun _ h => nomatch h), by omega⟩
    | succ k ih =>
      intro j i acc h1 h2 h3
      have hj : j < xs.length := by omega
      rw [Nat.mul_succ] at h3
      obtain ⟨d, i1, e1, hp, l1⟩ := h xs[j] (List.getElem_mem hj) i acc (by omega)
      obtain ⟨ds, i2, e2, hd, hq, l2⟩ := ih (j + 1) i1 (acc ++ [d]) (by omega) (by simp; omega) (by omega)
      refine ⟨d :: ds, i2, ?_, by simp [hd], fun x hx => ?_, by rw [Nat.mul_succ]; omega⟩
      · simp only [turnsL]
        rw [show itAt (xs.map enc, none) (St i ++ [some (.lst acc)]) j = some (enc xs[j]) by simp [itAt, hj]]
        have e3 : get (St i1 ++ [some (Ob.lst acc)]) L = some (.lst acc) := by rw [← hL i1, get_app0, get_0]
        have e4 : (St i1 ++ [some (Ob.lst acc)]).set L (some (.lst (acc ++ [d]))) = St i1 ++ [some (.lst (acc ++ [d]))] := by rw [← hL i1, set_app0]; rfl
        simp only [e1, e3, if_pos (show acc.length < sizeLine by omega), e4, e2]
        simp
      · rcases List.mem_cons.mp hx with rfl | hx
        · exact hp
        · exact hq x hx
  obtain ⟨ds, i', e, hd, hp, hl'⟩ := key xs.length 0 i [] (by omega) rfl hi
  refine ⟨ds, i', ?_, hd, hp, hl'⟩
  unfold cq
  rw [hL, show (xs.map enc, (none : Option Nat)).1.length = xs.length by simp, e]
  simp only [List.nil_append, compRes]
  rw [← hL i', get_app0, get_0]
  simp
theorem p_l_melts (n : Nat) (cs : List Int) (i : Nat) (hi : i ≤ 4000) (S : Store) (ws : List Str) (hn : ws ≠ []) (hw : ∀ w ∈ ws, isWord w = true) : ∃ (ms : List Melt) (i' : Nat), Tn G fs (n+3) 13 [.t (.ro (cs.map .int)), .loc 0, .t (.lst (ws.map .str)), .t (.int 12)] (AT cs i :: S) = .ok (.t (.lst (meltsD ms))) (AT cs i' :: S) ∧ ms.length ≤ 12 ∧ (∀ x ∈ ms, meltOk x = true) ∧ i' ≤ i + 37 := by
  rw [t_l_melts]
  have : Cn i 5000 := ⟨by omega⟩
  push_cast [p_l_next]
  obtain ⟨k, hk, k1⟩ : ∃ k : Nat, min (pick (0 : Int) [0, 1, 2, 4, 12] (V cs (i + 1) % 5)) 12 = (k : Int) ∧ k ≤ 12 := by
    have : (0 : Int) ≤ pick (0 : Int) [0, 1, 2, 4, 12] (V cs (i + 1) % 5) := Ng.h
    exact ⟨(min (pick (0 : Int) [0, 1, 2, 4, 12] (V cs (i + 1) % 5)) 12).toNat, by omega, by omega⟩
  rw [hk, rng1 (by omega)]
  push_cast [Int.toNat_natCast]
  generalize hr : cq _ _ _ _ _ _ _ _ = r
  obtain ⟨ds, i', e, hd, hp, hl⟩ : ∃ ds i', r = .ok (.t (.lst ds)) (AT cs i' :: S) ∧ ds.length = (List.range k).length ∧ (∀ d ∈ ds, ∃ x : Melt, d = x.d ∧ meltOk x = true) ∧ i' ≤ (i + 1) + 3 * (List.range k).length := by
    rw [← hr]
    exact cq_st (List.range k) (fun k : Nat => D.int k) (fun i => AT cs i :: S) (S.length + 1) (fun _ => rfl) (fun d => ∃ x : Melt, d = x.d ∧ meltOk x = true) 3 4990 (i + 1) (by rw [List.length_range]; omega) (by
      intro k _ j acc hj
      obtain ⟨x, e, hx⟩ := p_l_melt n cs j (by omega) (S ++ [some (.lst acc)]) ws hn hw
      refine ⟨x.d, j + 3, ?_, ⟨x, rfl, hx⟩, by omega⟩
      push_cast [List.cons_append, e]) (by rw [List.length_range]; exact sl_n (by omega))
  rw [List.length_range] at hd hl
  obtain ⟨ms, rfl, hm⟩ : ∃ ms : List Melt, ds = meltsD ms ∧ ∀ x ∈ ms, meltOk x = true := by
    clear e hd
    induction ds with
    | nil => exact ⟨[], rfl, fun _ h => nomatch h⟩
    | cons d ds ih =>
      obtain ⟨x, rfl, hx⟩ := hp d List.mem_cons_self
      obtain ⟨ms, rfl, hm⟩ := ih fun d hd => hp d (List.mem_cons_of_mem _ hd)
      exact ⟨x :: ms, rfl, fun y hy => (List.mem_cons.mp hy).elim (fun z => z ▸ hx) (hm y)⟩
  rw [List.length_map] at hd
  refine ⟨ms, i', ?_, by omega, hm, by omega⟩
  push_cast [e]
def isTitle (x : Str) : Bool := decide ((1 : Int) ≤ x.length) && decide ((x.length : Int) ≤ 8) && smA x
theorem isWord_sm (x : Str) : isWord x = (decide ((2 : Int) ≤ x.length) && decide ((x.length : Int) ≤ 10) && smA x) := rfl
theorem p_is_title (n : Nat) (x : Str) {k : Nat} [Ls x k] (hk : k ≤ 16777216) (S : Store) : Tn G fs (n+1) 5 [.t (.str x)] S = .ok (.t (.bl (isTitle x))) S := by
  rw [t_is_title]
  have hk' : Nat.ble k 16777216 = true := Nat.ble_eq.mpr hk
  have hl : x.length ≤ k := Ls.h
  push_cast [hk']
  unfold isTitle
  cases h : decide ((1 : Int) ≤ x.length) && decide ((x.length : Int) ≤ 8)
  · simp!
  push_cast
  rw [cq_map (tl x) (fun c => D.str ⟨#[c]⟩) (fun c => D.bl (SMALL.cps.toList.contains c)) ?_ (sl_n (by rw [← tl_len]; omega))]
  · push_cast
    rw [List.all_map]
    rfl
  · intro c _ acc
    push_cast [strIn_ch, SMALL]
abbrev pr (p : Str × Str) : D := .tup [.str p.1, .str p.2]
def tnG (fs : List Str) : List (Str × Str) → Option (List Str)
  | [] => some fs
  | p :: r => if (isWord p.1 && isWord p.2) && !decide (p.1 ∈ fs) then tnG (fs ++ [p.1]) r else none
/-- the first ones up to the fault -/
def tnF (fs : List Str) : List (Str × Str) → List Str
  | [] => fs
  | p :: r => if (isWord p.1 && isWord p.2) && !decide (p.1 ∈ fs) then tnF (fs ++ [p.1]) r else fs
def areTurns (ps : List (Str × Str)) : Bool := (tnG [] ps).isSome
def LsP (ps : List (Str × Str)) : Prop := ∀ p ∈ ps, p.1.length ≤ 1000 ∧ p.2.length ≤ 1000
theorem turns_loop {n : Nat} {S : Store} {w : Option W} (ps : List (Str × Str)) (hp : LsP ps) (fs0 : List Str) (hl : fs0.length + ps.length ≤ 1000) (j : Option W) :
    ∃ j', ∀ p, fl (Tn G fs (n+1)) G (.nm 2 p) are_turns_F0b (ps.map pr) [w, some (.loc S.length), j] (S ++ [some (.lst (fs0.map .str))]) = match tnG fs0 ps with
      | some f => .next [w, some (.loc S.length), j'] (S ++ [some (.lst (f.map .str))])
      | none => .ret (.t (.bl false)) (S ++ [some (.lst ((tnF fs0 ps).map .str))]) := by
  induction ps generalizing fs0 j with
  | nil => exact ⟨j, fun _ => rfl⟩
  | cons q r ih =>
    obtain ⟨a, b⟩ := q
    have ⟨h1, h2⟩ := hp _ List.mem_cons_self
    dsimp only at h1 h2
    simp only [List.length_cons] at hl
    obtain ⟨j', ih⟩ := ih (fun p h => hp p (List.mem_cons_of_mem _ h)) (fs0 ++ [a]) (by simp; omega) (some (.t (pr (a, b))))
    refine ⟨j', fun p => ?_⟩
    have : Ln fs0 1000 := ⟨by omega⟩
    have hA := fun S => p_is_word n a (sl_n (by omega)) S
    have hB := fun S => p_is_word n b (sl_n (by omega)) S
    simp only [List.map_append, List.map_cons, List.map_nil] at ih
    push_cast [List.map_cons, fl_cons, hA, hB, ih]
    have e : (!isWord a || (!isWord b || decide (a ∈ fs0))) = !((isWord a && isWord b) && !decide (a ∈ fs0)) := by
      cases isWord a <;> cases isWord b <;> cases decide (a ∈ fs0) <;> rfl
    simp only [tnG, tnF]
    simp only [e]
    cases (isWord a && isWord b) && !decide (a ∈ fs0)
    · simp!
    · simp! [ih]
theorem p_are_turns (n : Nat) (ps : List (Str × Str)) (hp : LsP ps) (hl : ps.length ≤ 1000) (S : Store) (u : W) (hu : IsL S u (ps.map pr)) : Tn G fs (n+2) 6 [u] S = .ok (.t (.bl (areTurns ps))) S := by
  rw [t_are_turns]
  have hs := fun L => seqW_isl (hu.app (L := L))
  push_cast [hs]
  rw [flL_isl2 (fun ρ S' => ∃ (f : List Str) (j : Option W), ρ = [some u, some (.loc S.length), j] ∧ S' = S ++ [some (.lst (f.map .str))]) ?_ ⟨[], none, rfl, rfl⟩ ?_]
  · obtain ⟨j', h⟩ := turns_loop (n := n) (S := S) (w := some u) ps hp [] (by simpa using hl) none
    simp only [List.map_nil] at h
    rw [h]
    unfold areTurns
    cases tnG [] ps <;> simp!
  · rintro ρ S' ⟨f, j, rfl, rfl⟩
    exact hu.app
  · rintro d hd _ _ ⟨f, j, rfl, rfl⟩ ρ1 h1
    obtain ⟨⟨a, b⟩, hm, rfl⟩ := List.mem_map.mp hd
    have ⟨h2, h3⟩ := hp _ hm
    dsimp only at h2 h3
    simp (decide := true) only [lk0, lkS, okL_some, bnd_k, bnd_exc, lift_ok, lift_exc, sq_next, sq_ret, sq_brk, sq_cont, sq_exc, rd2_gen, rd1_t, onB_t, onT2_t, onT1_t, onO_some, onO_none, okq_some, rd_t, cmpThen_b, newW_l, newW_d, frzW_t, frzW_l, allR_b, intW_i, seqW_s, seqW_lst, seqW_ro, seqW_tup, seqW_rt, elR_ok, tsR_b, tg_nm, tg_tp, go_nil, go_cons, unp_tup, unp_rt, unp_lst, unp_ro, tgu_tp, flL_t, ct_eq, wipeO_nil, wipeO_cons, List.map_cons, List.map_nil, fldR_ins, lku_hit, lku_miss, put_nil, put_hit, put_miss, sflR_0, mkEnd_ok, mkEnd_exc, ty_non, ty_bl, ty_int, ty_str, ty_lst, ty_tup, ty_dct, ty_ins, ty_exc, kr_t, kr_f, kitsP_nil, kitsP_cons, take_app, take_appk, take_appL, List.take_succ_cons, List.take_zero, List.take_nil, List.take_length_add_append, rep0, rep1, rep2, cq_nil, List.append_nil, seqW_loc, seqO_l, tri_next, tri_ret, tri_brk, tri_cont, tri_exc, frzE_eq, frzR_l, stE_0, stE_S, frzR_t, mutR_l, isLst_l, ma_app, ma_pop, ma_ins, ma_rev, ma_ext, mu_app, mu_ext, mu_pop, mu_rev, istR_l, get_app0, get_appk, get_0, get_S, set_app0, set_appk, rd_loc, tr_lst, tr_ins, tr_dct, ix_nil, ix_cons, ix_map, atI_modI, atI_modS, atI_modL, b2_repL, cutD_eq, cutL_map, cutL_to, Option.getD_some, Nat.reduceEqDiff, inSeq_s, sx_nil, sx_cons, sx_map, sx_app, Option.isSome_some, Option.isSome_map, bls_map, bls_mapf, bx_nil, bx_cons, mty_s, mty_l, mty_ro, xm_strip, xm_countS, mo_joint, mo_stript, mo_startswitht, mo_endswitht, mo_countt, mo_splitt, mo_islowert, mo_countf, xm_sw, xm_ew, m_and, m_or, m_not, m_id, sq_ret_if, sq_exc_if, bf_lenS, bf_str, fmtW_s, fmtW_i, joinQ_s, isLstE_l, isLstO_l, popW_l, popO_l, xi_str, xl_str, Bool.false_eq_true, decide_eq_true_eq, Bool.decide_eq_true, Bool.decide_eq_false, decide_true, decide_false, Bool.true_and, Bool.false_and, Bool.and_true, Bool.and_false, Bool.true_or, Bool.false_or, Bool.or_true, Bool.or_false, lq_next, lq_cont, lq_brk, lq_ret, lq_exc, setE_ok, endF_ret, endF_next, endF_exc, leave_t, leave_0, at_nil, at_cons, rds_nil, rds_cons, Option.bind_some, List.take_length, List.length_cons, List.length_nil, set_c0, set_cS, Nat.reduceAdd, Nat.reduceLT, reduceIte, ↓reduceIte, Option.map_some, Nat.zero_lt_succ, Nat.add_one_pos, Nat.lt_add_left_iff_pos, List.getElem?_cons_zero, List.getElem?_cons_succ, if_true, if_false, Bool.not_true, Bool.not_false, Option.bind_some, b2_add, b2_sub, b2_mul, b2_fdiv, b2_mod, b2_pow, c2_lt, c2_le, c2_gt, c2_ge, c2_eq, c2_ne, eqv_int, eqv_str, eqv_bl, eqv_strs, eqv_strs0, c2_is, c2_isn, non_non, non_int, non_str, non_bl, non_lst, non_tup, non_ins, b2_addS, b2_addL, c2_memL, c2_memRo, c2_memT, c2_memRt, c2_nmemL, c2_nmemRo, c2_nmemT, c2_nmemRt, c2_memS, c2_memD, c2_nmemD, xi_dct, bf_lenL, bf_lenRo, bf_lenT, bf_lenRt, bf_list, bf_listD, bf_divmod, bf_max2, bf_min2, bf_all, bf_any, xl_lst, xl_ro, xi_lst, xi_ro, xi_tup, xi_rt, atI_lit, atI_m1, List.getLast?_concat, it_lst, it_ro, it_tup, it_rt, ls_lst, ls_ro, ist_lit, ist_m1, Option.some.injEq] at h1
    subst h1
    have hA := fun S => p_is_word n a (sl_n (by omega)) S
    have hB := fun S => p_is_word n b (sl_n (by omega)) S
    by_cases hf : f.length ≤ 16777215
    · have : Ln f 16777215 := ⟨hf⟩
      push_cast [hA, hB]
      split
      · dsimp! [kpi_ret]
      · dsimp! [kpi_next]
        exact ⟨f ++ [a], _, rfl, by simp⟩
    · have e : ∀ d, mutO .append (.lst (f.map .str)) [d] = none := fun d => by
        show (if _ then _ else _) = _
        rw [if_neg]
        have : sizeLine = 16777216 := by decide
        rw [List.length_map]
        omega
      push_cast [hA, hB, e]
      split
      · dsimp! [kpi_ret]
      · trivial
abbrev KK := Str × Str × List (Str × Str)
def kindOk (q : KK) : Bool := isTitle q.1 && isWord q.2.1 && areTurns q.2.2
def insK (q : KK) : List (Nat × D) := [(10, .str q.1), (11, .str q.2.1), (12, .lst (q.2.2.map pr))]
def kD (q : KK) : D := .ins 8 (insK q)
theorem kD_eq (q : KK) : kD q = .ins 8 [(10, .str q.1), (11, .str q.2.1), (12, .lst (q.2.2.map pr))] := (rfl)
def LsK (q : KK) : Prop := q.1.length ≤ 1000 ∧ q.2.1.length ≤ 1000 ∧ LsP q.2.2 ∧ q.2.2.length ≤ 1000
theorem p_mkKind (n : Nat) (q : KK) (hq : LsK q) (S : Store) (u : W) (hu : IsL S u (q.2.2.map pr)) :
    mkEnd 8 S.length (Tn G fs (n+3) 28 [.loc S.length, .t (.str q.1), .t (.str q.2.1), u] (S ++ [some (.ins 8 [])])) =
      if kindOk q = true then .ok (.t (kD q)) S else .exc 5 S := by
  obtain ⟨h1, h2, h3, h4⟩ := hq
  rw [t_Kind_init]
  have : Ls q.1 1000 := ⟨h1⟩
  have ht := fun S => p_is_title (n+1) q.1 (k := 1000) (by omega) S
  have hw := fun S => p_is_word (n+1) q.2.1 (sl_n (by omega)) S
  have ha := fun L => p_are_turns n q.2.2 h3 h4 (S ++ L) u hu.app
  have hr := fun L => rd_isl (hu.app (L := L))
  push_cast [ht, hw, ha, hr]
  unfold kindOk
  cases isTitle q.1
  · simp! [mkEnd_exc]
  cases isWord q.2.1
  · simp! [mkEnd_exc]
  cases areTurns q.2.2
  · simp! [mkEnd_exc]
  push_cast [hr]
  rfl
theorem foldl_met (xs : List Str) : ∀ σ : List Str, (xs.foldl addS σ).length = σ.length + xs.length ↔ xs.Nodup ∧ ∀ x ∈ xs, x ∉ σ := by
  induction xs with
  | nil => intro σ; simp
  | cons x r ih =>
    intro σ
    have hle := foldl_addS_le r (addS σ x)
    have hl := addS_len σ x
    simp only [List.foldl_cons, List.length_cons]
    by_cases h : x ∈ σ
    · have e : addS σ x = σ := by unfold addS; rw [if_pos (by simpa using h)]
      rw [e] at hle ⊢
      constructor
      · intro z; omega
      · rintro ⟨_, z⟩; exact absurd h (z x List.mem_cons_self)
    · have e : addS σ x = σ ++ [x] := by unfold addS; rw [if_neg (by simpa using h)]
      rw [e]
      have := ih (σ ++ [x])
      simp only [List.length_append, List.length_cons, List.length_nil] at this
      rw [show σ.length + (r.length + 1) = σ.length + (0 + 1) + r.length by omega, this, List.nodup_cons]
      simp only [List.mem_append, List.mem_cons, List.not_mem_nil, or_false, not_or, forall_eq_or_imp]
      constructor
      · rintro ⟨a, b⟩
        exact ⟨⟨fun z => (b x z).2 rfl, a⟩, h, fun y hy => (b y hy).1⟩
      · rintro ⟨⟨a, b⟩, _, c⟩
        exact ⟨b, fun y hy => ⟨c y hy, fun z => a (z ▸ hy)⟩⟩
theorem met_nodup (xs : List Str) : (metS xs).length = xs.length ↔ xs.Nodup := by
  have := foldl_met xs []
  simpa [metS] using this
def kT (q : KK) : D := .tup [.str q.1, .str q.2.1, .lst (q.2.2.map pr)]
theorem kT_eq (q : KK) : kT q = .tup [.str q.1, .str q.2.1, .lst (q.2.2.map pr)] := (rfl)
theorem or_t {S : Store} {ds : List D} : orlD (.lst ds) (.t (.lst ds)) S (.ok (.t (.lst [])) S) = .ok (.t (.lst ds)) S := by
  cases ds with
  | nil => exact or_nil
  | cons d r => exact or_cons
/-! a tongue; great numbers; items -/
def insT (b : Int) (rs ms ks : List D) : List (Nat × D) := [(6, .int b), (7, .lst rs), (8, .lst ms), (9, .lst ks)]
def tD (b : Int) (rs ms ks : List D) : D := .ins 7 (insT b rs ms ks)
theorem tD_eq (b : Int) (rs ms ks : List D) : tD b rs ms ks = .ins 7 [(6, .int b), (7, .lst rs), (8, .lst ms), (9, .lst ks)] := (rfl)
theorem all_melts {ms : List Melt} (hm : ∀ x ∈ ms, meltOk x = true) : (ms.map meltOk).all id = true := by
  rw [List.all_map, List.all_eq_true]
  exact hm
theorem meltOk_len {x : Melt} (h : meltOk x = true) : (1 ≤ x.a.length ∧ x.a.length ≤ 3) ∧ (1 ≤ x.b.length ∧ x.b.length ≤ 3) ∧ x.m.length ≤ 6 := by
  unfold meltOk at h
  simp only [Bool.and_eq_true, decide_eq_true_eq] at h
  omega
theorem p_mkTongue (n : Nat) (b : Int) (hb : 0 ≤ b) (rs : List D) (ms : List Melt) (hm : ∀ x ∈ ms, meltOk x = true) (hml : ms.length ≤ 1000) (qs : List KK) (hn : (qs.map (·.1)).Nodup) (hl : qs.length ≤ 1000) (S : Store) :
    mkEnd 7 S.length (Tn G fs (n+2) 27 [.loc S.length, .t (.int b), .t (.lst rs), .t (.lst (meltsD ms)), .t (.lst (qs.map kD))] (S ++ [some (.ins 7 [])])) = .ok (.t (tD b rs (meltsD ms) (qs.map kD))) S := by
  rw [t_Tongue_init]
  push_cast [or_t, Int.not_lt.mpr hb]
  rw [cq_map ms Melt.d (fun x => .bl (meltOk x)) ?_ (sl_n (by omega))]
  · push_cast [all_melts hm]
    rw [cq_map qs kD (fun q => D.str q.1) ?_ (sl_n (by omega))]
    · have hs := fun S => lens_s (S := S) (sx_mapf (f := fun q : KK => q.1) (xs := qs)) (by simpa using hl)
      have hm : ((metS (qs.map fun q => q.1)).length : Int) = (qs.length : Int) := by
        rw [(met_nodup _).mpr hn, List.length_map]
      push_cast [hs, List.length_map, hm]
      rfl
    · intro q hq acc
      push_cast [kD_eq]
  · intro x hx acc
    have hl := meltOk_len (hm x hx)
    have : Ls x.a 6 := ⟨by omega⟩
    have : Ls x.b 6 := ⟨by omega⟩
    have : Ls x.m 6 := ⟨by omega⟩
    have h := fun S => p_is_melt n x (k := 6) (by omega) S
    push_cast [h]
theorem p_l_great (n : Nat) (cs : List Int) (i : Nat) (hi : i ≤ 100000) (S : Store) : ∃ z : Int, Tn G fs (n+2) 14 [.t (.ro (cs.map .int)), .loc 0] (AT cs i :: S) = .ok (.t (.int z)) (AT cs (i + 1) :: S) ∧ 0 ≤ z ∧ z < 10 ^ 60 := by
  rw [t_l_great]
  have : Cn i 100000 := ⟨hi⟩
  have v := V_ok cs (i + 1)
  by_cases h : V cs (i + 1) % 7 = 0
  · refine ⟨10 ^ 60 - 1 - V cs (i + 1) / 7 % 3, ?_, by omega, by omega⟩
    push_cast [p_l_next, h]
  · push_cast [p_l_next, h]
    refine ⟨_, rfl, ?_⟩
    refine pick_ind (m := V cs (i + 1)) (l := [10, 10 ^ 20, 10 ^ 59]) 3 (P := fun x => 0 ≤ V cs (i + 1) * V cs (i + 1) * V cs (i + 1) * V cs (i + 1) * V cs (i + 1) * V cs (i + 1) * V cs (i + 1) * V cs (i + 1) % x ∧ V cs (i + 1) * V cs (i + 1) * V cs (i + 1) * V cs (i + 1) * V cs (i + 1) * V cs (i + 1) * V cs (i + 1) * V cs (i + 1) % x < 10 ^ 60) rfl (by omega) ?_
    intro x hx
    generalize V cs (i + 1) * V cs (i + 1) * V cs (i + 1) * V cs (i + 1) * V cs (i + 1) * V cs (i + 1) * V cs (i + 1) * V cs (i + 1) = y
    simp only [List.mem_cons, List.not_mem_nil, or_false] at hx
    rcases hx with rfl | rfl | rfl <;> omega
/-! items put together of things -/
structure It (acc th : List Str) : Prop where
  ln : acc.length + th.length ≤ 8
  ok1 : ∀ x ∈ acc, okItem x = true
  ok2 : ∀ x ∈ th, okItem x = true ∧ x ≠ "+"
  one : ∀ s ∈ SIGNS, acc.count s + th.count s ≤ 1
  ts : acc = [] ∨ ∃ a, tsG "+" acc = some a ∧ a ≠ "+"
  wd : ∃ w, isWord w = true ∧ (w ∈ acc ∨ w ∈ th)
theorem plus_ns : ("+" : Str) ∉ SIGNS := by decide +kernel
theorem okItem_len {x : Str} (h : okItem x = true) : x.length ≤ 10 := by
  unfold okItem at h
  simp only [Bool.or_eq_true, decide_eq_true_eq] at h
  rcases h with (rfl | h) | h
  · decide +kernel
  · have : ∀ s ∈ SIGNS, s.length ≤ 10 := by decide +kernel
    exact this x h
  · exact (isWord_len h).2
theorem It.fit {acc : List Str} (h : It acc []) : itemsFit acc = true := by
  obtain ⟨ln, ok1, _, one, ts, w, hw, hm⟩ := h
  have hm : w ∈ acc := by simpa using hm
  have ne : acc ≠ [] := by rintro rfl; cases hm
  obtain ⟨a, ha, hn⟩ := ts.resolve_left ne
  unfold itemsFit tiesStand
  rw [ha]
  have l1 := List.length_pos_iff.mpr ne
  simp only [List.length_nil, Nat.add_zero] at ln
  simp only [Bool.and_eq_true, decide_eq_true_eq, List.all_eq_true, List.any_eq_true]
  refine ⟨⟨⟨⟨⟨by omega, by omega⟩, ok1⟩, w, hm, hw⟩, fun s hs => ?_⟩, hn⟩
  have := one s hs
  simpa using this
theorem count_erase {th : List Str} {k : Nat} (hk : k < th.length) (s : Str) : th.count s = (th.eraseIdx k).count s + if th[k] = s then 1 else 0 := by
  have e : th = th.take k ++ th[k] :: th.drop (k + 1) := by simp
  conv => lhs; rw [e]
  rw [List.eraseIdx_eq_take_drop_succ, List.count_append, List.count_append, List.count_cons]
  by_cases h : th[k] = s <;> simp [h] <;> omega
theorem mem_erase {th : List Str} {k : Nat} (hk : k < th.length) {x : Str} (h : x ∈ th) : x = th[k] ∨ x ∈ th.eraseIdx k := by
  have e : th = th.take k ++ th[k] :: th.drop (k + 1) := by simp
  rw [e] at h
  rw [List.eraseIdx_eq_take_drop_succ]
  rcases List.mem_append.mp h with h | h
  · exact .inr (List.mem_append_left _ h)
  · rcases List.mem_cons.mp h with h | h
    · exact .inl h
    · exact .inr (List.mem_append_right _ h)
theorem It.step {acc th : List Str} (h : It acc th) {k : Nat} (hk : k < th.length) (tie : Bool) (ht : tie = true → acc ≠ [] ∧ acc.length < 8 - th.length) : It (acc ++ (if tie then [("+" : Str)] else []) ++ [th[k]]) (th.eraseIdx k) := by
  obtain ⟨ln, ok1, ok2, one, ts, w, hw, hm⟩ := h
  have hx := ok2 _ (List.getElem_mem hk)
  have hle : (th.eraseIdx k).length = th.length - 1 := by rw [List.length_eraseIdx, if_pos hk]
  refine ⟨?_, fun x hx' => ?_, fun x hx' => ok2 x (List.mem_of_mem_eraseIdx hx'), fun s hs => ?_, .inr ⟨th[k], ?_, hx.2⟩, w, hw, ?_⟩
  · rw [List.length_append, List.length_append, List.length_singleton, hle]
    cases tie
    · simp; omega
    · have := ht rfl; simp; omega
  · simp only [List.mem_append, List.mem_singleton] at hx'
    rcases hx' with (hx' | hx') | rfl
    · exact ok1 x hx'
    · cases tie
      · simp at hx'
      · have e : x = "+" := by simpa using hx'
        subst e
        simp [okItem]
    · exact hx.1
  · have := one s hs
    rw [count_erase hk s] at this
    rw [List.count_append, List.count_append]
    have e1 : (if tie then [("+" : Str)] else []).count s = 0 := by
      cases tie
      · rfl
      · rw [if_pos rfl]
        exact List.count_eq_zero_of_not_mem (by simp; rintro rfl; exact plus_ns hs)
    rw [e1]
    by_cases e : th[k] = s
    · simp [e] at this ⊢; omega
    · rw [if_neg e] at this
      have : List.count s [th[k]] = 0 := List.count_eq_zero_of_not_mem (by simp; exact fun z => e z.symm)
      omega
  · rw [tsG_app, tsG_app]
    rcases ts with rfl | ⟨a, ha, hn⟩
    · cases tie
      · simp [tsG, hx.2]
      · exact absurd rfl (ht rfl).1
    · rw [ha]
      cases tie
      · simp [tsG, hx.2]
      · simp [tsG, hx.2, hn]
  · rcases hm with hm | hm
    · left; simp [hm]
    · rcases mem_erase hk hm with rfl | hm
      · left; simp
      · right; exact hm
/-! items drawn -/
theorem pop_map {th : List Str} {k : Nat} (hk : k < th.length) (hl : th.length ≤ 100) : popD (th.map D.str) (k : Int) = some (.str th[k], (th.eraseIdx k).map .str) := by
  rw [popD_nat (by rw [List.length_map]; exact hk) (by rw [List.length_map]; omega)]
  simp [List.eraseIdx_eq_take_drop_succ]
theorem items_while {n : Nat} (cs : List Int) (S : Store) (w2 w3 w5 : Option W) (m : Nat) : ∀ (fuel : Nat) (th acc : List Str) (i : Nat), th.length = m → It acc th → m < fuel → i + 2 * m ≤ 90000 →
    ∃ acc' i', (∀ p1 p2 p3 p4 p5, wl (Tn G fs (n+1)) G fuel (.cmp .gt (.bfn .len (.cons (.var 4 p1) .nil) p2 p3) (.int 0 0 p4) p5) l_items_W0b [some (.t (.ro (cs.map .int))), some (.loc 0), w2, w3, some (.loc (S.length + 1)), w5, some (.loc (S.length + 1 + 1))] (AT cs i :: (S ++ [some (.lst (th.map .str)), some (.lst (acc.map .str))])) =
      .next [some (.t (.ro (cs.map .int))), some (.loc 0), w2, w3, some (.loc (S.length + 1)), w5, some (.loc (S.length + 1 + 1))] (AT cs i' :: (S ++ [some (.lst []), some (.lst (acc'.map .str))]))) ∧ It acc' [] ∧ (∀ x, x ∈ acc ∨ x ∈ th → x ∈ acc') ∧ i' ≤ i + 2 * m := by
  induction m with
  | zero =>
    intro fuel th acc i hm it hf hi
    have : th = [] := List.length_eq_zero_iff.mp hm
    subst this
    obtain ⟨f, rfl⟩ : ∃ f, fuel = f + 1 := ⟨fuel - 1, by omega⟩
    refine ⟨acc, i, fun p1 p2 p3 p4 p5 => ?_, it, fun x hx => by simpa using hx, by omega⟩
    rw [wl_done (S1 := AT cs i :: (S ++ [some (.lst (([] : List Str).map .str)), some (.lst (acc.map .str))])) (by push_cast [List.map_nil])]
    rfl
  | succ m ih =>
    intro fuel th acc i hm it hf hi
    obtain ⟨f, rfl⟩ : ∃ f, fuel = f + 1 := ⟨fuel - 1, by omega⟩
    have hln := it.ln
    have hl0 : 0 < th.length := by omega
    have hl1 : (0 : Int) < th.length := by omega
    have : Ps (th.length : Int) := ⟨hl1⟩
    have : Cn i 100000 := ⟨by omega⟩
    have : Ln acc 100 := ⟨by omega⟩
    have cond : ∀ p1 p2 p3 p4 p5, (E.cmp .gt (.bfn .len (.cons (.var 4 p1) .nil) p2 p3) (.int 0 0 p4) p5).ev (Tn G fs (n+1)) G [some (.t (.ro (cs.map .int))), some (.loc 0), w2, w3, some (.loc (S.length + 1)), w5, some (.loc (S.length + 1 + 1))] (AT cs i :: (S ++ [some (.lst (th.map .str)), some (.lst (acc.map .str))])) =
        .ok (.t (.bl true)) (AT cs i :: (S ++ [some (.lst (th.map .str)), some (.lst (acc.map .str))])) := fun p1 p2 p3 p4 p5 => by
      push_cast [List.length_map, hl1]
    have ix : ∀ j, ∃ k : Nat, V cs j % (th.length : Int) = (k : Int) ∧ k < th.length := fun j => ⟨(V cs j % (th.length : Int)).toNat, by have := Int.emod_nonneg (V cs j) (show (th.length : Int) ≠ 0 by omega); omega, by have := Int.emod_lt_of_pos (V cs j) hl1; omega⟩
    have step : ∀ (j : Nat) (tie : Bool), j ≤ i + 1 → (tie = true → acc ≠ [] ∧ acc.length < 8 - th.length) → (∀ k : Nat, V cs (j + 1) % (th.length : Int) = (k : Int) → (hk : k < th.length) → l_items_W0b.ev (Tn G fs (n+1)) G [some (.t (.ro (cs.map .int))), some (.loc 0), w2, w3, some (.loc (S.length + 1)), w5, some (.loc (S.length + 1 + 1))] (AT cs i :: (S ++ [some (.lst (th.map .str)), some (.lst (acc.map .str))])) =
        .next [some (.t (.ro (cs.map .int))), some (.loc 0), w2, w3, some (.loc (S.length + 1)), w5, some (.loc (S.length + 1 + 1))] (AT cs (j + 1) :: (S ++ [some (.lst ((th.eraseIdx k).map .str)), some (.lst ((acc ++ (if tie then [("+" : Str)] else []) ++ [th[k]]).map .str))]))) →
        ∃ acc' i', (∀ p1 p2 p3 p4 p5, wl (Tn G fs (n+1)) G (f + 1) (.cmp .gt (.bfn .len (.cons (.var 4 p1) .nil) p2 p3) (.int 0 0 p4) p5) l_items_W0b [some (.t (.ro (cs.map .int))), some (.loc 0), w2, w3, some (.loc (S.length + 1)), w5, some (.loc (S.length + 1 + 1))] (AT cs i :: (S ++ [some (.lst (th.map .str)), some (.lst (acc.map .str))])) =
          .next [some (.t (.ro (cs.map .int))), some (.loc 0), w2, w3, some (.loc (S.length + 1)), w5, some (.loc (S.length + 1 + 1))] (AT cs i' :: (S ++ [some (.lst []), some (.lst (acc'.map .str))]))) ∧ It acc' [] ∧ (∀ x, x ∈ acc ∨ x ∈ th → x ∈ acc') ∧ i' ≤ i + 2 * (m + 1) := by
      intro j tie hj ht hb
      obtain ⟨k, hk, hk1⟩ := ix (j + 1)
      obtain ⟨acc', i', h1, h2, h3, h4⟩ := ih f (th.eraseIdx k) _ (j + 1) (by rw [List.length_eraseIdx, if_pos hk1]; omega) (it.step hk1 tie ht) (by omega) (by omega)
      refine ⟨acc', i', fun p1 p2 p3 p4 p5 => ?_, h2, fun x hx => h3 x ?_, by omega⟩
      · rw [wl_next (cond p1 p2 p3 p4 p5) (hb k hk hk1)]
        exact h1 _ _ _ _ _
      · rcases hx with hx | hx
        · left; simp [hx]
        · rcases mem_erase hk1 hx with rfl | hx
          · left; simp
          · right; exact hx
    by_cases c0 : (0 : Int) < acc.length
    · by_cases c1 : (acc.length : Int) < 8 - th.length
      · by_cases c2 : V cs (i + 1) % 2 = 0
        · refine step (i + 1) true (by omega) (fun _ => ⟨by rintro rfl; simp at c0, by omega⟩) fun k hk hk1 => ?_
          have hp := pop_map hk1 (by omega)
          push_cast [List.length_map, c0, c1, c2, p_l_next, hk, hp, List.map_append, List.map_cons, List.map_nil, List.append_assoc]
        · refine step (i + 1) false (by omega) (fun z => nomatch z) fun k hk hk1 => ?_
          have hp := pop_map hk1 (by omega)
          push_cast [List.length_map, c0, c1, c2, p_l_next, hk, hp, List.map_append, List.map_cons, List.map_nil, List.append_assoc]
      · refine step i false (by omega) (fun z => nomatch z) fun k hk hk1 => ?_
        have hp := pop_map hk1 (by omega)
        push_cast [List.length_map, c0, c1, p_l_next, hk, hp, List.map_append, List.map_cons, List.map_nil, List.append_assoc]
    · refine step i false (by omega) (fun z => nomatch z) fun k hk hk1 => ?_
      have hp := pop_map hk1 (by omega)
      push_cast [List.length_map, c0, p_l_next, hk, hp, List.map_append, List.map_cons, List.map_nil, List.append_assoc]
/-- things gathered -/
structure Th (sg th : List Str) : Prop where
  ln : th.length ≤ 8
  ok : ∀ x ∈ th, okItem x = true ∧ x ≠ "+"
  one : ∀ s ∈ SIGNS, th.count s ≤ 1
  sub : ∀ x ∈ sg, x ∈ th
theorem word_np {w : Str} (h : isWord w = true) : w ≠ "+" ∧ w ∉ SIGNS := by
  obtain ⟨h1, _⟩ := isWord_len h
  constructor
  · rintro rfl
    exact absurd h1 (by decide +kernel)
  · intro hm
    have : ∀ s ∈ SIGNS, ¬ 2 ≤ s.length := by decide +kernel
    exact this w hm h1
theorem Th.add {sg th : List Str} (h : Th sg th) (hl : th.length < 8) {w : Str} (hw : isWord w = true) : Th sg (th ++ [w]) := by
  refine ⟨by simp; omega, fun x hx => ?_, fun s hs => ?_, fun x hx => List.mem_append_left _ (h.sub x hx)⟩
  · rcases List.mem_append.mp hx with hx | hx
    · exact h.ok x hx
    · rw [List.mem_singleton.mp hx]
      exact ⟨by simp [okItem, hw], (word_np hw).1⟩
  · rw [List.count_append]
    have := h.one s hs
    have : List.count s [w] = 0 := List.count_eq_zero_of_not_mem (by simp; rintro rfl; exact (word_np hw).2 hs)
    omega
theorem atI_words {ws : List Str} (hn : ws ≠ []) (hw : ∀ w ∈ ws, isWord w = true) (x : Int) : ∃ w, atI (ws.map D.str) (x % (ws.length : Int)) = some (.str w) ∧ isWord w = true ∧ w.length ≤ 10 := by
  refine ⟨_, atI_len hn x, hw _ (pick_len hn x), ?_⟩
  exact (isWord_len (hw _ (pick_len hn x))).2
theorem things_loop {n : Nat} (cs : List Int) (ws : List Str) (hn : ws ≠ []) (hw : ∀ w ∈ ws, isWord w = true) (S : Store) (w3 w6 : Option W) (sg : List Str) (ks : List Nat) (i : Nat) (hi : i + ks.length ≤ 90000) (th : List Str) (h : Th sg th) (j : Option W) :
    ∃ th' i' j', (∀ p, fl (Tn G fs (n+1)) G (.nm 5 p) l_items_F0b (ks.map fun k : Nat => .int k) [some (.t (.ro (cs.map .int))), some (.loc 0), some (.t (.lst (ws.map .str))), w3, some (.loc (S.length + 1)), j, w6] (AT cs i :: (S ++ [some (.lst (th.map .str))])) =
      .next [some (.t (.ro (cs.map .int))), some (.loc 0), some (.t (.lst (ws.map .str))), w3, some (.loc (S.length + 1)), j', w6] (AT cs i' :: (S ++ [some (.lst (th'.map .str))]))) ∧ Th sg th' ∧ (∀ x ∈ th, x ∈ th') ∧ (ks ≠ [] → th.length < 8 → ∃ w ∈ th', isWord w = true) ∧ i' ≤ i + ks.length := by
  induction ks generalizing i th j with
  | nil => exact ⟨th, i, j, fun _ => rfl, h, fun _ hx => hx, fun z => absurd rfl z, by omega⟩
  | cons k r ih =>
    have hlen : 0 < ws.length := List.length_pos_iff.mpr hn
    have : Ps (ws.length : Int) := ⟨by omega⟩
    simp only [List.length_cons] at hi
    have : Cn i 100000 := ⟨by omega⟩
    obtain ⟨a, ha, aw, _⟩ := atI_words hn hw (V cs (i + 1))
    have hln := h.ln
    have : Ln th 100 := ⟨by omega⟩
    by_cases h8 : (th.length : Int) < 8
    · obtain ⟨th', i', j', ih, h1, h2, h3, h4⟩ := ih (i + 1) (by omega) (th ++ [a]) (h.add (by omega) aw) (some (.t (.int k)))
      refine ⟨th', i', j', fun p => ?_, h1, fun x hx => h2 x (List.mem_append_left _ hx), fun _ _ => ⟨a, h2 a (by simp), aw⟩, by simp only [List.length_cons]; omega⟩
      simp only [List.map_append, List.map_cons, List.map_nil] at ih
      push_cast [List.map_cons, fl_cons, p_l_next, List.length_map, h8, ha, ih]
    · obtain ⟨th', i', j', ih, h1, h2, h3, h4⟩ := ih i (by omega) th h (some (.t (.int k)))
      refine ⟨th', i', j', fun p => ?_, h1, h2, fun _ z => absurd z (by omega), by simp only [List.length_cons]; omega⟩
      push_cast [List.map_cons, fl_cons, List.length_map, h8, ih]
abbrev RKQ : List Str := ["R", "K", "Q", "N", "W", "U"]
theorem th_start {sg : List Str} (h : sg.Sublist RKQ) : Th sg sg := by
  have hn : RKQ.Nodup := by decide +kernel
  have hm : ∀ x ∈ RKQ, okItem x = true ∧ x ≠ "+" := by decide +kernel
  refine ⟨Nat.le_trans h.length_le (by decide), fun x hx => hm x (h.subset hx), fun s _ => ?_, fun _ hx => hx⟩
  exact List.nodup_iff_count.mp (h.nodup hn) s
theorem p_l_items (n : Nat) (cs : List Int) (i : Nat) (hi : i ≤ 80000) (S : Store) (ws : List Str) (hn : ws ≠ []) (hw : ∀ w ∈ ws, isWord w = true) (sg : List Str) (hs : sg.Sublist RKQ) :
    ∃ xs i', Tn G fs (n+2) 15 [.t (.ro (cs.map .int)), .loc 0, .t (.lst (ws.map .str)), .t (.lst (sg.map .str))] (AT cs i :: S) = .ok (.t (.lst (xs.map .str))) (AT cs i' :: S) ∧ itemsFit xs = true ∧ (∀ x ∈ sg, x ∈ xs) ∧ i' ≤ i + 21 := by
  rw [t_l_items]
  have : Cn i 100000 := ⟨by omega⟩
  have v1 := V_ok cs (i + 1)
  have v2 := V_ok cs (i + 1 + 1)
  obtain ⟨m, hm, m1, m2⟩ : ∃ m : Nat, 1 + V cs (i + 1) % 3 / 2 * (V cs (i + 1 + 1) % 3) = (m : Int) ∧ 1 ≤ m ∧ m ≤ 3 := by
    have e : V cs (i + 1) % 3 / 2 = 0 ∨ V cs (i + 1) % 3 / 2 = 1 := by omega
    rcases e with e | e <;> rw [e]
    · exact ⟨1, by omega, by omega, by omega⟩
    · exact ⟨(1 + V cs (i + 1 + 1) % 3).toNat, by omega, by omega, by omega⟩
  have t0 := th_start hs
  have hl6 : sg.length ≤ 6 := hs.length_le
  obtain ⟨th, i2, j5, hl, h1, h2, h3, h4⟩ := things_loop (n := n) cs ws hn hw S (some (.t (.lst (sg.map .str)))) none sg (List.range m) (i + 1 + 1) (by simp; omega) sg t0 none
  obtain ⟨w, hwm, hww⟩ := h3 (by simp; omega) (by omega)
  simp only [List.length_range] at h4
  obtain ⟨xs, i3, hwl, it, hx, hi3⟩ := items_while (n := n) cs S (some (.t (.lst (ws.map .str)))) (some (.t (.lst (sg.map .str)))) j5 th.length 1000000 th [] i2 rfl ⟨by simpa using h1.ln, fun _ h => (nomatch h), h1.ok, fun s hs => by simpa using h1.one s hs, .inl rfl, w, hww, .inr hwm⟩ (by have := h1.ln; omega) (by have := h1.ln; omega)
  refine ⟨xs, i3, ?_, it.fit, fun x hxs => hx x (.inr (h1.sub x hxs)), by have := h1.ln; omega⟩
  push_cast [p_l_next, List.cons_append, List.nil_append, hm]
  rw [rng1 (by omega), Int.toNat_natCast]
  simp only [List.map_nil] at hwl
  push_cast [hl, List.cons_append, List.nil_append, List.append_assoc, List.length_append, hwl]
/-! rules drawn -/
theorem rule_I0 (n : Nat) (cs : List Int) (i : Nat) (hi : i ≤ 80000) (S : Store) (w2 w7 w8 w9 w10 w11 w12 w13 : Option W) (small : Bool) (nv low base : Int) (hl : 0 ≤ low ∧ low < 10 ^ 60) (hb : 2 ≤ base ∧ base < 10 ^ 60) :
    ∃ (low' base' : Int) (i' : Nat), l_rule_I0.ev (Tn G fs (n+2)) G [some (.t (.ro (cs.map .int))), some (.loc 0), w2, some (.t (.bl small)), some (.t (.int nv)), some (.t (.int low)), some (.t (.int base)), w7, w8, w9, w10, w11, w12, w13] (AT cs i :: S) =
      .next [some (.t (.ro (cs.map .int))), some (.loc 0), w2, some (.t (.bl small)), some (.t (.int nv)), some (.t (.int low')), some (.t (.int base')), w7, w8, w9, w10, w11, w12, w13] (AT cs i' :: S) ∧ (0 ≤ low' ∧ low' < 10 ^ 60) ∧ (2 ≤ base' ∧ base' < 10 ^ 60) ∧ i' ≤ i + 2 := by
  cases small
  · by_cases h3 : 0 < nv % 3
    · obtain ⟨z1, e1, a1, a2⟩ := p_l_great n cs i (by omega) S
      obtain ⟨z2, e2, b1, b2⟩ := p_l_great n cs (i + 1) (by omega) S
      have : Bd z1 200 := ⟨by omega⟩
      have : Bd z2 200 := ⟨by omega⟩
      refine ⟨z1 * 9 / 10, 2 + z2 * 9 / 10, i + 1 + 1, ?_, by omega, by omega, by omega⟩
      push_cast [h3, e1, e2]
    · refine ⟨low, base, i, ?_, hl, hb, by omega⟩
      push_cast [h3]
  · refine ⟨low, base, i, ?_, hl, hb, by omega⟩
    push_cast
theorem rule_I2 (n : Nat) (cs : List Int) (i : Nat) (hi : i ≤ 80000) (S : Store) (w2 w3 w5 w7 w10 w11 w12 w13 : Option W) (nv base f : Int) (hn : 0 ≤ nv ∧ nv < 2 ^ 40) (hb : 2 ≤ base ∧ base < 10 ^ 60) (hf : 0 ≤ f ∧ f < base) :
    ∃ (f' l' : Int) (i' : Nat), l_rule_I2.ev (Tn G fs (n+2)) G [some (.t (.ro (cs.map .int))), some (.loc 0), w2, w3, some (.t (.int nv)), w5, some (.t (.int base)), w7, some (.t (.int f)), some (.t (.int f)), w10, w11, w12, w13] (AT cs i :: S) =
      .next [some (.t (.ro (cs.map .int))), some (.loc 0), w2, w3, some (.t (.int nv)), w5, some (.t (.int base)), w7, some (.t (.int f')), some (.t (.int l')), w10, w11, w12, w13] (AT cs i' :: S) ∧ (0 ≤ f' ∧ f' ≤ l' ∧ l' < base) ∧ i' ≤ i + 1 := by
  have : Cn i 100000 := ⟨by omega⟩
  by_cases h : 0 < nv / 12 % 3
  · have : Ps base := ⟨by omega⟩
    have b0 := Int.emod_nonneg (V cs (i + 1)) (show base ≠ 0 by omega)
    have b1 := Int.emod_lt_of_pos (V cs (i + 1)) (show 0 < base by omega)
    have : Ps (base - V cs (i + 1) % base) := ⟨by omega⟩
    refine ⟨V cs (i + 1) % base, V cs (i + 1) % base + pick 0 [0, nv % 40] (nv / 36 % 2) % (base - V cs (i + 1) % base), i + 1, ?_, ?_, by omega⟩
    · push_cast [h, p_l_next]
    · have c0 := Int.emod_nonneg (pick 0 [0, nv % 40] (nv / 36 % 2)) (show base - V cs (i + 1) % base ≠ 0 by omega)
      have c1 := Int.emod_lt_of_pos (pick 0 [0, nv % 40] (nv / 36 % 2)) (show 0 < base - V cs (i + 1) % base by omega)
      omega
  · refine ⟨f, f, i, ?_, by omega, by omega⟩
    push_cast [h]
abbrev RK : List Str := ["R", "K"]
abbrev QQ : List Str := ["Q", "N", "W", "U"]
theorem rule_I3 (n : Nat) (S : Store) (w0 w1 w2 w3 w5 w6 w7 w11 w12 w13 : Option W) (nv f l : Int) (sg : List Str) (hs : sg.Sublist RK) :
    ∃ sg' : List Str, l_rule_I3.ev (Tn G fs n) G [w0, w1, w2, w3, some (.t (.int nv)), w5, w6, w7, some (.t (.int f)), some (.t (.int l)), some (.t (.lst (sg.map .str))), w11, w12, w13] S =
      .next [w0, w1, w2, w3, some (.t (.int nv)), w5, w6, w7, some (.t (.int f)), some (.t (.int l)), some (.t (.lst (sg'.map .str))), w11, w12, w13] S ∧ sg'.Sublist RK ∧ (f = l ∨ sg' ≠ []) := by
  by_cases h : f = l
  · refine ⟨sg, ?_, hs, .inl h⟩
    push_cast [h]
  · by_cases hz : sg = []
    · subst hz
      obtain ⟨c, hc, hc2⟩ : ∃ c, atI (Str.ofString "RK").cps.toList (nv / 216 % 2) = some c ∧ [(⟨#[c]⟩ : Str)].Sublist RK := by
        have : nv / 216 % 2 = 0 ∨ nv / 216 % 2 = 1 := by omega
        rcases this with e | e <;> rw [e]
        · exact ⟨82, by decide +kernel, by decide +kernel⟩
        · exact ⟨75, by decide +kernel, by decide +kernel⟩
      refine ⟨[⟨#[c]⟩], ?_, hc2, .inr (by simp)⟩
      have e0 := eqv_strs0 (xs := ([] : List Str))
      simp only [List.map_nil] at e0
      push_cast [h, e0, hc, List.map_nil]
    · refine ⟨sg, ?_, hs, .inr hz⟩
      push_cast [h, hz]
theorem rule_I4 (n : Nat) (S : Store) (w0 w1 w2 w3 w8 w9 w10 w12 w13 : Option W) (nv low base high : Int) (hb : 2 ≤ base ∧ base < 10 ^ 60) (mo : List Str) (hs : mo.Sublist QQ) :
    ∃ mo' : List Str, l_rule_I4.ev (Tn G fs n) G [w0, w1, w2, w3, some (.t (.int nv)), some (.t (.int low)), some (.t (.int base)), some (.t (.int high)), w8, w9, w10, some (.t (.lst (mo.map .str))), w12, w13] S =
      .next [w0, w1, w2, w3, some (.t (.int nv)), some (.t (.int low)), some (.t (.int base)), some (.t (.int high)), w8, w9, w10, some (.t (.lst (mo'.map .str))), w12, w13] S ∧ mo'.Sublist QQ ∧ (low / base = high / base ∨ mo' ≠ []) := by
  have : Ps base := ⟨by omega⟩
  have : Bd base 200 := ⟨by omega⟩
  by_cases h : low / base = high / base
  · refine ⟨mo, ?_, hs, .inl h⟩
    push_cast [h]
  · by_cases hz : mo = []
    · subst hz
      obtain ⟨c, hc, hc2⟩ : ∃ c, atI (Str.ofString "QNWU").cps.toList (nv / 432 % 4) = some c ∧ [(⟨#[c]⟩ : Str)].Sublist QQ := by
        have : nv / 432 % 4 = 0 ∨ nv / 432 % 4 = 1 ∨ nv / 432 % 4 = 2 ∨ nv / 432 % 4 = 3 := by omega
        rcases this with e | e | e | e <;> rw [e]
        · exact ⟨81, by decide +kernel, by decide +kernel⟩
        · exact ⟨78, by decide +kernel, by decide +kernel⟩
        · exact ⟨87, by decide +kernel, by decide +kernel⟩
        · exact ⟨85, by decide +kernel, by decide +kernel⟩
      refine ⟨[⟨#[c]⟩], ?_, hc2, .inr (by simp)⟩
      have e0 := eqv_strs0 (xs := ([] : List Str))
      simp only [List.map_nil] at e0
      push_cast [h, e0, hc, List.map_nil]
    · refine ⟨mo, ?_, hs, .inr hz⟩
      push_cast [h, hz]
/-- a comprehension whose tests change the store -/
theorem cq_sub {α : Type} {T : Nat → List W → Store → Res W} {g : Sig} {ρ : Env'} {elt tg ifs} (xs : List α) (enc f : α → D) (St : Nat → Store) (L : Nat) (hL : ∀ i, (St i).length = L) (i lim : Nat) (hi : i + xs.length ≤ lim)
    (h : ∀ x ∈ xs, ∀ i acc, i + 1 ≤ lim → ∃ b : Bool, ct T g elt tg ifs ρ (enc x) (St i ++ [some (.lst acc)]) = .ok (if b then some (f x) else none) (St (i + 1) ++ [some (.lst acc)])) (hl : xs.length ≤ sizeLine) :
    ∃ ys : List α, ys.Sublist xs ∧ cq T g elt tg ifs ρ (xs.map enc, none) (St i) = .ok (.t (.lst (ys.map f))) (St (i + xs.length)) := by
  have key : ∀ (k j i : Nat) (acc : List D), k + j = xs.length → acc.length ≤ j → i + k ≤ lim → ∃ ys : List α, ys.Sublist (xs.drop j) ∧ turnsL (ct T g elt tg ifs ρ) L (xs.map enc, none) k j (St i ++ [some (.lst acc)]) = .ok () (St (i + k) ++ [some (.lst (acc ++ ys.map f))]) := by
    intro k
    induction k with
    | zero => intro j i acc h1 h2 h3; exact ⟨[], by simp, by simp [turnsL, itOk]⟩
    | succ k ih =>
      intro j i acc h1 h2 h3
      have hj : j < xs.length := by omega
      obtain ⟨b, e1⟩ := h xs[j] (List.getElem_mem hj) i acc (by omega)
      have e3 : get (St (i + 1) ++ [some (Ob.lst acc)]) L = some (.lst acc) := by rw [← hL (i + 1), get_app0, get_0]
      have e4 : ∀ d, (St (i + 1) ++ [some (Ob.lst acc)]).set L (some (.lst (acc ++ [d]))) = St (i + 1) ++ [some (.lst (acc ++ [d]))] := fun d => by rw [← hL (i + 1), set_app0]; rfl
      have e0 : itAt (xs.map enc, none) (St i ++ [some (.lst acc)]) j = some (enc xs[j]) := by simp [itAt, hj]
      cases b
      · obtain ⟨ys, hy, e2⟩ := ih (j + 1) (i + 1) acc (by omega) (by omega) (by omega)
        refine ⟨ys, ?_, ?_⟩
        · rw [List.drop_eq_getElem_cons hj]; exact hy.cons _
        · simp only [turnsL, e0, e1, if_false, Bool.false_eq_true, e2]
          rw [show i + 1 + k = i + (k + 1) by omega]
      · obtain ⟨ys, hy, e2⟩ := ih (j + 1) (i + 1) (acc ++ [f xs[j]]) (by omega) (by simp; omega) (by omega)
        refine ⟨xs[j] :: ys, ?_, ?_⟩
        · rw [List.drop_eq_getElem_cons hj]; exact hy.cons₂ _
        · simp only [turnsL, e0, e1, if_true, e3, if_pos (show acc.length < sizeLine by omega), e4, e2]
          rw [show i + 1 + k = i + (k + 1) by omega]
          simp
  obtain ⟨ys, hy, e⟩ := key xs.length 0 i [] (by omega) (by simp) hi
  refine ⟨ys, by simpa using hy, ?_⟩
  unfold cq
  rw [hL, show (xs.map enc, (none : Option Nat)).1.length = xs.length by simp, e]
  simp only [List.nil_append, compRes]
  rw [← hL (i + xs.length), get_app0, get_0]
  simp
def rT (q : Nums) (xs : List Str) : D := .tup [.int q.low, .int q.high, .int q.base, .int q.first, .int q.last, .lst (xs.map .str)]
theorem rT_eq (q : Nums) (xs : List Str) : rT q xs = .tup [.int q.low, .int q.high, .int q.base, .int q.first, .int q.last, .lst (xs.map .str)] := (rfl)
/-- a rule as it is drawn -/
structure Ru (q : Nums) (xs : List Str) : Prop where
  ok : ruleOk q xs = true
  bl : q.low < 10 ^ 61
  bh : q.high < 10 ^ 61
  bb : q.base < 10 ^ 61
theorem ru_of {q : Nums} {xs : List Str} (h1 : numsOk q = true) (h2 : itemsFit xs = true) (h3 : tells q xs = true) (a : q.low < 10 ^ 61) (b : q.high < 10 ^ 61) (c : q.base < 10 ^ 61) : Ru q xs := ⟨by unfold ruleOk; rw [h1, h2, h3]; rfl, a, b, c⟩
theorem fit_one {w : Str} (hw : isWord w = true) : itemsFit [w] = true :=
  It.fit (acc := [w]) ⟨by simp, fun x hx => by rw [List.mem_singleton.mp hx]; simp [okItem, hw], fun _ h => (nomatch h), fun s hs => by
    have : List.count s [w] = 0 := List.count_eq_zero_of_not_mem (by simp; rintro rfl; exact (word_np hw).2 hs)
    simp [this], .inr ⟨w, by simp [tsG, (word_np hw).1], (word_np hw).1⟩, w, hw, .inl (by simp)⟩
theorem p_l_rule (n : Nat) (cs : List Int) (i : Nat) (hi : i ≤ 70000) (S : Store) (ws : List Str) (hn : ws ≠ []) (hw : ∀ w ∈ ws, isWord w = true) (small : Bool) :
    ∃ (q : Nums) (xs : List Str) (i' : Nat), Tn G fs (n+3) 16 [.t (.ro (cs.map .int)), .loc 0, .t (.lst (ws.map .str)), .t (.bl small)] (AT cs i :: S) = .ok (.t (rT q xs)) (AT cs i' :: S) ∧ Ru q xs ∧ i' ≤ i + 40 := by
  rw [t_l_rule]
  have hlen : 0 < ws.length := List.length_pos_iff.mpr hn
  have : Ps (ws.length : Int) := ⟨by omega⟩
  have : Cn i 100000 := ⟨by omega⟩
  have v := V_ok cs (i + 1)
  obtain ⟨low, base, i1, h0, l0, b0, hi1⟩ := rule_I0 n cs (i + 1) (by omega) S (some (.t (.lst (ws.map .str)))) none none none none none none none small (V cs (i + 1)) (V cs (i + 1) / 9 % 100) (2 + V cs (i + 1) / 900 % 30) (by omega) (by omega)
  have : Ps base := ⟨by omega⟩
  have : Bd base 200 := ⟨by omega⟩
  have : Bd low 200 := ⟨by omega⟩
  by_cases h4 : V cs (i + 1) % 4 = 0
  · obtain ⟨w, ha, aw, _⟩ := atI_words hn hw (V cs (i + 1) / 36)
    refine ⟨⟨low, low, 2, low % 2, low % 2⟩, [w], i1, ?_, ru_of ?_ (fit_one aw) ?_ (by dsimp only; omega) (by dsimp only; omega) (by dsimp only; omega), by omega⟩
    · push_cast [p_l_next, -e_l_rule_I0, h0, h4, List.length_map, ha]
      rfl
    · simp only [numsOk, Bool.and_eq_true, decide_eq_true_eq]
      omega
    · simp [tells]
  obtain ⟨f, l, i2, h2, f0, hi2⟩ := rule_I2 n cs i1 (by omega) S (some (.t (.lst (ws.map .str)))) (some (.t (.bl small))) (some (.t (.int low))) (some (.t (.int (low + pick 0 [0, 1, V cs (i + 1) % 50] (V cs (i + 1) / 4 % 3))))) none none none none (V cs (i + 1)) base (low % base) (by omega) (by omega) ⟨Int.emod_nonneg _ (by omega), Int.emod_lt_of_pos _ (by omega)⟩
  have hhi : 0 ≤ pick 0 [0, 1, V cs (i + 1) % 50] (V cs (i + 1) / 4 % 3) ∧ pick 0 [0, 1, V cs (i + 1) % 50] (V cs (i + 1) / 4 % 3) < 50 := pick_ind 3 (P := fun x => 0 ≤ x ∧ x < 50) rfl (by omega) (by
    intro x hx
    simp only [List.mem_cons, List.not_mem_nil, or_false] at hx
    rcases hx with rfl | rfl | rfl <;> omega)
  obtain ⟨hg, hhg⟩ : ∃ hg, low + pick 0 [0, 1, V cs (i + 1) % 50] (V cs (i + 1) / 4 % 3) = hg := ⟨_, rfl⟩
  rw [hhg] at h2
  have : Bd hg 200 := ⟨by omega⟩
  obtain ⟨sg, hsg, sg0⟩ : ∃ sg : List Str, cutL [D.str "R", D.str "K"] none (some (V cs (i + 1) / 72 % 3)) = sg.map .str ∧ sg.Sublist RK := by
    have : V cs (i + 1) / 72 % 3 = ((0 : Nat) : Int) ∨ V cs (i + 1) / 72 % 3 = ((1 : Nat) : Int) ∨ V cs (i + 1) / 72 % 3 = ((2 : Nat) : Int) := by omega
    rcases this with e | e | e <;> rw [e, cutL_to]
    · exact ⟨[], rfl, by decide +kernel⟩
    · exact ⟨["R"], rfl, by decide +kernel⟩
    · exact ⟨["R", "K"], rfl, by decide +kernel⟩
  obtain ⟨sg', h3, s1, s2⟩ := rule_I3 (n + 2) (AT cs i2 :: S) (some (.t (.ro (cs.map .int)))) (some (.loc 0)) (some (.t (.lst (ws.map .str)))) (some (.t (.bl small))) (some (.t (.int low))) (some (.t (.int base))) (some (.t (.int hg))) none none none (V cs (i + 1)) f l sg sg0
  push_cast [p_l_next, -e_l_rule_I0, -e_l_rule_I2, -e_l_rule_I3, h0, h4, hhg, h2, hsg, h3]
  generalize hr : cq _ _ _ _ _ _ _ _ = r
  obtain ⟨ys, hy, e⟩ : ∃ ys : List Nat, ys.Sublist (tl (Str.ofString "QNWU")) ∧ r = .ok (.t (.lst (ys.map fun c => .str ⟨#[c]⟩))) (AT cs (i2 + 4) :: S) := by
    rw [← hr]
    exact cq_sub (tl (Str.ofString "QNWU")) (fun c => D.str ⟨#[c]⟩) (fun c => D.str ⟨#[c]⟩) (fun i => AT cs i :: S) (S.length + 1) (fun _ => rfl) i2 90000 (by have : (tl (Str.ofString "QNWU")).length = 4 := (by decide +kernel); omega) (by
      intro c _ j acc hj
      have : Cn j 100000 := ⟨by omega⟩
      by_cases h : V cs (j + 1) % 4 = 0
      · exact ⟨true, by push_cast [List.cons_append, p_l_next, h]⟩
      · exact ⟨false, by push_cast [List.cons_append, p_l_next, h]⟩) (by decide +kernel)
  have hQ : (tl (Str.ofString "QNWU")).map (fun c => (⟨#[c]⟩ : Str)) = QQ := by decide +kernel
  have hmo : (ys.map fun c => (⟨#[c]⟩ : Str)).Sublist QQ := by rw [← hQ]; exact hy.map _
  obtain ⟨mo', h5, m1, m2⟩ := rule_I4 (n + 2) (AT cs (i2 + 4) :: S) (some (.t (.ro (cs.map .int)))) (some (.loc 0)) (some (.t (.lst (ws.map .str)))) (some (.t (.bl small))) (some (.t (.int f))) (some (.t (.int l))) (some (.t (.lst (sg'.map .str)))) none none (V cs (i + 1)) low base hg ⟨by omega, by omega⟩ (ys.map fun c => (⟨#[c]⟩ : Str)) hmo
  obtain ⟨xs, i3, h6, fit, hsub, hi3⟩ := p_l_items n cs (i2 + 4) (by omega) S ws hn hw (sg' ++ mo') (s1.append m1)
  simp only [List.map_map, Function.comp_def] at h5
  simp only [List.map_append] at h6
  have : Ln sg' 2 := ⟨s1.length_le⟩
  have : Ln mo' 4 := ⟨m1.length_le⟩
  push_cast [-e_l_rule_I4, e, h5, h6]
  refine ⟨⟨low, hg, base, f, l⟩, xs, i3, rfl, ru_of ?_ fit ?_ (by dsimp only; omega) (by dsimp only; omega) (by dsimp only; omega), by omega⟩
  · simp only [numsOk, Bool.and_eq_true, decide_eq_true_eq]
    omega
  · have a1 : f = l ∨ ("R" : Str) ∈ xs ∨ ("K" : Str) ∈ xs := by
      rcases s2 with h | h
      · exact .inl h
      · obtain ⟨x, r', rfl⟩ := List.exists_cons_of_ne_nil h
        have hx : x ∈ RK := s1.subset List.mem_cons_self
        have hm := hsub x (by simp)
        simp only [RK, List.mem_cons, List.not_mem_nil, or_false] at hx
        rcases hx with rfl | rfl
        · exact .inr (.inl hm)
        · exact .inr (.inr hm)
    have a2 : low / base = hg / base ∨ ∃ s ∈ QQ, s ∈ xs := by
      rcases m2 with h | h
      · exact .inl h
      · obtain ⟨x, r', rfl⟩ := List.exists_cons_of_ne_nil h
        exact .inr ⟨x, m1.subset List.mem_cons_self, hsub x (by simp)⟩
    unfold tells
    simp only [Bool.and_eq_true, Bool.or_eq_true, decide_eq_true_eq, List.any_eq_true]
    refine ⟨?_, ?_⟩
    · rcases a1 with h | h | h
      · exact .inl (.inl h)
      · exact .inl (.inr h)
      · exact .inr h
    · rcases a2 with h | ⟨s, h, k⟩
      · exact .inl h
      · exact .inr ⟨s, h, k⟩
/-! sixteen unlike words -/
def wk (st : Str) (q : Nat) (sh : Int) (k : Nat) : Str := cutS st none (some (q : Int)) ++ ⟨#[pick 0 (tl SMALL) ((sh + k) % 26)]⟩ ++ cutS st (some ((q : Int) + 1)) none
theorem wk_tl (st : Str) (q : Nat) (sh : Int) (k : Nat) : tl (wk st q sh k) = (tl st).take q ++ [pick 0 (tl SMALL) ((sh + k) % 26)] ++ (tl st).drop (q + 1) := by
  unfold wk
  rw [tl_app, tl_app, cutS_tl, cutS_tl, tl_ch, cutL_to, show (q : Int) + 1 = ((q + 1 : Nat) : Int) by omega, cutL_from]
theorem stem_tl {a b z k : Nat} : tl (cutS (repS (⟨#[a]⟩ ++ ⟨#[b]⟩) k) none (some (z : Int))) = ((List.replicate k [a, b]).flatten).take z := by
  rw [cutS_tl, cutL_to, repS_tl, tl_app, tl_ch, tl_ch]
  rfl
theorem p_l_words2 (n : Nat) (cs : List Int) (i m : Nat) (hi : i ≤ 90000) (hm : m ≤ 26) (S : Store) : ∃ (st : Str) (z q a b : Nat) (sh : Int), Tn G fs (n+2) 11 [.t (.ro (cs.map .int)), .loc 0, .t (.int m)] (AT cs i :: S) = .ok (.t (.lst (((List.range m).map (wk st q sh)).map .str))) (AT cs (i + 1) :: S) ∧ a ∈ tl SMALL ∧ b ∈ tl SMALL ∧ tl st = ((List.replicate 5 [a, b]).flatten).take z ∧ 2 ≤ z ∧ z ≤ 10 ∧ q < z := by
  rw [t_l_words]
  have : Cn i 90000 := ⟨hi⟩
  obtain ⟨z, hz, z1, z2⟩ : ∃ z : Nat, 2 + V cs (i + 1) % 9 = (z : Int) ∧ 2 ≤ z ∧ z ≤ 10 := ⟨(2 + V cs (i + 1) % 9).toNat, by omega, by omega, by omega⟩
  obtain ⟨q, hq, q1⟩ : ∃ q : Nat, V cs (i + 1) / 9 % (z : Int) = (q : Int) ∧ q < z := ⟨(V cs (i + 1) / 9 % (z : Int)).toNat, by have := Int.emod_nonneg (V cs (i + 1) / 9) (show (z : Int) ≠ 0 by omega); omega, by have := Int.emod_lt_of_pos (V cs (i + 1) / 9) (show (0 : Int) < z by omega); omega⟩
  have : Ps (z : Int) := ⟨by omega⟩
  have : Bd (z : Int) 5 := ⟨by omega⟩
  push_cast [p_l_next, hz, hq, b2_repS]
  rw [rng1 (by omega)]
  rw [show Int.toNat 5 = 5 from rfl]
  have ha := pick26 (V cs (i + 1) / 81)
  have hb := pick26 (V cs (i + 1) / 2106)
  simp only [SMALL] at ha hb
  generalize pick 0 (tl (Str.ofString "abcdefghijklmnopqrstuvwxyz")) (V cs (i + 1) / 81 % 26) = a at *
  generalize pick 0 (tl (Str.ofString "abcdefghijklmnopqrstuvwxyz")) (V cs (i + 1) / 2106 % 26) = b at *
  have hst := stem_tl (a := a) (b := b) (z := z) (k := 5)
  generalize cutS (repS _ 5) none (some (z : Int)) = st at *
  have hls : st.length ≤ 10 := by rw [tl_len, hst, List.length_take]; omega
  have : Ls st 10 := ⟨hls⟩
  have : Bd (q : Int) 5 := ⟨by omega⟩
  push_cast [Int.toNat_natCast]
  rw [cq_map (List.range m) (fun k : Nat => D.int k) (fun k => .str (wk st q (V cs (i + 1) / 54756 % 26) k)) ?_ (sl_n (by rw [List.length_range]; omega))]
  · refine ⟨st, z, q, a, b, V cs (i + 1) / 54756 % 26, by simp!, ha, hb, hst, z1, z2, q1⟩
  · intro k hk acc
    have : Bd (k : Int) 8 := ⟨by have := List.mem_range.mp hk; omega⟩
    push_cast [SMALL]
    rfl
theorem wk_ok {st : Str} {z q a b : Nat} {sh : Int} (ha : a ∈ tl SMALL) (hb : b ∈ tl SMALL) (hs : tl st = ((List.replicate 5 [a, b]).flatten).take z) (z1 : 2 ≤ z) (z2 : z ≤ 10) (hq : q < z) (k : Nat) : isWord (wk st q sh k) = true := by
  have hl : (tl st).length = z := by rw [hs, List.length_take]; simp; omega
  refine cutw_ok hl (fun c hc => ?_) z1 z2 hq (pick26 _)
  rw [hs] at hc
  have hc := List.mem_of_mem_take hc
  simp only [List.mem_flatten, List.mem_replicate] at hc
  obtain ⟨l, ⟨_, rfl⟩, hc⟩ := hc
  simp only [List.mem_cons, List.not_mem_nil, or_false] at hc
  rcases hc with rfl | rfl
  · exact ha
  · exact hb
theorem small_inj : ∀ i < 26, ∀ j < 26, pick 0 (tl SMALL) ((i : Nat) : Int) = pick 0 (tl SMALL) ((j : Nat) : Int) → i = j := by
  unfold pick
  decide +kernel
theorem wk_inj {st : Str} {z q : Nat} {sh : Int} (hl : (tl st).length = z) (hq : q < z) {k j : Nat} (hk : k < 26) (hj : j < 26) (h : wk st q sh k = wk st q sh j) : k = j := by
  have h := congrArg tl h
  rw [wk_tl, wk_tl, List.append_assoc, List.append_assoc] at h
  have h := List.append_cancel_left h
  simp only [List.cons_append, List.nil_append, List.cons.injEq, and_true] at h
  obtain ⟨x, hx, x1⟩ : ∃ x : Nat, (sh + k) % 26 = (x : Int) ∧ x < 26 := ⟨((sh + k) % 26).toNat, by omega, by omega⟩
  obtain ⟨y, hy, y1⟩ : ∃ y : Nat, (sh + j) % 26 = (y : Int) ∧ y < 26 := ⟨((sh + j) % 26).toNat, by omega, by omega⟩
  rw [hx, hy] at h
  have := small_inj x x1 y y1 h
  omega
/-- of the first four signs two at every other place are alike -/
def alt (x : Str) : Prop := match tl x with
  | a :: b :: c :: d :: _ => a = c ∨ b = d
  | _ => True
theorem wk_alt {st : Str} {z q a b : Nat} {sh : Int} (hs : tl st = ((List.replicate 5 [a, b]).flatten).take z) (z2 : z ≤ 10) (hq : q < z) (k : Nat) : alt (wk st q sh k) := by
  unfold alt
  rw [wk_tl, hs]
  generalize pick 0 (tl SMALL) ((sh + k) % 26) = c
  have e : (List.replicate 5 [a, b]).flatten = [a, b, a, b, a, b, a, b, a, b] := rfl
  rw [e]
  have hz : z = 0 ∨ z = 1 ∨ z = 2 ∨ z = 3 ∨ z = 4 ∨ z = 5 ∨ z = 6 ∨ z = 7 ∨ z = 8 ∨ z = 9 ∨ z = 10 := by omega
  have hy : q = 0 ∨ q = 1 ∨ q = 2 ∨ q = 3 ∨ q = 4 ∨ q = 5 ∨ q = 6 ∨ q = 7 ∨ q = 8 ∨ q = 9 ∨ q = 10 := by omega
  clear hs
  rcases hz with rfl | rfl | rfl | rfl | rfl | rfl | rfl | rfl | rfl | rfl | rfl <;>
    rcases hy with rfl | rfl | rfl | rfl | rfl | rfl | rfl | rfl | rfl | rfl | rfl <;>
    first | (exfalso; omega) | simp
abbrev SIX : List Str := ["rule", "word", "melt", "kind", "turn", "bound"]
theorem six_alt : ∀ x ∈ SIX, isWord x = true ∧ ¬ alt x := by
  have : ∀ x ∈ SIX, isWord x = true := by decide +kernel
  intro x hx
  refine ⟨this x hx, ?_⟩
  simp only [SIX, List.mem_cons, List.not_mem_nil, or_false] at hx
  rcases hx with rfl | rfl | rfl | rfl | rfl | rfl
  · rw [alt, show tl (Str.ofString "rule") = [114, 117, 108, 101] by decide +kernel]; simp
  · rw [alt, show tl (Str.ofString "word") = [119, 111, 114, 100] by decide +kernel]; simp
  · rw [alt, show tl (Str.ofString "melt") = [109, 101, 108, 116] by decide +kernel]; simp
  · rw [alt, show tl (Str.ofString "kind") = [107, 105, 110, 100] by decide +kernel]; simp
  · rw [alt, show tl (Str.ofString "turn") = [116, 117, 114, 110] by decide +kernel]; simp
  · rw [alt, show tl (Str.ofString "bound") = [98, 111, 117, 110, 100] by decide +kernel]; simp
structure Wds (us : List Str) : Prop where
  ln : us.length = 16
  ok : ∀ w ∈ us, isWord w = true
  nd : us.Nodup
theorem Wds.ne {us : List Str} (h : Wds us) : us ≠ [] := by rintro rfl; exact absurd h.ln (by decide)
theorem words_wds {st : Str} {z q a b : Nat} {sh : Int} (ha : a ∈ tl SMALL) (hb : b ∈ tl SMALL) (hs : tl st = ((List.replicate 5 [a, b]).flatten).take z) (z1 : 2 ≤ z) (z2 : z ≤ 10) (hq : q < z) :
    Wds ((List.range 16).map (wk st q sh)) ∧ Wds (SIX ++ ((List.range 16).map (wk st q sh)).drop 6) := by
  have hl : (tl st).length = z := by rw [hs, List.length_take]; simp; omega
  have nd : ((List.range 16).map (wk st q sh)).Nodup := by
    rw [List.nodup_iff_pairwise_ne, List.pairwise_map]
    refine List.Pairwise.imp_of_mem (fun {x y} hx hy hxy e => ?_) (List.nodup_iff_pairwise_ne.mp (List.nodup_range (n := 16)))
    exact hxy (wk_inj hl hq (by have := List.mem_range.mp hx; omega) (by have := List.mem_range.mp hy; omega) e)
  have ok : ∀ w ∈ (List.range 16).map (wk st q sh), isWord w = true ∧ alt w := by
    intro w hw
    obtain ⟨k, _, rfl⟩ := List.mem_map.mp hw
    exact ⟨wk_ok ha hb hs z1 z2 hq k, wk_alt hs z2 hq k⟩
  refine ⟨⟨by simp, fun w hw => (ok w hw).1, nd⟩, ⟨by simp, fun w hw => ?_, ?_⟩⟩
  · rcases List.mem_append.mp hw with hw | hw
    · exact (six_alt w hw).1
    · exact (ok w (List.mem_of_mem_drop hw)).1
  · rw [List.nodup_append]
    refine ⟨by decide +kernel, (List.drop_sublist 6 _).nodup nd, fun x hx y hy e => ?_⟩
    subst e
    exact (six_alt x hx).2 (ok x (List.mem_of_mem_drop hy)).2
/-! kinds drawn -/
theorem tnG_eq : ∀ (ps : List (Str × Str)) (f : List Str), (tnG f ps).isSome = (decide ((ps.map (·.1)).Nodup) && (ps.all fun p => isWord p.1 && isWord p.2) && ps.all fun p => !decide (p.1 ∈ f))
  | [], f => by simp [tnG]
  | p :: r, f => by
    have ih := tnG_eq r (f ++ [p.1])
    simp only [tnG]
    by_cases h : p.1 ∈ f
    · simp [h]
    · by_cases hw : (isWord p.1 && isWord p.2) = true
      · simp only [hw, h, decide_false, Bool.not_false, Bool.and_self, if_true, ih, List.map_cons, List.nodup_cons, List.all_cons, Bool.true_and]
        have : (r.all fun q => !decide (q.1 ∈ f ++ [p.1])) = ((r.all fun q => !decide (q.1 ∈ f)) && decide (p.1 ∉ r.map (·.1))) := by
          rw [Bool.eq_iff_iff]
          simp only [List.all_eq_true, Bool.and_eq_true, Bool.not_eq_true', decide_eq_false_iff_not, List.mem_append, List.mem_singleton, not_or, decide_eq_true_eq, List.mem_map, not_exists, not_and]
          constructor
          · intro z; exact ⟨fun q hq => (z q hq).1, fun q hq => (z q hq).2⟩
          · rintro ⟨a, b⟩ q hq; exact ⟨a q hq, b q hq⟩
        rw [this]
        by_cases h1 : p.1 ∈ r.map (·.1) <;> by_cases h2 : (r.map (·.1)).Nodup <;> simp [h1, h2]
      · have hw' : (isWord p.1 && isWord p.2) = false := by simpa using hw
        simp only [hw', Bool.false_and, List.all_cons, Bool.and_false]
        simp
theorem areTurns_eq (ps : List (Str × Str)) : areTurns ps = (decide ((ps.map (·.1)).Nodup) && ps.all fun p => isWord p.1 && isWord p.2) := by
  unfold areTurns
  rw [tnG_eq]
  simp
abbrev T1 : List Str := ["a", "which", "partsofa", "share"]
abbrev T2 : List Str := ["kind", "turn", "rule", "bound"]
def tit (b : Bool) (k : Nat) : Str := (if b then T2 else T1).getD k Str.empty
theorem tit_ok : ∀ b : Bool, ∀ k < 4, isTitle (tit b k) = true ∧ (tit b k).length ≤ 8 := by decide +kernel
theorem tit_nd : ∀ b : Bool, ∀ m < 5, ((List.range m).map (tit b)).Nodup := by decide +kernel
theorem tit_at0 : ∀ k < 4, (T1.map D.str)[k]? = some (.str (tit false k)) := fun k hk => match k, hk with
  | 0, _ => rfl
  | 1, _ => rfl
  | 2, _ => rfl
  | 3, _ => rfl
theorem tit_at1 : ∀ k < 4, (T2.map D.str)[k]? = some (.str (tit true k)) := fun k hk => match k, hk with
  | 0, _ => rfl
  | 1, _ => rfl
  | 2, _ => rfl
  | 3, _ => rfl
theorem bf_intB {b : Bool} : bf .int [.bl b] = some (.int (if b = true then 1 else 0)) := (rfl)
def isRl (us : List Str) : Bool := decide (us[0]? = some ("rule" : Str))
/-- the first words of the turns -/
def fst (us : List Str) (c : Int) (t : Nat) : Str := pick Str.empty us ((c + t) % (us.length : Int))
theorem pick_inj {us : List Str} (h : us.Nodup) {i j : Int} (h0 : 0 ≤ i) (h1 : i < us.length) (h2 : 0 ≤ j) (h3 : j < us.length) (e : pick Str.empty us i = pick Str.empty us j) : i = j := by
  unfold pick at e
  have a : i.toNat < us.length := by omega
  have b : j.toNat < us.length := by omega
  rw [List.getD_eq_getElem?_getD, List.getD_eq_getElem?_getD, List.getElem?_eq_getElem a, List.getElem?_eq_getElem b] at e
  have e : us[i.toNat] = us[j.toNat] := by simpa using e
  have h := List.pairwise_iff_getElem.mp (List.nodup_iff_pairwise_ne.mp h)
  rcases Nat.lt_trichotomy i.toNat j.toNat with q | q | q
  · exact absurd e (h _ _ a b q)
  · omega
  · exact absurd e.symm (h _ _ b a q)
theorem fst_nd {us : List Str} (h : Wds us) (c : Int) {m : Nat} (hm : m ≤ 12) : ((List.range m).map (fst us c)).Nodup := by
  rw [List.nodup_iff_pairwise_ne, List.pairwise_map]
  refine List.Pairwise.imp_of_mem (fun {x y} hx hy hxy e => ?_) (List.nodup_iff_pairwise_ne.mp (List.nodup_range (n := m)))
  have hx := List.mem_range.mp hx
  have hy := List.mem_range.mp hy
  have hl := h.ln
  unfold fst at e
  rw [hl] at e
  have := pick_inj h.nd (by omega) (by rw [hl]; omega) (by omega) (by rw [hl]; omega) e
  omega
theorem turns_loop2 {n : Nat} (cs : List Int) (us : List Str) (hu : Wds us) (S : Store) (w3 w5 : Option W) (c : Int) (nv : Int) (hc : nv / 4 = c) (hb : 0 ≤ nv ∧ nv < 2 ^ 40) (r : Nat) : ∀ (j i : Nat) (ps : List (Str × Str)) (o : Option W), i + r ≤ 90000 → j + r ≤ 100 → ps.map (·.1) = (List.range j).map (fst us c) → (∀ p ∈ ps, isWord p.1 = true ∧ isWord p.2 = true) →
    ∃ (ps' : List (Str × Str)) (i' : Nat) (o' : Option W), (∀ p, fl (Tn G fs (n+1)) G (.nm 7 p) l_kind_F0b ((List.range' j r).map fun k : Nat => .int k) [some (.t (.ro (cs.map .int))), some (.loc 0), some (.t (.lst (us.map .str))), w3, some (.t (.int nv)), w5, some (.loc (S.length + 1)), o] (AT cs i :: (S ++ [some (.lst (ps.map pr))])) =
      .next [some (.t (.ro (cs.map .int))), some (.loc 0), some (.t (.lst (us.map .str))), w3, some (.t (.int nv)), w5, some (.loc (S.length + 1)), o'] (AT cs i' :: (S ++ [some (.lst (ps'.map pr))]))) ∧ ps'.map (·.1) = (List.range (j + r)).map (fst us c) ∧ (∀ p ∈ ps', isWord p.1 = true ∧ isWord p.2 = true) ∧ i' = i + r := by
  induction r with
  | zero => intro j i ps o _ _ h1 h2; exact ⟨ps, i, o, fun _ => rfl, h1, h2, rfl⟩
  | succ r ih =>
    intro j i ps o hi hj h1 h2
    have hl := hu.ln
    have : Ps (us.length : Int) := ⟨by omega⟩
    have : Cn i 100000 := ⟨by omega⟩
    have : Bd nv 40 := ⟨by omega⟩
    have : Bd (j : Int) 10 := ⟨by omega⟩
    have hpl : ps.length = j := by have := congrArg List.length h1; simpa using this
    have : Ln ps 100 := ⟨by omega⟩
    have ha : atI (us.map D.str) ((nv / 4 + j) % (us.length : Int)) = some (.str (fst us c j)) := by rw [hc]; exact atI_len hu.ne (c + j)
    have hf : isWord (fst us c j) = true := hu.ok _ (pick_len hu.ne _)
    obtain ⟨b, hb', bw, _⟩ := atI_words hu.ne hu.ok (V cs (i + 1))
    obtain ⟨ps', i', o', ih, a1, a2, a3⟩ := ih (j + 1) (i + 1) (ps ++ [(fst us c j, b)]) (some (.t (.int j))) (by omega) (by omega) (by rw [List.map_append, h1, List.range_succ, List.map_append]; rfl) (fun p hp => by
      rcases List.mem_append.mp hp with hp | hp
      · exact h2 p hp
      · rw [List.mem_singleton.mp hp]; exact ⟨hf, bw⟩)
    refine ⟨ps', i', o', fun p => ?_, by rw [a1]; congr 2; omega, a2, by omega⟩
    simp only [List.map_append, List.map_cons, List.map_nil] at ih
    push_cast [List.range'_succ, List.map_cons, fl_cons, p_l_next, List.length_map, ha, hb', ih]
structure Kd (q : KK) : Prop where
  ok : kindOk q = true
  ls : LsK q
  fs : ∀ p ∈ q.2.2, p.1.length ≤ 10 ∧ p.2.length ≤ 10
  tl : q.1.length ≤ 8
  el : q.2.1.length ≤ 10
  ln : q.2.2.length ≤ 12
theorem p_l_kind (n : Nat) (cs : List Int) (i : Nat) (hi : i ≤ 80000) (S : Store) (us : List Str) (hu : Wds us) (k : Nat) (hk : k < 4) : ∃ (q : KK) (i' : Nat), Tn G fs (n+2) 17 [.t (.ro (cs.map .int)), .loc 0, .t (.lst (us.map .str)), .t (.int k)] (AT cs i :: S) = .ok (.t (kT q)) (AT cs i' :: S) ∧ Kd q ∧ q.1 = tit (isRl us) k ∧ i' ≤ i + 13 := by
  rw [t_l_kind]
  have hl := hu.ln
  have : Ps (us.length : Int) := ⟨by omega⟩
  have : Cn i 100000 := ⟨by omega⟩
  have v := V_ok cs (i + 1)
  obtain ⟨w0, r, rfl⟩ : ∃ w0 r, us = w0 :: r := by
    cases us with
    | nil => exact absurd rfl hu.ne
    | cons a r => exact ⟨a, r, rfl⟩
  obtain ⟨m, hm, m1⟩ : ∃ m : Nat, pick (0 : Int) [0, 1, 2, 12] (V cs (i + 1) % 4) = (m : Int) ∧ m ≤ 12 := by
    refine pick_ind 4 (P := fun x => ∃ m : Nat, x = (m : Int) ∧ m ≤ 12) rfl (by omega) ?_
    intro x hx
    simp only [List.mem_cons, List.not_mem_nil, or_false] at hx
    rcases hx with rfl | rfl | rfl | rfl
    · exact ⟨0, rfl, by omega⟩
    · exact ⟨1, rfl, by omega⟩
    · exact ⟨2, rfl, by omega⟩
    · exact ⟨12, rfl, by omega⟩
  obtain ⟨e, he, ew, e1⟩ := atI_words hu.ne hu.ok (V cs (i + 1) / 100)
  have main : ∀ b : Bool, (isRl (w0 :: r) = b) → ∃ (q : KK) (i' : Nat), endF (AT cs i :: S).length (b_l_kind.ev (Tn G fs (n+1)) G [some (.t (.ro (cs.map .int))), some (.loc 0), some (.t (.lst ((w0 :: r).map .str))), some (.t (.int k)), none, none, none, none] (AT cs i :: S)) = .ok (.t (kT q)) (AT cs i' :: S) ∧ Kd q ∧ q.1 = tit b k ∧ i' ≤ i + 13 := by
    intro b hb
    obtain ⟨ps, i2, o, h1, h2, h3, h4⟩ := turns_loop2 (n := n) cs (w0 :: r) hu S (some (.t (.int k))) (some (.t (.str (tit b k)))) (V cs (i + 1) / 4) (V cs (i + 1)) rfl (by omega) m 0 (i + 1) [] none (by omega) (by omega) rfl (fun _ h => nomatch h)
    rw [Nat.zero_add] at h2
    have hpl : ps.length = m := by have := congrArg List.length h2; simpa using this
    have ht := tit_ok b k hk
    have kd : Kd (tit b k, e, ps) := by
      refine ⟨?_, ⟨by dsimp only; omega, by dsimp only; omega, fun p hp => ?_, by dsimp only; omega⟩, fun p hp => ?_, ht.2, e1, by dsimp only; omega⟩
      · unfold kindOk
        dsimp only
        rw [ht.1, ew, areTurns_eq]
        have nd : decide ((ps.map (·.1)).Nodup) = true := by rw [h2]; exact decide_eq_true (fst_nd hu _ m1)
        rw [nd]
        simp only [Bool.true_and, List.all_eq_true, Bool.and_eq_true]
        exact h3
      · have := isWord_len (h3 p hp).1
        have := isWord_len (h3 p hp).2
        omega
      · have := isWord_len (h3 p hp).1
        have := isWord_len (h3 p hp).2
        omega
    refine ⟨(tit b k, e, ps), i2, ?_, kd, rfl, by omega⟩
    have a0 := tit_at0 k hk
    have a1 := tit_at1 k hk
    simp only [T1, T2, List.map_cons, List.map_nil] at a0 a1
    simp only [List.map_nil] at h1
    have ek : ∀ l : List D, atI l (k : Int) = l[k]? := fun l => Rf.atI_nat
    cases b
    · have hw0 : ¬ w0 = "rule" := by simpa [isRl] using hb
      push_cast [p_l_next, hw0, bf_intB, ek, a0, hm, List.cons_append, List.nil_append]
      rw [rng1 (by omega), Int.toNat_natCast, List.range_eq_range']
      simp only [List.map_cons, List.length_cons] at h1 he
      push_cast [h1, List.length_map, he]
      rfl
    · have hw0 : w0 = "rule" := by simpa [isRl] using hb
      subst hw0
      push_cast [p_l_next, bf_intB, ek, a1, hm, List.cons_append, List.nil_append]
      rw [rng1 (by omega), Int.toNat_natCast, List.range_eq_range']
      simp only [List.map_cons, List.length_cons] at h1 he
      push_cast [h1, List.length_map, he]
      rfl
  exact main _ rfl
/-! all that a tongue is made of -/
def rTp (p : Nums × List Str) : D := rT p.1 p.2
def dT (b : Int) (rs : List (Nums × List Str)) (ms : List Melt) (qs : List KK) : D := .tup [.int b, .lst (rs.map rTp), .lst (meltsD ms), .lst (qs.map kT)]
theorem dT_eq (b : Int) (rs : List (Nums × List Str)) (ms : List Melt) (qs : List KK) : dT b rs ms qs = .tup [.int b, .lst (rs.map rTp), .lst (meltsD ms), .lst (qs.map kT)] := (rfl)
structure Da (b : Int) (rs : List (Nums × List Str)) (ms : List Melt) (qs : List KK) : Prop where
  b0 : 0 ≤ b
  b1 : b < 10 ^ 60
  rz : ∀ p ∈ rs, Ru p.1 p.2
  rl : rs.length ≤ 40
  mz : ∀ x ∈ ms, meltOk x = true
  ml : ms.length ≤ 12
  qz : ∀ q ∈ qs, Kd q
  ql : qs.length ≤ 4
  qn : (qs.map (·.1)).Nodup
theorem rules_loop {n : Nat} (cs : List Int) (us : List Str) (hu : Wds us) (S : Store) (w6 w7 w8 : Option W) (nv : Int) (ks : List Nat) (i : Nat) (hi : i + 40 * ks.length ≤ 60000) (rs : List (Nums × List Str)) (hr : ∀ p ∈ rs, Ru p.1 p.2) (hl : rs.length + ks.length ≤ 100) (j : Option W) :
    ∃ (rs' : List (Nums × List Str)) (i' : Nat) (j' : Option W), (∀ p, fl (Tn G fs (n+3)) G (.nm 5 p) l_data_F0b (ks.map fun k : Nat => .int k) [some (.t (.ro (cs.map .int))), some (.loc 0), some (.t (.lst (us.map .str))), some (.t (.int nv)), some (.loc (S.length + 1)), j, w6, w7, w8] (AT cs i :: (S ++ [some (.lst (rs.map rTp))])) =
      .next [some (.t (.ro (cs.map .int))), some (.loc 0), some (.t (.lst (us.map .str))), some (.t (.int nv)), some (.loc (S.length + 1)), j', w6, w7, w8] (AT cs i' :: (S ++ [some (.lst (rs'.map rTp))]))) ∧ (∀ p ∈ rs', Ru p.1 p.2) ∧ rs'.length = rs.length + ks.length ∧ i' ≤ i + 40 * ks.length := by
  induction ks generalizing i rs j with
  | nil => exact ⟨rs, i, j, fun _ => rfl, hr, rfl, by omega⟩
  | cons k r ih =>
    simp only [List.length_cons] at hi hl
    have : Ln rs 1000 := ⟨by omega⟩
    obtain ⟨q, xs, i2, h1, ru, hi2⟩ := p_l_rule n cs i (by omega) (S ++ [some (.lst (rs.map rTp))]) us hu.ne hu.ok (decide (nv % 4 = 3))
    obtain ⟨rs', i', j', ih, a1, a2, a3⟩ := ih i2 (by omega) (rs ++ [(q, xs)]) (fun p hp => by
      rcases List.mem_append.mp hp with hp | hp
      · exact hr p hp
      · rw [List.mem_singleton.mp hp]; exact ru) (by simp; omega) (some (.t (.int k)))
    refine ⟨rs', i', j', fun p => ?_, a1, by simp at a2 ⊢; omega, by simp only [List.length_cons]; omega⟩
    simp only [List.map_append, List.map_cons, List.map_nil] at ih
    push_cast [List.map_cons, fl_cons, h1]
    exact ih p
theorem cq_stR {α : Type} {T : Nat → List W → Store → Res W} {g : Sig} {ρ : Env'} {elt tg ifs} (xs : List α) (enc : α → D) (St : Nat → Store) (L : Nat) (hL : ∀ i, (St i).length = L) (P : α → D → Prop) (m lim i : Nat) (hi : i + m * xs.length ≤ lim)
    (h : ∀ x ∈ xs, ∀ i acc, i + m ≤ lim → ∃ d i', ct T g elt tg ifs ρ (enc x) (St i ++ [some (.lst acc)]) = .ok (some d) (St i' ++ [some (.lst acc)]) ∧ P x d ∧ i' ≤ i + m) (hl : xs.length ≤ sizeLine) :
    ∃ ds i', cq T g elt tg ifs ρ (xs.map enc, none) (St i) = .ok (.t (.lst ds)) (St i') ∧ ds.length = xs.length ∧ (∀ (j : Nat) (h1 : j < xs.length) (h2 : j < ds.length), P xs[j] ds[j]) ∧ i' ≤ i + m * xs.length := by
  have key : ∀ (k j i : Nat) (acc : List D), k + j = xs.length → acc.length = j → (∀ (t : Nat) (h1 : t < xs.length) (h2 : t < acc.length), P xs[t] acc[t]) → i + m * k ≤ lim → ∃ ds i', turnsL (ct T g elt tg ifs ρ) L (xs.map enc, none) k j (St i ++ [some (.lst acc)]) = .ok () (St i' ++ [some (.lst ds)]) ∧ ds.length = xs.length ∧ (∀ (t : Nat) (h1 : t < xs.length) (h2 : t < ds.length), P xs[t] ds[t]) ∧ i' ≤ i + m * k := by
    intro k
    induction k with
    | zero => intro j i acc h1 h2 h3 h4; exact ⟨acc, i, by simp [turnsL, itOk], by omega, h3, by omega⟩
    | succ k ih =>
      intro j i acc h1 h2 h3 h4
      have hj : j < xs.length := by omega
      rw [Nat.mul_succ] at h4
      obtain ⟨d, i1, e1, hp, l1⟩ := h xs[j] (List.getElem_mem hj) i acc (by omega)
      obtain ⟨ds, i2, e2, hd, hq, l2⟩ := ih (j + 1) i1 (acc ++ [d]) (by omega) (by simp; omega) (fun t h5 h6 => by
        by_cases q : t < acc.length
        · rw [List.getElem_append_left q]; exact h3 t h5 q
        · have : t = j := by simp at h6; omega
          subst this
          rw [List.getElem_append_right (by omega)]
          simpa [h2] using hp) (by omega)
      refine ⟨ds, i2, ?_, hd, hq, by rw [Nat.mul_succ]; omega⟩
      simp only [turnsL]
      rw [show itAt (xs.map enc, none) (St i ++ [some (.lst acc)]) j = some (enc xs[j]) by simp [itAt, hj]]
      have e3 : get (St i1 ++ [some (Ob.lst acc)]) L = some (.lst acc) := by rw [← hL i1, get_app0, get_0]
      have e4 : (St i1 ++ [some (Ob.lst acc)]).set L (some (.lst (acc ++ [d]))) = St i1 ++ [some (.lst (acc ++ [d]))] := by rw [← hL i1, set_app0]; rfl
      simp only [e1, e3, if_pos (show acc.length < sizeLine by omega), e4, e2]
  obtain ⟨ds, i', e, hd, hp, hl'⟩ := key xs.length 0 i [] (by omega) rfl (fun _ _ h => (nomatch h)) hi
  refine ⟨ds, i', ?_, hd, hp, hl'⟩
  unfold cq
  rw [hL, show (xs.map enc, (none : Option Nat)).1.length = xs.length by simp, e]
  simp only [compRes]
  rw [← hL i', get_app0, get_0]
  simp
theorem p_l_data (n : Nat) (cs : List Int) (i : Nat) (hi : i ≤ 2000) (S : Store) : ∃ (b : Int) (rs : List (Nums × List Str)) (ms : List Melt) (qs : List KK) (i' : Nat),
    Tn G fs (n+6) 18 [.t (.ro (cs.map .int)), .loc 0] (AT cs i :: S) = .ok (.t (dT b rs ms qs)) (AT cs i' :: S) ∧ Da b rs ms qs ∧ i' ≤ i + 1700 := by
  rw [t_l_data]
  have : Cn i 90000 := ⟨by omega⟩
  obtain ⟨st, z, q, a, b, sh, hws, ha, hb, hst, z1, z2, hq⟩ := p_l_words2 (n + 3) cs i 16 (by omega) (by omega) S
  change Tn G fs (n+5) 11 [.t (.ro (cs.map .int)), .loc 0, .t (.int 16)] (AT cs i :: S) = _ at hws
  obtain ⟨u1, u2⟩ := words_wds (sh := sh) ha hb hst z1 z2 hq
  generalize (List.range 16).map (wk st q sh) = ws at *
  have : Ln ws 16 := ⟨Nat.le_of_eq u1.ln⟩
  by_cases h2 : V cs (i + 1 + 1) % 2 = 0
  · have hsix : [D.str "rule", D.str "word", D.str "melt", D.str "kind", D.str "turn", D.str "bound"] ++ (cutL ws (some 6) none).map D.str = (SIX ++ ws.drop 6).map .str := by
      rw [show (some (6 : Int)) = some ((6 : Nat) : Int) from rfl, cutL_from]
      rfl
    push_cast [hws, p_l_next, h2, hsix]
    generalize hus : SIX ++ ws.drop 6 = us at *
    have hu := u2
    have v := V_ok cs (i + 1 + 1 + 1)
    obtain ⟨m, hm, m1⟩ : ∃ m : Nat, pick (0 : Int) [V cs (i + 1 + 1 + 1) / 9 % 10, V cs (i + 1 + 1 + 1) / 9 % 4, 1 + V cs (i + 1 + 1 + 1) / 9 % 9, 40] (V cs (i + 1 + 1 + 1) % 4) = (m : Int) ∧ m ≤ 40 := by
      refine pick_ind 4 (P := fun x => ∃ m : Nat, x = (m : Int) ∧ m ≤ 40) rfl (by omega) ?_
      intro x hx
      simp only [List.mem_cons, List.not_mem_nil, or_false] at hx
      rcases hx with rfl | rfl | rfl | rfl
      · exact ⟨(V cs (i + 1 + 1 + 1) / 9 % 10).toNat, by omega, by omega⟩
      · exact ⟨(V cs (i + 1 + 1 + 1) / 9 % 4).toNat, by omega, by omega⟩
      · exact ⟨(1 + V cs (i + 1 + 1 + 1) / 9 % 9).toNat, by omega, by omega⟩
      · exact ⟨40, rfl, by omega⟩
    obtain ⟨m2, hm2, m3⟩ : ∃ m2 : Nat, V cs (i + 1 + 1 + 1) / 90 % 5 = (m2 : Int) ∧ m2 ≤ 4 := ⟨(V cs (i + 1 + 1 + 1) / 90 % 5).toNat, by omega, by omega⟩
    obtain ⟨rs, i2, j2, hl, r1, r2, r3⟩ := rules_loop (n := n + 2) cs us hu S none none none (V cs (i + 1 + 1 + 1)) (List.range m) (i + 1 + 1 + 1) (by simp; omega) [] (fun _ h => nomatch h) (by simp; omega) none
    simp only [List.length_range, List.length_nil, Nat.zero_add] at r2 r3
    obtain ⟨ms, i3, hms, ml, mo, hi3⟩ := p_l_melts (n + 2) cs i2 (by omega) (S ++ [none]) us hu.ne hu.ok
    change Tn G fs (n+5) 13 [.t (.ro (cs.map .int)), .loc 0, .t (.lst (us.map .str)), .t (.int 12)] (AT cs i2 :: (S ++ [none])) = _ at hms
    push_cast [hm, List.cons_append, List.nil_append]
    rw [rng1 (by omega), Int.toNat_natCast]
    simp only [List.map_nil] at hl
    push_cast [hl, hms, hm2]
    rw [rng1 (by omega), Int.toNat_natCast]
    push_cast
    generalize hr : cq _ _ _ _ _ _ _ _ = r
    obtain ⟨ds, i4, e, hd, hP, hi4⟩ : ∃ ds i4, r = .ok (.t (.lst ds)) (AT cs i4 :: (S ++ [none])) ∧ ds.length = (List.range m2).length ∧ (∀ (j : Nat) (h1 : j < (List.range m2).length) (h2 : j < ds.length), ∃ q : KK, ds[j] = kT q ∧ Kd q ∧ q.1 = tit (isRl us) ((List.range m2)[j])) ∧ i4 ≤ i3 + 13 * (List.range m2).length := by
      rw [← hr]
      exact cq_stR (List.range m2) (fun k : Nat => D.int k) (fun i => AT cs i :: (S ++ [none])) ((S ++ [none]).length + 1) (fun _ => rfl) (fun k d => ∃ q : KK, d = kT q ∧ Kd q ∧ q.1 = tit (isRl us) k) 13 70000 i3 (by simp; omega) (by
        intro k hk j acc hj
        obtain ⟨q, i', h1, h2, h3, h4⟩ := p_l_kind (n + 3) cs j (by omega) (S ++ [none] ++ [some (.lst acc)]) us hu k (by have := List.mem_range.mp hk; omega)
        refine ⟨kT q, i', ?_, ⟨q, rfl, h2, h3⟩, h4⟩
        push_cast [List.cons_append, h1]) (by simp; exact sl_n (by omega))
    rw [List.length_range] at hd hi4
    obtain ⟨qs, rfl, qk, qt⟩ : ∃ qs : List KK, ds = qs.map kT ∧ (∀ q ∈ qs, Kd q) ∧ qs.map (·.1) = (List.range m2).map (tit (isRl us)) := by
      have pc : ∀ j : Nat, ∃ q : KK, ∀ (h1 : j < m2), ds[j]? = some (kT q) ∧ Kd q ∧ q.1 = tit (isRl us) j := fun j => by
        by_cases h1 : j < m2
        · obtain ⟨q, a, b, c⟩ := hP j (by simpa using h1) (by omega)
          exact ⟨q, fun _ => ⟨by rw [List.getElem?_eq_getElem (by omega), a], b, by simpa using c⟩⟩
        · exact ⟨(Str.empty, Str.empty, []), fun h => absurd h h1⟩
      refine ⟨(List.range m2).map fun j => Classical.choose (pc j), ?_, ?_, ?_⟩
      · apply List.ext_getElem?
        intro j
        by_cases h1 : j < m2
        · rw [((Classical.choose_spec (pc j)) h1).1]
          simp [h1]
        · rw [List.getElem?_eq_none (by omega), List.getElem?_eq_none (by simp; omega)]
      · intro q hq
        obtain ⟨j, hj, rfl⟩ := List.mem_map.mp hq
        exact ((Classical.choose_spec (pc j)) (List.mem_range.mp hj)).2.1
      · rw [List.map_map]
        apply List.map_congr_left
        intro j hj
        exact ((Classical.choose_spec (pc j)) (List.mem_range.mp hj)).2.2
    obtain ⟨b, hg, g0, g1⟩ := p_l_great (n + 3) cs i4 (by omega) (S ++ [none])
    have ql : qs.length = m2 := by rw [List.length_map] at hd; exact hd
    refine ⟨b, rs, ms, qs, i4 + 1, ?_, ⟨g0, g1, r1, by omega, mo, ml, qk, by omega, by rw [qt]; exact tit_nd _ m2 (by omega)⟩, by omega⟩
    push_cast [e, hg]
    rfl
  · push_cast [hws, p_l_next, h2]
    generalize hus : ws = us at *
    have hu := u1
    have v := V_ok cs (i + 1 + 1 + 1)
    obtain ⟨m, hm, m1⟩ : ∃ m : Nat, pick (0 : Int) [V cs (i + 1 + 1 + 1) / 9 % 10, V cs (i + 1 + 1 + 1) / 9 % 4, 1 + V cs (i + 1 + 1 + 1) / 9 % 9, 40] (V cs (i + 1 + 1 + 1) % 4) = (m : Int) ∧ m ≤ 40 := by
      refine pick_ind 4 (P := fun x => ∃ m : Nat, x = (m : Int) ∧ m ≤ 40) rfl (by omega) ?_
      intro x hx
      simp only [List.mem_cons, List.not_mem_nil, or_false] at hx
      rcases hx with rfl | rfl | rfl | rfl
      · exact ⟨(V cs (i + 1 + 1 + 1) / 9 % 10).toNat, by omega, by omega⟩
      · exact ⟨(V cs (i + 1 + 1 + 1) / 9 % 4).toNat, by omega, by omega⟩
      · exact ⟨(1 + V cs (i + 1 + 1 + 1) / 9 % 9).toNat, by omega, by omega⟩
      · exact ⟨40, rfl, by omega⟩
    obtain ⟨m2, hm2, m3⟩ : ∃ m2 : Nat, V cs (i + 1 + 1 + 1) / 90 % 5 = (m2 : Int) ∧ m2 ≤ 4 := ⟨(V cs (i + 1 + 1 + 1) / 90 % 5).toNat, by omega, by omega⟩
    obtain ⟨rs, i2, j2, hl, r1, r2, r3⟩ := rules_loop (n := n + 2) cs us hu S none none none (V cs (i + 1 + 1 + 1)) (List.range m) (i + 1 + 1 + 1) (by simp; omega) [] (fun _ h => nomatch h) (by simp; omega) none
    simp only [List.length_range, List.length_nil, Nat.zero_add] at r2 r3
    obtain ⟨ms, i3, hms, ml, mo, hi3⟩ := p_l_melts (n + 2) cs i2 (by omega) (S ++ [none]) us hu.ne hu.ok
    change Tn G fs (n+5) 13 [.t (.ro (cs.map .int)), .loc 0, .t (.lst (us.map .str)), .t (.int 12)] (AT cs i2 :: (S ++ [none])) = _ at hms
    push_cast [hm, List.cons_append, List.nil_append]
    rw [rng1 (by omega), Int.toNat_natCast]
    simp only [List.map_nil] at hl
    push_cast [hl, hms, hm2]
    rw [rng1 (by omega), Int.toNat_natCast]
    push_cast
    generalize hr : cq _ _ _ _ _ _ _ _ = r
    obtain ⟨ds, i4, e, hd, hP, hi4⟩ : ∃ ds i4, r = .ok (.t (.lst ds)) (AT cs i4 :: (S ++ [none])) ∧ ds.length = (List.range m2).length ∧ (∀ (j : Nat) (h1 : j < (List.range m2).length) (h2 : j < ds.length), ∃ q : KK, ds[j] = kT q ∧ Kd q ∧ q.1 = tit (isRl us) ((List.range m2)[j])) ∧ i4 ≤ i3 + 13 * (List.range m2).length := by
      rw [← hr]
      exact cq_stR (List.range m2) (fun k : Nat => D.int k) (fun i => AT cs i :: (S ++ [none])) ((S ++ [none]).length + 1) (fun _ => rfl) (fun k d => ∃ q : KK, d = kT q ∧ Kd q ∧ q.1 = tit (isRl us) k) 13 70000 i3 (by simp; omega) (by
        intro k hk j acc hj
        obtain ⟨q, i', h1, h2, h3, h4⟩ := p_l_kind (n + 3) cs j (by omega) (S ++ [none] ++ [some (.lst acc)]) us hu k (by have := List.mem_range.mp hk; omega)
        refine ⟨kT q, i', ?_, ⟨q, rfl, h2, h3⟩, h4⟩
        push_cast [List.cons_append, h1]) (by simp; exact sl_n (by omega))
    rw [List.length_range] at hd hi4
    obtain ⟨qs, rfl, qk, qt⟩ : ∃ qs : List KK, ds = qs.map kT ∧ (∀ q ∈ qs, Kd q) ∧ qs.map (·.1) = (List.range m2).map (tit (isRl us)) := by
      have pc : ∀ j : Nat, ∃ q : KK, ∀ (h1 : j < m2), ds[j]? = some (kT q) ∧ Kd q ∧ q.1 = tit (isRl us) j := fun j => by
        by_cases h1 : j < m2
        · obtain ⟨q, a, b, c⟩ := hP j (by simpa using h1) (by omega)
          exact ⟨q, fun _ => ⟨by rw [List.getElem?_eq_getElem (by omega), a], b, by simpa using c⟩⟩
        · exact ⟨(Str.empty, Str.empty, []), fun h => absurd h h1⟩
      refine ⟨(List.range m2).map fun j => Classical.choose (pc j), ?_, ?_, ?_⟩
      · apply List.ext_getElem?
        intro j
        by_cases h1 : j < m2
        · rw [((Classical.choose_spec (pc j)) h1).1]
          simp [h1]
        · rw [List.getElem?_eq_none (by omega), List.getElem?_eq_none (by simp; omega)]
      · intro q hq
        obtain ⟨j, hj, rfl⟩ := List.mem_map.mp hq
        exact ((Classical.choose_spec (pc j)) (List.mem_range.mp hj)).2.1
      · rw [List.map_map]
        apply List.map_congr_left
        intro j hj
        exact ((Classical.choose_spec (pc j)) (List.mem_range.mp hj)).2.2
    obtain ⟨b, hg, g0, g1⟩ := p_l_great (n + 3) cs i4 (by omega) (S ++ [none])
    have ql : qs.length = m2 := by rw [List.length_map] at hd; exact hd
    refine ⟨b, rs, ms, qs, i4 + 1, ?_, ⟨g0, g1, r1, by omega, mo, ml, qk, by omega, by rw [qt]; exact tit_nd _ m2 (by omega)⟩, by omega⟩
    push_cast [e, hg]
    rfl
/-! rows of a text -/
def rDp (p : Nums × List Str) : D := .ins 6 (insR p.1 p.2)
theorem rDp_eq (q : Nums) (xs : List Str) : rDp (q, xs) = .ins 6 [(3, .int q.low), (5, .int q.high), (4, .int q.base), (0, .int q.first), (1, .int q.last), (2, .lst (xs.map .str))] := (rfl)
abbrev tS (i : Int) : Str := Str.ofString (toString i)
def nums (q : Nums) : List Int := [q.low, q.high, q.base, q.first, q.last]
def aloneB (q : Nums) (xs : List Str) : Bool := decide (xs.length = 1) && decide (q.high = q.low ∧ q.base = 2 ∧ q.first = q.low % 2 ∧ q.last = q.low % 2)
def ruleW (q : Nums) (xs : List Str) : List Str := if aloneB q xs then [("word" : Str), tS q.low] ++ xs else [("rule" : Str)] ++ (nums q).map tS ++ [(":" : Str)] ++ xs
def rowTx (w : List Str) : Str := Txt.join " " w
theorem join_1 {x : Str} : Txt.join " " [x] = x := by
  show Builtin.Str.glued _ _ = _
  rw [StrLaws.glued_eq_join]
  rfl
theorem join_c {x y : Str} {r : List Str} : Txt.join " " (x :: y :: r) = x ++ " " ++ Txt.join " " (y :: r) := by
  show Builtin.Str.glued _ _ = _ ++ Builtin.Str.glued _ _
  rw [StrLaws.glued_eq_join, StrLaws.glued_eq_join]
  rfl
theorem tl_empty : tl Str.empty = [] := rfl
theorem f_two {a b : Str} (x : Str) (h : tl a = tl x ++ [32]) : Str.empty ++ a ++ b = rowTx [x, b] := by
  unfold rowTx
  rw [join_c, join_1]
  apply str_ext
  simp only [tl_app, h, tl_empty, List.nil_append, show tl (Str.ofString " ") = [32] by decide +kernel]
theorem f_three {a b c : Str} (x : Str) (h : tl a = tl x ++ [32]) : Str.empty ++ a ++ b ++ " " ++ c = rowTx [x, b, c] := by
  unfold rowTx
  rw [join_c, join_c, join_1]
  apply str_ext
  simp only [tl_app, h, tl_empty, List.nil_append, show tl (Str.ofString " ") = [32] by decide +kernel, List.append_assoc]
theorem eqv4 {a b c d a' b' c' d' : Int} : eqv2 (.lst [.int a, .int b, .int c, .int d]) (.lst [.int a', .int b', .int c', .int d']) = some (decide (a = a' ∧ b = b' ∧ c = c' ∧ d = d')) := by
  rw [eqv_cln 1 rfl rfl rfl (by omega)]
  congr 1
  rw [decide_eq_decide]
  simp
theorem eqv4t {a b c d a' b' c' d' : Int} : eqv2 (.tup [.int a, .int b, .int c, .int d]) (.tup [.int a', .int b', .int c', .int d']) = some (decide (a = a' ∧ b = b' ∧ c = c' ∧ d = d')) := by
  rw [eqv_cln 1 rfl rfl rfl (by omega)]
  congr 1
  rw [decide_eq_decide]
  simp
theorem sum_le {ys : List Str} {b : Nat} (h : ∀ y ∈ ys, y.length ≤ b) : (ys.map (·.length)).sum ≤ ys.length * b := by
  induction ys with
  | nil => simp
  | cons y r ih =>
    have h1 := h y List.mem_cons_self
    have := ih fun x hx => h x (List.mem_cons_of_mem _ hx)
    simp only [List.map_cons, List.sum_cons, List.length_cons, Nat.succ_mul]
    omega
theorem sp_len : (Str.ofString " ").length = 1 := by decide +kernel
theorem joinLen_le {ys : List Str} {b m : Nat} (h : ∀ y ∈ ys, y.length ≤ b) (hm : ys.length ≤ m) : joinLen " " ys ≤ m * (b + 1) := by
  unfold joinLen
  rw [sp_len]
  have := sum_le h
  have := Nat.mul_le_mul_right (b + 1) hm
  rw [Nat.mul_add] at this
  omega
theorem join_le : ∀ {ys : List Str}, (Txt.join " " ys).length ≤ joinLen " " ys
  | [] => by
    have : (Txt.join " " []).length = 0 := by
      show (Builtin.Str.glued _ _).length = _
      rw [StrLaws.glued_eq_join]
      rfl
    omega
  | [x] => by rw [join_1]; simp [joinLen]
  | x :: y :: r => by
    have := join_le (ys := y :: r)
    rw [join_c, len_append, len_append, sp_len]
    unfold joinLen at *
    rw [sp_len] at *
    simp only [List.map_cons, List.sum_cons, List.length_cons] at *
    omega
/-- a row of few and short words -/
structure Rw (w : List Str) : Prop where
  len : w.length ≤ 16
  wl : ∀ x ∈ w, x.length ≤ 220
theorem Rw.jl {w : List Str} (h : Rw w) : joinLen " " w ≤ 4000 := by
  have := joinLen_le h.wl h.len
  omega
theorem Rw.tx {w : List Str} (h : Rw w) : (rowTx w).length ≤ 4000 := Nat.le_trans join_le h.jl
theorem one_of {xs : List Str} (h : itemsFit xs = true) (hl : xs.length = 1) : ∃ w, xs = [w] ∧ isWord w = true := by
  obtain ⟨w, rfl⟩ := List.length_eq_one_iff.mp hl
  refine ⟨w, rfl, ?_⟩
  unfold itemsFit at h
  simp only [Bool.and_eq_true, List.any_eq_true] at h
  obtain ⟨x, hx, hw⟩ := h.1.1.2
  rw [List.mem_singleton.mp hx] at hw
  exact hw
theorem ru_facts {q : Nums} {xs : List Str} (h : Ru q xs) : (∀ i ∈ nums q, 0 ≤ i ∧ i < 10 ^ 61) ∧ itemsFit xs = true ∧ xs.length ≤ 8 ∧ (∀ x ∈ xs, x.length ≤ 10) := by
  have h1 := h.ok
  unfold ruleOk at h1
  simp only [Bool.and_eq_true] at h1
  obtain ⟨⟨a, b⟩, c⟩ := h1
  unfold numsOk at a
  simp only [Bool.and_eq_true, decide_eq_true_eq] at a
  have := h.bl
  have := h.bh
  have := h.bb
  have hb := b
  unfold itemsFit at hb
  simp only [Bool.and_eq_true, decide_eq_true_eq, List.all_eq_true] at hb
  refine ⟨fun i hi => ?_, b, by have := hb.1.1.1.1.2; omega, fun x hx => okItem_len (hb.1.1.1.2 x hx)⟩
  simp only [nums, List.mem_cons, List.not_mem_nil, or_false] at hi
  rcases hi with rfl | rfl | rfl | rfl | rfl <;> omega
theorem tS_len {i : Int} (h : 0 ≤ i ∧ i < 10 ^ 61) : (tS i).length ≤ 62 := toString_length_le h.1 (by omega) (by omega)
theorem ruleW_rw {q : Nums} {xs : List Str} (h : Ru q xs) : Rw (ruleW q xs) := by
  obtain ⟨h1, h2, h3, h4⟩ := ru_facts h
  have c1 : ("word" : Str).length ≤ 220 ∧ ("rule" : Str).length ≤ 220 ∧ (":" : Str).length ≤ 220 := by decide +kernel
  have hn : ∀ i ∈ nums q, (tS i).length ≤ 220 := fun i hi => Nat.le_trans (tS_len (h1 i hi)) (by omega)
  unfold ruleW
  split
  · refine ⟨by simp; omega, fun x hx => ?_⟩
    simp only [List.mem_append, List.mem_cons, List.not_mem_nil, or_false] at hx
    rcases hx with (rfl | rfl) | hx
    · exact c1.1
    · exact hn _ (by simp [nums])
    · have := h4 x hx; omega
  · refine ⟨by simp [nums]; omega, fun x hx => ?_⟩
    simp only [List.mem_append, List.mem_singleton, List.mem_map] at hx
    rcases hx with ((rfl | ⟨i, hi, rfl⟩) | rfl) | hx
    · exact c1.2.1
    · exact hn i hi
    · exact c1.2.2
    · have := h4 x hx; omega
theorem p_rule_row (n : Nat) (q : Nums) (xs : List Str) (h : Ru q xs) (S : Store) : Tn G fs (n+2) 7 [.t (rDp (q, xs))] S = .ok (.t (.str (rowTx (ruleW q xs)))) S := by
  rw [t_rule_row]
  have hrw := ruleW_rw h
  obtain ⟨h1, h2, h3, h4⟩ := ru_facts h
  have ql := h1 q.low (by simp [nums])
  have : Ng q.low := ⟨ql.1⟩
  have : Bd q.low 210 := ⟨by omega⟩
  have : Ln xs 8 := ⟨h3⟩
  have : Ln (nums q) 5 := ⟨by simp [nums]⟩
  have nal : aloneB q xs = false → rowTx (ruleW q xs) = Txt.join " " ([("rule" : Str)] ++ (nums q).map tS ++ [(":" : Str)] ++ xs) ∧ joinLen " " ([("rule" : Str)] ++ (nums q).map tS ++ [(":" : Str)] ++ xs) ≤ 4000 := fun ha => by
    have := hrw.jl
    unfold ruleW at this ⊢
    rw [ha] at this ⊢
    exact ⟨rfl, this⟩
  have hcmp : ∀ S (ρ : Env') (p : Pos), ρ.length = 6 → cq (Tn G fs (n+1)) G rule_row_C0 (.nm 5 p) .nil ρ ((nums q).map D.int, none) S = .ok (.t (.lst ((nums q).map fun i => .str (tS i)))) S := by
    intro S ρ p hρ
    rw [cq_map (nums q) D.int (fun i => D.str (tS i)) ?_ (sl_n (by simp [nums]))]
    intro i hi acc
    have := h1 i hi
    have : Bd i 210 := ⟨by omega⟩
    match ρ, hρ with
    | [_, _, _, _, _, _], _ => push_cast
  have eL : [D.str "rule"] ++ (nums q).map (fun i => D.str (tS i)) ++ [D.str ":"] ++ xs.map D.str = ([("rule" : Str)] ++ (nums q).map tS ++ [(":" : Str)] ++ xs).map .str := by simp
  have en : [D.int q.low, .int q.high, .int q.base, .int q.first, .int q.last] = (nums q).map D.int := rfl
  by_cases hl : xs.length = 1
  · obtain ⟨w, rfl, hw⟩ := one_of h2 hl
    have hw1 := (isWord_len hw).2
    have : Ls w 10 := ⟨hw1⟩
    have hwd := fun S => p_is_word n w (sl_n (by omega)) S
    by_cases hc : q.high = q.low ∧ q.base = 2 ∧ q.first = q.low % 2 ∧ q.last = q.low % 2
    · have ha : aloneB q [w] = true := by simp [aloneB, hc]
      push_cast [rDp_eq, hwd, hw, eqv4, hc, and_self, decide_true]
      unfold ruleW
      rw [ha, f_three "word" (by decide +kernel)]
      rfl
    · have ha : aloneB q [w] = false := by simp [aloneB, hc]
      obtain ⟨a1, a2⟩ := nal ha
      push_cast [rDp_eq, hwd, hw, eqv4, hc]
      rw [en, hcmp _ _ _ rfl]
      push_cast
      simp only [List.map_cons, List.map_nil] at eL
      rw [eL, xm_join sx_map (by omega), a1]
      push_cast
  · have ha : aloneB q xs = false := by simp [aloneB, hl]
    obtain ⟨a1, a2⟩ := nal ha
    have hl' : ¬ (xs.length : Int) = 1 := by omega
    push_cast [rDp_eq, List.length_map, hl']
    rw [en, hcmp _ _ _ rfl]
    push_cast
    rw [eL, xm_join sx_map (by omega), a1]
    push_cast
theorem xl_tup5 {a b c d e f : D} : slice2 (.tup [a, b, c, d, e, f]) none (some 5) = some (.tup [a, b, c, d, e]) := by rfl
theorem p_l_rule_row (n : Nat) (q : Nums) (xs : List Str) (h : Ru q xs) (S : Store) : Tn G fs (n+2) 20 [.t (rTp (q, xs))] S = .ok (.t (.lst ((ruleW q xs).map .str))) S := by
  rw [t_l_rule_row]
  obtain ⟨h1, h2, h3, h4⟩ := ru_facts h
  have ql := h1 q.low (by simp [nums])
  have : Ng q.low := ⟨ql.1⟩
  have : Bd q.low 210 := ⟨by omega⟩
  have : Ln xs 8 := ⟨h3⟩
  have : Ln (nums q) 5 := ⟨by simp [nums]⟩
  have hcmp : ∀ S (ρ : Env') (p : Pos), ρ.length = 9 → cq (Tn G fs (n+1)) G l_rule_row_C0 (.nm 8 p) .nil ρ ((nums q).map D.int, none) S = .ok (.t (.lst ((nums q).map fun i => .str (tS i)))) S := by
    intro S ρ p hρ
    rw [cq_map (nums q) D.int (fun i => D.str (tS i)) ?_ (sl_n (by simp [nums]))]
    intro i hi acc
    have := h1 i hi
    have : Bd i 210 := ⟨by omega⟩
    match ρ, hρ with
    | [_, _, _, _, _, _, _, _, _], _ => push_cast
  have en : [D.int q.low, .int q.high, .int q.base, .int q.first, .int q.last] = (nums q).map D.int := rfl
  have er : rTp (q, xs) = .tup [.int q.low, .int q.high, .int q.base, .int q.first, .int q.last, .lst (xs.map .str)] := rfl
  have nal : aloneB q xs = false → [D.str "rule"] ++ (nums q).map (fun i => D.str (tS i)) ++ [D.str ":"] ++ xs.map D.str = (ruleW q xs).map .str := fun ha => by
    unfold ruleW
    rw [ha]
    simp
  by_cases hl : xs.length = 1
  · have hl' : (xs.length : Int) = 1 := by omega
    by_cases hc : q.high = q.low ∧ q.base = 2 ∧ q.first = q.low % 2 ∧ q.last = q.low % 2
    · have ha : aloneB q xs = true := by simp [aloneB, hl, hc]
      push_cast [er, List.length_map, hl', eqv4t, hc, and_self, decide_true]
      unfold ruleW
      rw [ha]
      simp only [if_true, List.map_append, List.map_cons, List.map_nil]
    · have ha : aloneB q xs = false := by simp [aloneB, hc]
      push_cast [er, List.length_map, hl', eqv4t, hc, xl_tup5]
      rw [en, hcmp _ _ _ rfl]
      push_cast [nal ha]
  · have ha : aloneB q xs = false := by simp [aloneB, hl]
    have hl' : ¬ (xs.length : Int) = 1 := by omega
    push_cast [er, List.length_map, hl', xl_tup5]
    rw [en, hcmp _ _ _ rfl]
    push_cast [nal ha]
def meltW (x : Melt) : List Str := ["melt", x.a, x.b, x.m]
def turnW (p : Str × Str) : List Str := ["turn", p.1, p.2]
def kindW (q : KK) : List (List Str) := ["kind", q.1, q.2.1] :: q.2.2.map turnW
def allW (b : Int) (rs : List (Nums × List Str)) (ms : List Melt) (qs : List KK) : List (List Str) := [[("bound" : Str), tS b]] ++ rs.map (fun p => ruleW p.1 p.2) ++ ms.map meltW ++ (qs.map kindW).flatten
abbrev wL (w : List Str) : D := .lst (w.map .str)
abbrev wX (w : List Str) : D := .str (rowTx w)
theorem six_len : ("melt" : Str).length ≤ 220 ∧ ("turn" : Str).length ≤ 220 ∧ ("kind" : Str).length ≤ 220 ∧ ("bound" : Str).length ≤ 220 := by decide +kernel
theorem meltW_rw {x : Melt} (h : meltOk x = true) : Rw (meltW x) := by
  have := meltOk_len h
  refine ⟨by simp [meltW], fun y hy => ?_⟩
  simp only [meltW, List.mem_cons, List.not_mem_nil, or_false] at hy
  rcases hy with rfl | rfl | rfl | rfl
  · exact six_len.1
  · omega
  · omega
  · omega
theorem kindW_rw {q : KK} (h : Kd q) : ∀ w ∈ kindW q, Rw w := by
  intro w hw
  rcases List.mem_cons.mp hw with rfl | hw
  · refine ⟨by simp, fun y hy => ?_⟩
    simp only [List.mem_cons, List.not_mem_nil, or_false] at hy
    have := h.tl
    have := h.el
    rcases hy with rfl | rfl | rfl
    · exact six_len.2.2.1
    · omega
    · omega
  · obtain ⟨p, hp, rfl⟩ := List.mem_map.mp hw
    have := h.fs p hp
    refine ⟨by simp [turnW], fun y hy => ?_⟩
    simp only [turnW, List.mem_cons, List.not_mem_nil, or_false] at hy
    rcases hy with rfl | rfl | rfl
    · exact six_len.2.1
    · omega
    · omega
theorem kinds_len {qs : List KK} (h : ∀ q ∈ qs, Kd q) : ((qs.map kindW).flatten).length ≤ 13 * qs.length := by
  induction qs with
  | nil => simp
  | cons q r ih =>
    have h1 := (h q List.mem_cons_self).ln
    have := ih fun x hx => h x (List.mem_cons_of_mem _ hx)
    simp only [List.map_cons, List.flatten_cons, List.length_append, List.length_cons, kindW, List.length_map]
    omega
theorem allW_rw {b : Int} {rs : List (Nums × List Str)} {ms : List Melt} {qs : List KK} (h : Da b rs ms qs) : (∀ w ∈ allW b rs ms qs, Rw w) ∧ (allW b rs ms qs).length ≤ 105 := by
  refine ⟨fun w hw => ?_, ?_⟩
  · simp only [allW, List.mem_append, List.mem_singleton, List.mem_map, List.mem_flatten] at hw
    rcases hw with ((rfl | ⟨p, hp, rfl⟩) | ⟨x, hx, rfl⟩) | ⟨l, ⟨q, hq, rfl⟩, hw⟩
    · refine ⟨by simp, fun y hy => ?_⟩
      simp only [List.mem_cons, List.not_mem_nil, or_false] at hy
      rcases hy with rfl | rfl
      · exact six_len.2.2.2
      · have := tS_len (i := b) ⟨h.b0, by have := h.b1; omega⟩; omega
    · exact ruleW_rw (h.rz p hp)
    · exact meltW_rw (h.mz x hx)
    · exact kindW_rw (h.qz q hq) w hw
  · have := kinds_len h.qz
    have := h.rl
    have := h.ml
    have := h.ql
    simp only [allW, List.length_append, List.length_map, List.length_singleton]
    omega
theorem kw_loop {n : Nat} {S : Store} {w0 w1 w2 w3 w4 w9 w10 w11 : Option W} (qs : List KK) (hk : ∀ q ∈ qs, Kd q) (acc : List (List Str)) (ha : acc.length + 13 * qs.length ≤ 1000) (j6 j7 j8 j12 : Option W) :
    ∃ k6 k7 k8, ∀ p1 p2 p3 k p, fl (Tn G fs n) G (.tp [(6, p1), (7, p2), (8, p3)] k p) l_rows_F0b (qs.map kT) [w0, w1, w2, w3, w4, some (.loc S.length), j6, j7, j8, w9, w10, w11, j12] (S ++ [some (.lst (acc.map wL))]) =
      .next [w0, w1, w2, w3, w4, some (.loc S.length), k6, k7, k8, w9, w10, w11, j12] (S ++ [some (.lst ((acc ++ (qs.map kindW).flatten).map wL))]) := by
  induction qs generalizing acc j6 j7 j8 with
  | nil => exact ⟨j6, j7, j8, fun _ _ _ _ _ => by simp [fl_nil]⟩
  | cons q r ih =>
    have hq := hk q List.mem_cons_self
    have hln := hq.ln
    simp only [List.length_cons] at ha
    obtain ⟨k6, k7, k8, ih⟩ := ih (fun x hx => hk x (List.mem_cons_of_mem _ hx)) (acc ++ kindW q) (by simp [kindW]; omega) (some (.t (.str q.1))) (some (.t (.str q.2.1))) (some (.t (.lst (q.2.2.map pr))))
    refine ⟨k6, k7, k8, fun p1 p2 p3 k p => ?_⟩
    have : Ln acc 1000 := ⟨by omega⟩
    have : Ln q.2.2 12 := ⟨hln⟩
    push_cast [List.map_cons, fl_cons, kT_eq]
    rw [cq_map q.2.2 pr (fun p => wL (turnW p)) ?_ (sl_n (by omega))]
    · have e : acc.map wL ++ [D.lst [D.str "kind", .str q.1, .str q.2.1]] ++ q.2.2.map (fun p => wL (turnW p)) = (acc ++ kindW q).map wL := by
        simp [kindW]
      push_cast [e]
      have e2 : acc ++ (kindW q :: r.map kindW).flatten = acc ++ kindW q ++ (r.map kindW).flatten := by simp
      rw [e2]
      exact ih p1 p2 p3 k p
    · intro p hp acc2
      push_cast
      rfl
theorem p_l_rows (n : Nat) (b : Int) (rs : List (Nums × List Str)) (ms : List Melt) (qs : List KK) (h : Da b rs ms qs) (S : Store) : Tn G fs (n+3) 21 [.t (dT b rs ms qs)] S = .ok (.t (.lst ((allW b rs ms qs).map wL))) S := by
  rw [t_l_rows]
  have : Bd b 210 := ⟨by have := h.b0; have := h.b1; omega⟩
  have : Ln rs 40 := ⟨h.rl⟩
  have : Ln ms 12 := ⟨h.ml⟩
  have hrl := h.rl
  have hml := h.ml
  have hql := h.ql
  push_cast [dT_eq]
  rw [cq_map rs rTp (fun p => wL (ruleW p.1 p.2)) ?_ (sl_n (by omega))]
  · push_cast
    rw [cq_map ms Melt.d (fun x => wL (meltW x)) ?_ (sl_n (by omega))]
    · obtain ⟨k6, k7, k8, hk⟩ := kw_loop (n := n + 2) (S := S) (w0 := some (.t (dT b rs ms qs))) (w1 := some (.t (.int b))) (w2 := some (.t (.lst (rs.map rTp)))) (w3 := some (.t (.lst (meltsD ms)))) (w4 := some (.t (.lst (qs.map kT)))) (w9 := none) (w10 := none) (w11 := none) qs h.qz ([[("bound" : Str), tS b]] ++ rs.map (fun p => ruleW p.1 p.2) ++ ms.map meltW) (by simp; omega) none none none none
      have e : [D.lst [D.str "bound", .str (tS b)]] ++ rs.map (fun p => wL (ruleW p.1 p.2)) ++ ms.map (fun x => wL (meltW x)) = ([[("bound" : Str), tS b]] ++ rs.map (fun p => ruleW p.1 p.2) ++ ms.map meltW).map wL := by
        simp [Function.comp_def]
      rw [dT_eq] at hk
      push_cast [e, hk]
      rfl
    · intro x hx acc
      unfold Melt.d
      push_cast
      rfl
  · intro p hp acc
    have hr := fun S => p_l_rule_row n p.1 p.2 (h.rz p hp) S
    push_cast [hr]
theorem kt_loop {n : Nat} {S : Store} {w0 w3 w4 w5 w6 w7 : Option W} (qs : List KK) (hk : ∀ q ∈ qs, Kd q) (acc : List (List Str)) (ha : acc.length + 13 * qs.length ≤ 1000) (j : Option W) :
    ∃ j', ∀ p, fl (Tn G fs n) G (.nm 2 p) tongue_text_F0b (qs.map kD) [w0, some (.loc S.length), j, w3, w4, w5, w6, w7] (S ++ [some (.lst (acc.map wX))]) =
      .next [w0, some (.loc S.length), j', w3, w4, w5, w6, w7] (S ++ [some (.lst ((acc ++ (qs.map kindW).flatten).map wX))]) := by
  induction qs generalizing acc j with
  | nil => exact ⟨j, fun _ => by simp [fl_nil]⟩
  | cons q r ih =>
    have hq := hk q List.mem_cons_self
    have hln := hq.ln
    have hrw := kindW_rw hq
    simp only [List.length_cons] at ha
    obtain ⟨j', ih⟩ := ih (fun x hx => hk x (List.mem_cons_of_mem _ hx)) (acc ++ kindW q) (by simp [kindW]; omega) (some (.t (kD q)))
    refine ⟨j', fun p => ?_⟩
    have : Ln acc 1000 := ⟨by omega⟩
    have : Ln q.2.2 12 := ⟨hln⟩
    have : Ls q.1 8 := ⟨hq.tl⟩
    have : Ls q.2.1 10 := ⟨hq.el⟩
    push_cast [List.map_cons, fl_cons, kD_eq]
    rw [cq_map q.2.2 pr (fun p => wX (turnW p)) ?_ (sl_n (by omega)), f_three "kind" (by decide +kernel)]
    · have e : acc.map wX ++ [D.str (rowTx ["kind", q.1, q.2.1])] ++ q.2.2.map (fun p => wX (turnW p)) = (acc ++ kindW q).map wX := by
        simp [kindW, Function.comp_def]
      push_cast [e]
      have e2 : acc ++ (kindW q :: r.map kindW).flatten = acc ++ kindW q ++ (r.map kindW).flatten := by simp
      rw [e2, ← kD_eq]
      exact ih p
    · intro p hp acc2
      have hw := hrw (turnW p) (List.mem_cons_of_mem _ (List.mem_map.mpr ⟨p, hp, rfl⟩))
      have hj : mt .join (.str " ") [.lst ([D.str "turn"] ++ [D.str p.1, D.str p.2])] = some (wX (turnW p)) := xm_join (ys := turnW p) rfl (by have := hw.jl; omega)
      push_cast [hj]
def textOf (ws : List (List Str)) : Str := Txt.join "" (ws.map fun w => rowTx w ++ "\n")
theorem nl_len : (Str.ofString "\n").length = 1 := by decide +kernel
theorem textOf_jl {ws : List (List Str)} (h : ∀ w ∈ ws, Rw w) (hl : ws.length ≤ 105) : joinLen "" (ws.map fun w => rowTx w ++ "\n") ≤ 16777216 := by
  have h1 : ∀ y ∈ ws.map (fun w => rowTx w ++ Str.ofString "\n"), y.length ≤ 4001 := fun y hy => by
    obtain ⟨w, hw, rfl⟩ := List.mem_map.mp hy
    have := (h w hw).tx
    rw [len_append, nl_len]
    omega
  have h2 := sum_le h1
  rw [List.length_map] at h2
  unfold joinLen
  have : (Str.ofString "").length = 0 := by decide +kernel
  rw [this]
  omega
theorem p_tongue_text (n : Nat) (b : Int) (rs : List (Nums × List Str)) (ms : List Melt) (qs : List KK) (h : Da b rs ms qs) (S : Store) : Tn G fs (n+3) 8 [.t (tD b (rs.map rDp) (meltsD ms) (qs.map kD))] S = .ok (.t (.str (textOf (allW b rs ms qs)))) S := by
  rw [t_tongue_text]
  have hb0 := h.b0
  have hb1 := h.b1
  have : Ng b := ⟨hb0⟩
  have : Bd b 210 := ⟨by omega⟩
  have : Ln rs 40 := ⟨h.rl⟩
  have : Ln ms 12 := ⟨h.ml⟩
  have hrl := h.rl
  have hml := h.ml
  have hql := h.ql
  obtain ⟨arw, aln⟩ := allW_rw h
  push_cast [tD_eq]
  rw [cq_map rs rDp (fun p => wX (ruleW p.1 p.2)) ?_ (sl_n (by omega)), f_two "bound" (by decide +kernel)]
  · push_cast [tD_eq]
    rw [cq_map ms Melt.d (fun x => wX (meltW x)) ?_ (sl_n (by omega))]
    · obtain ⟨j, hk⟩ := kt_loop (n := n + 2) (S := S) (w0 := some (.t (tD b (rs.map rDp) (meltsD ms) (qs.map kD)))) (w3 := none) (w4 := none) (w5 := none) (w6 := none) (w7 := none) qs h.qz ([[("bound" : Str), tS b]] ++ rs.map (fun p => ruleW p.1 p.2) ++ ms.map meltW) (by simp; omega) none
      have e : [D.str (rowTx ["bound", tS b])] ++ rs.map (fun p => wX (ruleW p.1 p.2)) ++ ms.map (fun x => wX (meltW x)) = ([[("bound" : Str), tS b]] ++ rs.map (fun p => ruleW p.1 p.2) ++ ms.map meltW).map wX := by
        simp [Function.comp_def]
      have ew : [[("bound" : Str), tS b]] ++ rs.map (fun p => ruleW p.1 p.2) ++ ms.map meltW ++ (qs.map kindW).flatten = allW b rs ms qs := rfl
      rw [ew, tD_eq] at hk
      push_cast [tD_eq, e, hk]
      rw [cq_map (allW b rs ms qs) wX (fun w => D.str (rowTx w ++ "\n")) ?_ (sl_n (by omega))]
      · push_cast
        rw [xm_join sx_mapf (textOf_jl arw aln)]
        push_cast
        rfl
      · intro w hw acc
        have : Ls (rowTx w) 4000 := ⟨(arw w hw).tx⟩
        push_cast
    · intro x hx acc
      have hw := meltW_rw (h.mz x hx)
      have hj : mt .join (.str " ") [.lst ([D.str "melt"] ++ [D.str x.a, D.str x.b, D.str x.m])] = some (wX (meltW x)) := xm_join (ys := meltW x) rfl (by have := hw.jl; omega)
      unfold Melt.d
      push_cast [hj]
  · intro p hp acc
    have hr := fun S => p_rule_row n p.1 p.2 (h.rz p hp) S
    push_cast [hr]
/-! the tongue made, and looked at -/
theorem p_l_tongue (n : Nat) (b : Int) (rs : List (Nums × List Str)) (ms : List Melt) (qs : List KK) (h : Da b rs ms qs) (S : Store) : Tn G fs (n+4) 19 [.t (dT b rs ms qs)] S = .ok (.t (tD b (rs.map rDp) (meltsD ms) (qs.map kD))) S := by
  rw [t_l_tongue]
  have hrl := h.rl
  have hml := h.ml
  have hql := h.ql
  push_cast [dT_eq]
  rw [cq_map rs rTp rDp ?_ (sl_n (by omega))]
  · push_cast
    rw [cq_map qs kT kD ?_ (sl_n (by omega))]
    · have hm := p_mkTongue (n + 1) b h.b0 (rs.map rDp) ms h.mz (by omega) qs h.qn (by omega) S
      push_cast [hm]
    · intro q hq acc
      have kd := h.qz q hq
      have hk := fun S => p_mkKind n q kd.ls S (.t (.lst (q.2.2.map pr))) isl_t
      simp only [kd.ok, if_true] at hk
      push_cast [kT_eq, hk]
  · rintro ⟨q, xs⟩ hp acc
    have ru := h.rz (q, xs) hp
    dsimp only at ru
    obtain ⟨h1, h2, h3, h4⟩ := ru_facts ru
    have hb := h1 q.base (by simp [nums])
    have : Bd q.base 210 := ⟨by omega⟩
    have hr := fun S => p_mkRule n q xs (m := 210) (by decide) (fun x hx => sl_n (by have := h4 x hx; omega)) (sl_n (by omega)) S (.t (.lst (xs.map .str))) isl_t
    simp only [ru.ok, if_true] at hr
    have er : rTp (q, xs) = .tup [.int q.low, .int q.high, .int q.base, .int q.first, .int q.last, .lst (xs.map .str)] := rfl
    push_cast [er, hr]
    rfl
theorem p_l_whole (n : Nat) (i : Int) (S : Store) : Tn G fs (n+1) 22 [.t (.int i)] S = .ok (.t (.bl true)) S := by
  rw [t_l_whole]
  push_cast
theorem p_l_is_rule (n : Nat) (q : Nums) (xs : List Str) (S : Store) : Tn G fs (n+2) 23 [.t (rDp (q, xs)), .t (rTp (q, xs))] S = .ok (.t (.bl true)) S := by
  rw [t_l_is_rule]
  have er : rTp (q, xs) = .tup [.int q.low, .int q.high, .int q.base, .int q.first, .int q.last, .lst (xs.map .str)] := rfl
  have en : [D.int q.low, .int q.high, .int q.base, .int q.first, .int q.last] = (nums q).map D.int := rfl
  have e1 : eqv2 (.lst [.int q.low, .int q.high, .int q.base, .int q.first, .int q.last]) (.lst [.int q.low, .int q.high, .int q.base, .int q.first, .int q.last]) = some true := eqv_self rfl rfl
  have e2 : eqv2 (.lst (xs.map .str)) (.lst (xs.map .str)) = some true := by rw [eqv_strs]; simp
  have hc : ∀ S (ρ : Env') (p : Pos), ρ.length = 5 → cq (Tn G fs (n+1)) G l_is_rule_C0 (.nm 4 p) .nil ρ ([D.int q.low, .int q.high, .int q.base, .int q.first, .int q.last], none) S = .ok (.t (.lst ((nums q).map fun _ => .bl true))) S := by
    intro S ρ p hρ
    rw [en, cq_map (nums q) D.int (fun _ => D.bl true) ?_ (sl_n (by simp [nums]))]
    intro i _ acc
    match ρ, hρ with
    | [_, _, _, _, _], _ => push_cast [p_l_whole]
  push_cast [rDp_eq, er]
  rw [hc _ _ _ rfl]
  have ha : ((nums q).map fun _ => true).all id = true := by simp [nums]
  push_cast [ha, er, e1, e2, xl_tup5]
theorem at_k {α : Type} {xs : List α} (f : α → D) {k : Nat} (h : k < xs.length) : atI (xs.map f) (k : Int) = some (f xs[k]) := by
  rw [Rf.atI_nat]
  simp [h]
theorem cln_melts {ms : List Melt} : clnd 8 (.lst (meltsD ms)) = true := by
  show (meltsD ms).all (clnd 7) = true
  rw [List.all_map, List.all_eq_true]
  intro x _
  rfl
theorem cln_kT {q : KK} : clnd 8 (kT q) = true := by
  have h : clnd 7 (.lst (q.2.2.map pr)) = true := by
    show (q.2.2.map pr).all (clnd 6) = true
    rw [List.all_map, List.all_eq_true]
    intro p _
    rfl
  rw [kT_eq]
  show ([D.str q.1, .str q.2.1, .lst (q.2.2.map pr)]).all (clnd 7) = true
  simp only [List.all_cons, h, List.all_nil, Bool.and_true]
  rfl
theorem kinds_at {n : Nat} {S : Store} {w1 w2 w3 w4 : Option W} (b : Int) (rs ms : List D) (qs : List KK) (ks : List Nat) (hk : ∀ k ∈ ks, k < qs.length) (j6 j7 j8 : Option W) :
    ∃ k6 k7, ∀ p, fl (Tn G fs n) G (.nm 6 p) l_is_tongue_F0b (ks.map fun k : Nat => .int k) [some (.t (tD b rs ms (qs.map kD))), w1, w2, w3, w4, some (.t (.lst (qs.map kT))), j6, j7, j8] S =
      .next [some (.t (tD b rs ms (qs.map kD))), w1, w2, w3, w4, some (.t (.lst (qs.map kT))), k6, k7, j8] S := by
  induction ks generalizing j6 j7 with
  | nil => exact ⟨_, _, fun _ => rfl⟩
  | cons k r ih =>
    have h := hk k List.mem_cons_self
    obtain ⟨k6, k7, ih⟩ := ih (fun x hx => hk x (List.mem_cons_of_mem _ hx)) (some (.t (.int k))) (some (.t (kD qs[k])))
    refine ⟨k6, k7, fun p => ?_⟩
    have a1 := at_k kD h
    have a2 := at_k kT h
    have e : eqv2 (.tup [.str qs[k].1, .str qs[k].2.1, .lst (qs[k].2.2.map pr)]) (kT qs[k]) = some true := by
      rw [← kT_eq]
      exact eqv_self cln_kT rfl
    rw [tD_eq, kD_eq] at ih
    rw [kD_eq] at a1
    push_cast [List.map_cons, fl_cons, tD_eq, a1, a2, e]
    exact ih p
theorem p_l_is_tongue (n : Nat) (b : Int) (rs : List (Nums × List Str)) (ms : List Melt) (qs : List KK) (h : Da b rs ms qs) (S : Store) : Tn G fs (n+3) 24 [.t (tD b (rs.map rDp) (meltsD ms) (qs.map kD)), .t (dT b rs ms qs)] S = .ok (.t (.bl true)) S := by
  rw [t_l_is_tongue]
  have hrl := h.rl
  have hql := h.ql
  have e1 := eqv_self (cln_melts (ms := ms)) rfl
  have hw := fun S => p_l_whole (n+1) b S
  obtain ⟨k6, k7, hk⟩ := kinds_at (n := n + 2) (S := S) (w1 := some (.t (dT b rs ms qs))) (w2 := some (.t (.int b))) (w3 := some (.t (.lst (rs.map rTp)))) (w4 := some (.t (.lst (meltsD ms)))) b (rs.map rDp) (meltsD ms) qs (List.range qs.length) (fun k hk => List.mem_range.mp hk) none none none
  rw [tD_eq, dT_eq] at hk
  push_cast [tD_eq, dT_eq, hw, e1, List.length_map]
  rw [rng1 (by omega), Int.toNat_natCast]
  push_cast
  rw [cq_map (List.range rs.length) (fun k : Nat => D.int k) (fun _ => D.bl true) ?_ (sl_n (by simp; omega))]
  · have ha : ((List.range rs.length).map fun _ => true).all id = true := by simp
    push_cast [ha, List.length_map]
    rw [rng1 (by omega), Int.toNat_natCast]
    push_cast [hk]
  · intro k hk acc
    have hk := List.mem_range.mp hk
    have a1 := at_k rDp hk
    have a2 := at_k rTp hk
    have hr := fun S => p_l_is_rule n rs[k].1 rs[k].2 S
    push_cast [tD_eq, a1, a2, hr]
theorem turns2 {n : Nat} {S : Store} {w0 w1 w2 w8 w9 : Option W} (b : Int) (rs : List (Nums × List Str)) (ms : List Melt) (qs : List KK) (h : Da b rs ms qs) (ks : List Nat) (j6 j7 : Option W) :
    ∃ k6 k7, ∀ p, fl (Tn G fs (n+3)) G (.nm 6 p) law_F1b (ks.map fun k : Nat => .int k) [w0, w1, w2, some (.t (dT b rs ms qs)), some (.t (tD b (rs.map rDp) (meltsD ms) (qs.map kD))), some (.t (.str (textOf (allW b rs ms qs)))), j6, j7, w8, w9] S =
      .next [w0, w1, w2, some (.t (dT b rs ms qs)), some (.t (tD b (rs.map rDp) (meltsD ms) (qs.map kD))), some (.t (.str (textOf (allW b rs ms qs)))), k6, k7, w8, w9] S := by
  induction ks generalizing j6 j7 with
  | nil => exact ⟨_, _, fun _ => rfl⟩
  | cons k r ih =>
    obtain ⟨k6, k7, ih⟩ := ih (some (.t (.int k))) (some (.t (.str (textOf (allW b rs ms qs)))))
    refine ⟨k6, k7, fun p => ?_⟩
    have ht := fun S => p_tongue_text n b rs ms qs h S
    push_cast [List.map_cons, fl_cons, ht, ih]
theorem law_loop {n : Nat} (cs : List Int) (ks : List Nat) (i : Nat) (hi : i + 1700 * ks.length ≤ 3400) (j2 j3 j4 j5 j6 j7 : Option W) :
    ∃ i' k2 k3 k4 k5 k6 k7, ∀ p, fl (Tn G fs (n+6)) G (.nm 2 p) law_F0b (ks.map fun k : Nat => .int k) [some (.t (.ro (cs.map .int))), some (.loc 0), j2, j3, j4, j5, j6, j7, none, none] [AT cs i] =
      .next [some (.t (.ro (cs.map .int))), some (.loc 0), k2, k3, k4, k5, k6, k7, none, none] [AT cs i'] := by
  induction ks generalizing i j2 j3 j4 j5 j6 j7 with
  | nil => exact ⟨i, _, _, _, _, _, _, fun _ => rfl⟩
  | cons k r ih =>
    simp only [List.length_cons] at hi
    obtain ⟨b, rs, ms, qs, i2, hd, h, hi2⟩ := p_l_data n cs i (by omega) []
    have ht := fun S => p_l_tongue (n+2) b rs ms qs h S
    have hr := fun S => p_l_rows (n+3) b rs ms qs h S
    have hs := fun S => p_l_is_tongue (n+3) b rs ms qs h S
    obtain ⟨arw, aln⟩ := allW_rw h
    obtain ⟨t6, t7, htn⟩ := turns2 (n := n+3) (S := [AT cs i2]) (w0 := some (.t (.ro (cs.map .int)))) (w1 := some (.loc 0)) (w2 := some (.t (.int k))) (w8 := none) (w9 := none) b rs ms qs h (List.range 2) j6 j7
    obtain ⟨i', k2, k3, k4, k5, k6, k7, ih⟩ := ih i2 (by omega) (some (.t (.int k))) (some (.t (dT b rs ms qs))) (some (.t (tD b (rs.map rDp) (meltsD ms) (qs.map kD)))) (some (.t (.str (textOf (allW b rs ms qs))))) t6 t7
    refine ⟨i', k2, k3, k4, k5, k6, k7, fun p => ?_⟩
    push_cast [List.map_cons, fl_cons, hd, ht, hr]
    rw [cq_map (allW b rs ms qs) wL (fun w => D.str (rowTx w ++ "\n")) ?_ (sl_n (by omega))]
    · push_cast
      rw [xm_join sx_mapf (textOf_jl arw aln)]
      change lpq (Tn G fs (n+6)) G (.nm 2 p) law_F0b _ _ = _
      push_cast
      rw [rng1 (by omega), show Int.toNat 2 = 2 from rfl]
      simp only [textOf] at htn hs ih
      push_cast [htn, hs, ih]
    · intro w hw acc
      have hrw := arw w hw
      have hj : mt .join (.str " ") [wL w] = some (.str (rowTx w)) := xm_join sx_map (by have := hrw.jl; omega)
      have : Ls (rowTx w) 4000 := ⟨hrw.tx⟩
      push_cast [hj]
theorem law_true (ns : List Int) (hn : ns.length ≤ 63) : ∃ S, Tn G fs 40 25 [.t (.ro (ns.map .int))] [] = .ok (.t (.bl true)) S := by
  rw [t_law]
  obtain ⟨i2, m2, m3, m4, m5, m6, m7, h⟩ := law_loop (n := 33) ns (List.range 2) 0 (by simp) none none none none none none
  have hA : AT ns i2 = some (.lst [.int i2, .int (bNum ns i2)]) := rfl
  push_cast [p_l_begin]
  rw [rng1 (by omega), show Int.toNat 2 = 2 from rfl]
  push_cast [h, hA]
  exact ⟨_, rfl⟩
end K32
open PySem PySem.W PyProof.Rows in
set_option maxRecDepth 100000 in
set_option maxHeartbeats 0 in
theorem PySem.Challenge.cw_numbersay_k32_tongues_written_holds : PySem.Challenge.rw_numbersay_k32_tongues_written.Holds := by
  w_on; o_law; k_head; (case hw => w_witness2)
  k_fill
  refine K32.walk (l := PySem.Challenge.rw_numbersay_k32_tongues_written) rfl rfl K32.law_true (fun w h Y => PySem.W.kIn_of Y) ?F
  case F =>
    intro w mg fa h KX G hmg
    refine' K32.all_mk KX G hmg ?e0 ?e1 ?e2 ?e3 ?e4 ?e5 ?e6 ?e7 ?e8 ?a0 ?l0 ?d0 ?k0 ?a1 ?l1 ?d1 ?k1 ?a2 ?l2 ?d2 ?k2 ?a3 ?l3 ?d3 ?k3 ?a4 ?l4 ?d4 ?k4 ?a5 ?l5 ?d5 ?k5 ?a6 ?l6 ?d6 ?k6 ?a7 ?l7 ?d7 ?k7 ?a8 ?l8 ?d8 ?k8 ?a9 ?l9 ?d9 ?k9 ?a10 ?l10 ?d10 ?k10 ?a11 ?l11 ?d11 ?k11 ?a12 ?l12 ?d12 ?k12 ?a13 ?l13 ?d13 ?k13 ?a14 ?l14 ?d14 ?k14 ?a15 ?l15 ?d15 ?k15 ?a16 ?l16 ?d16 ?k16 ?a17 ?l17 ?d17 ?k17 ?a18 ?l18 ?d18 ?k18 ?a19 ?l19 ?d19 ?k19 ?a20 ?l20 ?d20 ?k20 ?a21 ?l21 ?d21 ?k21 ?a22 ?l22 ?d22 ?k22 ?a23 ?l23 ?d23 ?k23 ?a24 ?l24 ?d24 ?k24 ?a25 ?l25 ?d25 ?k25 ?mi6 ?l26 ?d26 ?k26 ?mi7 ?l27 ?lt27 ?ut27 ?d27 ?k27 ?mi8 ?l28 ?d28 ?k28 ?z0 ?z1 ?z2 ?z3 ?z4 ?z5 ?z6 ?z7 ?z8 ?z9 ?z10 ?z11 ?q0 ?q1 ?q2 ?q3 ?u3 ?w3 ?y3 ?q4 ?mk6 ?mf6 ?mp6 ?mk7 ?mf7 ?mp7 ?mk8 ?mf8 ?mp8 ?na7_6 ?pg7 ?hd7 ?po7 ?sa7 ?na7_7 ?na7_8 ?na7_9 ?na8_10 ?pg8 ?hd8 ?po8 ?sa8 ?na8_11 ?na8_12 ?na6_0 ?pg6 ?hd6 ?po6 ?sa6 ?na6_1 ?na6_2 ?na6_3 ?na6_4 ?na6_5 ?kc8 ?rt8 ?kt0 ?hn ?ht ?ha8 ?hm8 ?kc6 ?rt6 ?kt1 ?ha6 ?hm6 ?kc7 ?rt7 ?kt2 ?ha7 ?hm7 ?rx1 ?rk1 ?xs1 ?rt1 ?rx2 ?rk2 ?xs2 ?rt2 ?rx3 ?rk3 ?xs3 ?rt3 ?rx4 ?rk4 ?xs4 ?rt4 ?rx5 ?rk5 ?xs5 ?rt5
    (case e0 => k_is)
    (case e1 => k_is)
    (case e2 => k_is)
    (case e3 => k_is)
    (case e4 => k_is)
    (case e5 => k_is)
    (case e6 => k_is)
    (case e7 => k_is)
    (case e8 => k_is)
    (case a0 => k_is)
    (case l0 => k_is)
    (case d0 => k_is)
    (case k0 => k_is)
    (case a1 => k_is)
    (case l1 => k_is)
    (case d1 => k_is)
    (case k1 => k_is)
    (case a2 => k_is)
    (case l2 => k_is)
    (case d2 => k_is)
    (case k2 => k_is)
    (case a3 => k_is)
    (case l3 => k_is)
    (case d3 => k_is)
    (case k3 => k_is)
    (case a4 => k_is)
    (case l4 => k_is)
    (case d4 => k_is)
    (case k4 => k_is)
    (case a5 => k_is)
    (case l5 => k_is)
    (case d5 => k_is)
    (case k5 => k_is)
    (case a6 => k_is)
    (case l6 => k_is)
    (case d6 => k_is)
    (case k6 => k_is)
    (case a7 => k_is)
    (case l7 => k_is)
    (case d7 => k_is)
    (case k7 => k_is)
    (case a8 => k_is)
    (case l8 => k_is)
    (case d8 => k_is)
    (case k8 => k_is)
    (case a9 => k_is)
    (case l9 => k_is)
    (case d9 => k_is)
    (case k9 => k_is)
    (case a10 => k_is)
    (case l10 => k_is)
    (case d10 => k_is)
    (case k10 => k_is)
    (case a11 => k_is)
    (case l11 => k_is)
    (case d11 => k_is)
    (case k11 => k_is)
    (case a12 => k_is)
    (case l12 => k_is)
    (case d12 => k_is)
    (case k12 => k_is)
    (case a13 => k_is)
    (case l13 => k_is)
    (case d13 => k_is)
    (case k13 => k_is)
    (case a14 => k_is)
    (case l14 => k_is)
    (case d14 => k_is)
    (case k14 => k_is)
    (case a15 => k_is)
    (case l15 => k_is)
    (case d15 => k_is)
    (case k15 => k_is)
    (case a16 => k_is)
    (case l16 => k_is)
    (case d16 => k_is)
    (case k16 => k_is)
    (case a17 => k_is)
    (case l17 => k_is)
    (case d17 => k_is)
    (case k17 => k_is)
    (case a18 => k_is)
    (case l18 => k_is)
    (case d18 => k_is)
    (case k18 => k_is)
    (case a19 => k_is)
    (case l19 => k_is)
    (case d19 => k_is)
    (case k19 => k_is)
    (case a20 => k_is)
    (case l20 => k_is)
    (case d20 => k_is)
    (case k20 => k_is)
    (case a21 => k_is)
    (case l21 => k_is)
    (case d21 => k_is)
    (case k21 => k_is)
    (case a22 => k_is)
    (case l22 => k_is)
    (case d22 => k_is)
    (case k22 => k_is)
    (case a23 => k_is)
    (case l23 => k_is)
    (case d23 => k_is)
    (case k23 => k_is)
    (case a24 => k_is)
    (case l24 => k_is)
    (case d24 => k_is)
    (case k24 => k_is)
    (case a25 => k_is)
    (case l25 => k_is)
    (case d25 => k_is)
    (case k25 => k_is)
    (case mi6 => k_is)
    (case l26 => k_is)
    (case d26 => k_is)
    (case k26 => k_is)
    (case mi7 => k_is)
    (case l27 => k_is)
    (case lt27 => k_is)
    (case ut27 => first | rfl | k_is)
    (case d27 => k_is)
    (case k27 => k_is)
    (case mi8 => k_is)
    (case l28 => k_is)
    (case d28 => k_is)
    (case k28 => k_is)
    (case z0 => k_is)
    (case z1 => k_is)
    (case z2 => k_is)
    (case z3 => k_is)
    (case z4 => k_is)
    (case z5 => k_is)
    (case z6 => k_is)
    (case z7 => k_is)
    (case z8 => k_is)
    (case z9 => k_is)
    (case z10 => k_is)
    (case z11 => k_is)
    (case q0 => k_is)
    (case q1 => k_is)
    (case q2 => k_is)
    (case q3 => k_is)
    (case u3 => k_is)
    (case w3 => decide)
    (case y3 => exact (.cons ⟨_, rfl⟩ (.cons ⟨_, rfl⟩ (.cons ⟨_, rfl⟩ (.cons ⟨_, rfl⟩ (.cons ⟨_, rfl⟩ (.cons ⟨_, rfl⟩ .nil)))))))
    (case q4 => k_is)
    (case mk6 => k_is)
    (case mf6 => k_is)
    (case mp6 => k_is)
    (case mk7 => k_is)
    (case mf7 => k_is)
    (case mp7 => k_is)
    (case mk8 => k_is)
    (case mf8 => k_is)
    (case mp8 => k_is)
    (case na7_6 => k_is)
    (case pg7 => k_is)
    (case hd7 => k_is)
    (case po7 => k_is)
    (case sa7 => k_is)
    (case na7_7 => k_is)
    (case na7_8 => k_is)
    (case na7_9 => k_is)
    (case na8_10 => k_is)
    (case pg8 => k_is)
    (case hd8 => k_is)
    (case po8 => k_is)
    (case sa8 => k_is)
    (case na8_11 => k_is)
    (case na8_12 => k_is)
    (case na6_0 => k_is)
    (case pg6 => k_is)
    (case hd6 => k_is)
    (case po6 => k_is)
    (case sa6 => k_is)
    (case na6_1 => k_is)
    (case na6_2 => k_is)
    (case na6_3 => k_is)
    (case na6_4 => k_is)
    (case na6_5 => k_is)
    (case kc8 => k_is)
    (case rt8 => k_is)
    (case kt0 => k_is)
    (case hn => k_is)
    (case ht => k_is)
    (case ha8 => k_is)
    (case hm8 => k_is)
    (case kc6 => k_is)
    (case rt6 => k_is)
    (case kt1 => k_is)
    (case ha6 => k_is)
    (case hm6 => k_is)
    (case kc7 => k_is)
    (case rt7 => k_is)
    (case kt2 => k_is)
    (case ha7 => k_is)
    (case hm7 => k_is)
    (case rx1 => k_exc)
    (case rk1 => k_is)
    (case xs1 => k_is)
    (case rt1 => k_is)
    (case rx2 => k_exc)
    (case rk2 => k_is)
    (case xs2 => k_is)
    (case rt2 => k_is)
    (case rx3 => k_exc)
    (case rk3 => k_is)
    (case xs3 => k_is)
    (case rt3 => k_is)
    (case rx4 => k_exc)
    (case rk4 => k_is)
    (case xs4 => k_is)
    (case rt4 => k_is)
    (case rx5 => k_exc)
    (case rk5 => k_is)
    (case xs5 => k_is)
    (case rt5 => k_is)
